import PyProof.Rows.All
import Wide.All
import OpenK.AllK
import Wide.FinOn
import HandS.ForMost
import KE.KDictKeyed
import KE.KeyNested
import HandS.Flow
import HandS.TupAny
import HandS.IsInst
import HandS.Wide
import HandS.Deep
import HandS.Exc
import HandS.TupMul
import HandS.CallSlots
import KE.KRevSl
import HandS.Text
import KE.DataAny
import HandS.Conv
import HandS.ExcOwn
import HandS.Iter
import HandS.Zip
import HandS.Comp
import HandS.DictComp
import HandS.Defaults
import HandS.HeadHook4
import HandS.HeadEnd
import HandS.Head2
import HandS.EndBits
import PySem.Challenge.RW_sameinall_k24_whole_above_beneath_tops
set_option Elab.async false
set_option linter.all false
set_option maxRecDepth 100000
set_option maxHeartbeats 4000000

set_option linter.all false
/-! Z1: a small pure reader of the row's syntax: values are data trees; what is changed through several names stands in a store. -/
namespace Z
open PySem

/-- a value: data that stays; a thing of the store; a list, a dict that nothing else holds; what is looked at just now; a tuple with such; the script -/
inductive RV where
  | dat (d : PyData) | ref (i : Nat) | own (vs : List RV) | odi (kvs : List (PyData × RV)) | bor (d : PyData) | tpl (vs : List RV) | scr (ns : List Int)
inductive Cell where
  | lst (xs : List RV) | dct (kvs : List (PyData × RV))
abbrev Sto := List Cell
abbrev Ev := List (Option RV)
inductive R (α : Type) where
  | ok (a : α) (st : Sto) | exc (c : Str) (xs : List RV) (st : Sto) | err
def R.bind {α β : Type} (r : R α) (f : α → Sto → R β) : R β := match r with
  | .ok a st => f a st
  | .exc c xs st => .exc c xs st
  | .err => .err
def ofO {α : Type} (o : Option α) (st : Sto) : R α := match o with
  | some a => .ok a st
  | none => .err

def lim : Nat := 16777216
def seq' (x y : Str) : Bool := x.cps.toList == y.cps.toList
def ixFrom : List Str → Str → Nat → Option Nat
  | [], _, _ => none
  | n :: r, x, i => if seq' n x then some i else ixFrom r x (i + 1)
def ix (N : List Str) (x : Str) : Option Nat := ixFrom N x 0

def dats : List RV → Option (List PyData)
  | [] => some []
  | .dat d :: r => (dats r).map (d :: ·)
  | _ :: _ => none
def datsKv : List (PyData × RV) → Option (List (PyData × PyData))
  | [] => some []
  | (k, .dat d) :: r => (datsKv r).map ((k, d) :: ·)
  | _ :: _ => none
mutual
/-- the data of what nothing else holds -/
def deep : RV → Option PyData
  | .dat d => some d
  | .own vs => (deeps vs).map .list
  | .odi kvs => (deepKv kvs).map .dict
  | _ => none
def deeps : List RV → Option (List PyData)
  | [] => some []
  | v :: r => match deep v, deeps r with
    | some d, some ds => some (d :: ds)
    | _, _ => none
def deepKv : List (PyData × RV) → Option (List (PyData × PyData))
  | [] => some []
  | (k, v) :: r => match deep v, deepKv r with
    | some d, some ds => some ((k, d) :: ds)
    | _, _ => none
end
mutual
/-- seen through -/
def vw (st : Sto) : RV → Option PyData
  | .dat d => some d
  | .own vs => (deeps vs).map .list
  | .odi kvs => (deepKv kvs).map .dict
  | .bor d => some d
  | .tpl vs => (vws st vs).map .tuple
  | .scr _ => none
  | .ref i => match st[i]? with
    | some (.lst xs) => (dats xs).map .list
    | some (.dct kvs) => (datsKv kvs).map .dict
    | none => none
def vws (st : Sto) : List RV → Option (List PyData)
  | [] => some []
  | v :: r => match vw st v, vws st r with
    | some d, some ds => some (d :: ds)
    | _, _ => none
end
mutual
/-- no list, no dict within -/
def noL : PyData → Bool
  | .list _ => false
  | .dict _ => false
  | .tuple xs => noLs xs
  | _ => true
def noLs : List PyData → Bool
  | [] => true
  | x :: r => noL x && noLs r
end
/-- seen through, with parts that stay -/
def solid (st : Sto) : RV → Option PyData
  | .bor d => match d with
    | .list xs => if noLs xs then some (.list xs) else none
    | d => if noL d then some d else none
  | .tpl _ => none
  | .scr _ => none
  | v => vw st v
mutual
/-- all lists within are held by nothing else -/
def clean : RV → Bool
  | .dat d => noL d
  | .own vs => cleans vs
  | .odi kvs => cleanKv kvs
  | _ => false
def cleans : List RV → Bool
  | [] => true
  | v :: r => clean v && cleans r
def cleanKv : List (PyData × RV) → Bool
  | [] => true
  | (_, v) :: r => clean v && cleanKv r
end
/-- data without lists and dicts, at most so deep -/
def spD : Nat → PyData → Bool
  | 0, _ => false
  | n + 1, d => match d with
    | .tuple xs => xs.all (spD n)
    | .list _ => false
    | .dict _ => false
    | _ => true
/-- what may be spoilt: lists that nothing else holds, such data, at most so deep -/
def spV : Nat → RV → Bool
  | 0, _ => false
  | n + 1, v => match v with
    | .dat d => spD (n + 1) d
    | .own vs => decide (vs.length < lim) && vs.all (spV n)
    | _ => false
def spoilOk (vs : List RV) : Bool := spV 40 (.own vs)
/-- handed on -/
def frz : RV → Option RV
  | .dat d => some (.dat d)
  | .ref i => some (.ref i)
  | .own vs => (deeps vs).map fun ds => .dat (.list ds)
  | .odi kvs => (deepKv kvs).map fun ds => .dat (.dict ds)
  | .bor d => if noL d then some (.dat d) else none
  | .tpl vs => some (.tpl vs)
  | .scr ns => some (.scr ns)
/-- an element of a new list -/
def elem : RV → Option RV
  | .dat d => some (.dat d)
  | .own vs => some (.own vs)
  | .odi kvs => some (.odi kvs)
  | .bor d => if noL d then some (.dat d) else none
  | _ => none
/-- a part of what is looked at -/
def part (d : PyData) : RV := if noL d then .dat d else .bor d

/-! ### operations on data -/
def truth : PyData → Option Bool
  | .none => some false
  | .bool b => some b
  | .int i => some (i != 0)
  | .str s => if s.length ≤ lim then some ((s.length : Int) != 0) else none
  | .list xs => some (!xs.isEmpty)
  | .tuple xs => some (!xs.isEmpty)
  | .dict _ => none
def isFlat : PyData → Bool
  | .none | .bool _ | .int _ | .str _ => true
  | _ => false
/-- may be looked through for == -/
def eqok (a b : PyData) : Bool := match a, b with
  | .none, .none => true | .none, .int _ => true | .int _, .none => true | .none, .bool _ => true | .bool _, .none => true | .none, .str _ => true | .str _, .none => true
  | .int _, .int _ => true | .bool _, .bool _ => true | .str _, .str _ => true
  | .int _, .str _ => true | .str _, .int _ => true | .bool _, .str _ => true | .str _, .bool _ => true
  | a, b => SeqAt.shaped a && SeqAt.shaped b
def eqD (a b : PyData) : Option Bool := if eqok a b then some (PyData.eqv a b) else none
def ltS (a b : Str) : Bool := decide (a.cps.toList < b.cps.toList)
/-- is the sign, the text, within -/
def inS (a b : Str) : Bool := !(Builtin.Str.occurrences b a 0 b.length 1).isEmpty
def inT (x : PyData) (xs : List PyData) : Option Bool := if isFlat x && xs.all isFlat then some (xs.any fun z => PyData.eqv z x) else none
def inL (x : PyData) (xs : List PyData) : Option Bool := if (isFlat x && xs.all isFlat) || (SeqAt.shaped x && SeqAt.shaped (.list xs)) then some (xs.any fun z => PyData.eqv z x) else none
def cmpD (op : CmpOp) (a b : PyData) : Option Bool := match op with
  | .Eq => eqD a b
  | .NotEq => (eqD a b).map (!·)
  | .Is => match b with
    | .none => some (match a with | .none => true | _ => false)
    | _ => none
  | .IsNot => match b with
    | .none => some (match a with | .none => false | _ => true)
    | _ => none
  | .Lt => match a, b with
    | .int i, .int j => some (decide (i < j))
    | .str x, .str y => some (ltS x y)
    | _, _ => none
  | .LtE => match a, b with
    | .int i, .int j => some (decide (i ≤ j))
    | .str x, .str y => some (!ltS y x)
    | _, _ => none
  | .Gt => match a, b with
    | .int i, .int j => some (decide (j < i))
    | .str x, .str y => some (ltS y x)
    | _, _ => none
  | .GtE => match a, b with
    | .int i, .int j => some (decide (j ≤ i))
    | .str x, .str y => some (!ltS x y)
    | _, _ => none
  | .In => match b with
    | .list xs => inL a xs
    | .tuple xs => inT a xs
    | .str y => match a with
      | .str x => some (inS x y)
      | _ => none
    | _ => none
  | .NotIn => match b with
    | .list xs => (inL a xs).map (!·)
    | .tuple xs => (inT a xs).map (!·)
    | .str y => match a with
      | .str x => some (!inS x y)
      | _ => none
    | _ => none
def mulOk (i j : Int) : Bool := decide (i.natAbs.log2 + j.natAbs.log2 < 1000000)
def repL (xs : List PyData) (k : Nat) : List PyData := (List.replicate k xs).flatten
/-- a result: a thing that stays, a new list -/
def binD (op : Operator) (a b : PyData) : Option RV := match op, a, b with
  | .Add, .int i, .int j => some (.dat (.int (i + j)))
  | .Sub, .int i, .int j => some (.dat (.int (i - j)))
  | .Mult, .int i, .int j => if mulOk i j then some (.dat (.int (i * j))) else none
  | .FloorDiv, .int i, .int j => if 0 < j ∧ j.natAbs.log2 < 9000 then some (.dat (.int (i / j))) else none
  | .Mod, .int i, .int j => if 0 < j then some (.dat (.int (i % j))) else none
  | .Pow, .int i, .int j => if 0 ≤ j ∧ j ≤ 1000000 ∧ i.natAbs < 2 ^ 64 then some (.dat (.int (i ^ j.toNat))) else none
  | .Add, .str x, .str y => if x.length + y.length ≤ lim then some (.dat (.str (x ++ y))) else none
  | .Add, .tuple xs, .tuple ys => if xs.length + ys.length ≤ lim then some (.dat (.tuple (xs ++ ys))) else none
  | .Add, .list xs, .list ys => if xs.length + ys.length ≤ lim then some (.own ((xs ++ ys).map .dat)) else none
  | .Mult, .list xs, .int k => if k.natAbs < 2 ^ 62 ∧ xs.length * k.toNat ≤ lim then some (.own ((repL xs k.toNat).map .dat)) else none
  | .Mult, .tuple xs, .int k => if xs ≠ [] ∧ 2 ≤ k ∧ k ≤ 1000 ∧ xs.length ≤ 1000 then some (.dat (.tuple (repL xs k.toNat))) else none
  | _, _, _ => none
/-- a place told by an int, from the end if negative -/
def place (n : Nat) (i : Int) : Option Nat := if 0 ≤ i then (if i.toNat < n then some i.toNat else none) else if 0 ≤ i + n then some (i + n).toNat else none
def signs (s : Str) : List PyData := s.cps.toList.map fun c => .str ⟨#[c]⟩
def itemSeq (a : PyData) (i : PyData) : Option PyData := match a, i with
  | .list xs, .int k => (place xs.length k).bind fun j => xs[j]?
  | .tuple xs, .int k => (place xs.length k).bind fun j => xs[j]?
  | .str s, .int k => if lim < s.length then none else (place s.length k).bind fun j => (s.cps.toList[j]?).map fun c => .str ⟨#[c]⟩
  | _, _ => none
/-- where a slice begins, ends -/
def cutAt (n : Nat) (i : Int) : Nat := if i < 0 then (i + n).toNat else min i.toNat n
def cutL {α : Type} (xs : List α) (lo hi : Option Int) : List α := (xs.take (match hi with | some j => cutAt xs.length j | none => xs.length)).drop (match lo with | some i => cutAt xs.length i | none => 0)
def sliceD (a : PyData) (lo hi : Option Int) : Option RV := match a with
  | .list xs => some (.own ((cutL xs lo hi).map .dat))
  | .tuple xs => some (.dat (.tuple (cutL xs lo hi)))
  | .str s => if s.length ≤ lim then some (.dat (.str ⟨(cutL s.cps.toList lo hi).toArray⟩)) else none
  | _ => none

/-! ### keys of dicts -/
mutual
def keyD : PyData → Option NestedKey
  | .none => some .none
  | .bool b => some (.num (if b then 1 else 0))
  | .int i => some (.num i)
  | .str s => some (.text s)
  | .tuple xs => (keyDs xs).map .tup
  | _ => none
def keyDs : List PyData → Option (List NestedKey)
  | [] => some []
  | x :: r => match keyD x, keyDs r with
    | some k, some ks => some (k :: ks)
    | _, _ => none
end
def leafK : PyData → Bool
  | .none | .int _ | .str _ => true
  | _ => false
/-- a key -/
def keyG (k : PyData) : Bool := match k with
  | .bool _ => false
  | k => match keyD k with
    | some ke => decide (ke.depth ≤ 8)
    | none => false
/-- a key that fits the other keys -/
def keyOk {α : Type} (k : PyData) (kvs : List (PyData × α)) : Bool := keyG k && kvs.all fun p => leafK p.1 == leafK k
def sameKey (a b : PyData) : Bool := match keyD a, keyD b with
  | some x, some y => NestedKey.beq x y
  | _, _ => false
def getK {α : Type} (kvs : List (PyData × α)) (k : PyData) : Option α := (kvs.find? fun p => sameKey p.1 k).map (·.2)
def putK {α : Type} (kvs : List (PyData × α)) (k : PyData) (v : α) : List (PyData × α) := if kvs.any fun p => sameKey p.1 k then kvs.map fun p => if sameKey p.1 k then (p.1, v) else p else kvs ++ [(k, v)]

/-! ### what is told of the program, and marks by place -/
structure Cfg where
  /-- a def's parameters -/
  ps : Str → Option (List Str)
  /-- a module's value -/
  glob : Str → Option PyData
  /-- a display that is laid in the store -/
  cell : Pos → Bool
  /-- a statement that stores a list which its slot alone holds -/
  own : Pos → Bool
  /-- slots that are held by more from here on -/
  fz : Pos → List Nat
  /-- defs that spoil what they are handed -/
  kill : Str → Bool
  /-- turns of a while -/
  turns : Nat
variable (cf : Cfg) (C : Str → List RV → Sto → R RV) (N : List Str)

/-! ### parts, one behind another -/
section
variable (ev : Expr → Ev → Sto → R RV)
/-- handed on -/
def evF (e : Expr) (env : Ev) (st : Sto) : R RV := (ev e env st).bind fun v st => ofO (frz v) st
def evV (e : Expr) (env : Ev) (st : Sto) : R PyData := (ev e env st).bind fun v st => ofO (vw st v) st
def evS (e : Expr) (env : Ev) (st : Sto) : R PyData := (ev e env st).bind fun v st => ofO (solid st v) st
def truthOf (v : RV) (st : Sto) : R Bool := ofO ((vw st v).bind truth) st
def evT (e : Expr) (env : Ev) (st : Sto) : R Bool := (ev e env st).bind truthOf
/-- things that are handed on or looked at -/
def evL : List Expr → Ev → Sto → R (List RV)
  | [], _, st => .ok [] st
  | e :: r, env, st => (ev e env st).bind fun v st => (evL r env st).bind fun vs st => .ok (v :: vs) st
/-- new ones become data that stays -/
def keepV : RV → Option RV
  | .own vs => (deeps vs).map fun ds => .dat (.list ds)
  | .odi kvs => (deepKv kvs).map fun ds => .dat (.dict ds)
  | .bor d => some (part d)
  | v => some v
def keeps : List RV → Option (List RV)
  | [] => some []
  | v :: r => match keepV v, keeps r with
    | some w, some ws => some (w :: ws)
    | _, _ => none
def evK (es : List Expr) (env : Ev) (st : Sto) : R (List RV) := (evL ev es env st).bind fun vs st => ofO (keeps vs) st
def elems : List RV → Option (List RV)
  | [] => some []
  | v :: r => match elem v, elems r with
    | some w, some ws => some (w :: ws)
    | _, _ => none
def allDat : List RV → Bool
  | [] => true
  | .dat _ :: r => allDat r
  | _ :: _ => false
def evOpt : Option Expr → Ev → Sto → R (Option Int)
  | none, _, st => .ok none st
  | some e, env, st => (evV ev e env st).bind fun d st => match d with
    | .int i => .ok (some i) st
    | _ => .err
def evAnd : List Expr → Ev → Sto → R RV
  | [], _, _ => .err
  | [e], env, st => ev e env st
  | e :: r, env, st => (ev e env st).bind fun v st => (truthOf v st).bind fun b st => if b then evAnd r env st else .ok v st
def evOr : List Expr → Ev → Sto → R RV
  | [], _, _ => .err
  | [e], env, st => ev e env st
  | e :: r, env, st => (ev e env st).bind fun v st => (truthOf v st).bind fun b st => if b then .ok v st else evOr r env st
/-- an element that goes to the store: a new list is laid there -/
def laid (v : RV) (st : Sto) : R RV := match v with
  | .own vs => (ofO (deeps vs) st).bind fun ds st => .ok (.ref st.length) (st ++ [.lst (ds.map .dat)])
  | .odi kvs => (ofO (deepKv kvs) st).bind fun ds st => .ok (.ref st.length) (st ++ [.dct (ds.map fun p => (p.1, .dat p.2))])
  | .bor d => if noL d then .ok (.dat d) st else .err
  | .tpl _ => .err
  | .scr _ => .err
  | v => .ok v st
def evCells : List Expr → Ev → Sto → R (List RV)
  | [], _, st => .ok [] st
  | e :: r, env, st => ((ev e env st).bind laid).bind fun v st => (evCells r env st).bind fun vs st => .ok (v :: vs) st
def evPairsO : List (Option Expr) → List Expr → Ev → Sto → R (List (PyData × RV))
  | [], [], _, st => .ok [] st
  | some k :: ks, v :: vs, env, st => (evV ev k env st).bind fun kd st => if leafK kd then ((ev v env st).bind fun v st => ofO (elem v) st).bind fun w st => (evPairsO ks vs env st).bind fun r st => .ok ((kd, w) :: r) st else .err
  | _, _, _, _ => .err
def evPairs : List (Option Expr) → List Expr → Ev → Sto → R (List (PyData × RV))
  | [], [], _, st => .ok [] st
  | some k :: ks, v :: vs, env, st => (evV ev k env st).bind fun kd st => if leafK kd then ((ev v env st).bind laid).bind fun w st => (evPairs ks vs env st).bind fun r st => .ok ((kd, w) :: r) st else .err
  | _, _, _, _ => .err
/-- a display's entries: their keys differ -/
def putAll (kvs : List (PyData × RV)) : List (PyData × RV) → Option (List (PyData × RV))
  | [] => some kvs
  | (k, v) :: r => if keyOk k kvs && !(kvs.any fun p => sameKey p.1 k) then putAll (kvs ++ [(k, v)]) r else none
def kwGet (kws : List (Str × RV)) (x : Str) : Option RV := match kws with
  | [] => none
  | (n, v) :: r => if seq' n x then some v else kwGet r x
def reorder (kws : List (Str × RV)) : List Str → Option (List RV)
  | [] => some []
  | p :: r => match kwGet kws p, reorder kws r with
    | some v, some vs => some (v :: vs)
    | _, _ => none
def kwNames : List Keyword → Option (List Str)
  | [] => some []
  | ⟨some n, _, _⟩ :: r => (kwNames r).map (n :: ·)
  | _ :: _ => none
def kwExprs (ks : List Keyword) : List Expr := ks.map fun k => k.value
def rangeL (a b c : Int) : Option (List RV) := if c = 0 then none else
  let n := if 0 < c then ((b - a + c - 1) / c).toNat else ((a - b + (-c) - 1) / (-c)).toNat
  if a.natAbs < 2 ^ 62 ∧ b.natAbs < 2 ^ 62 ∧ c.natAbs < 2 ^ 30 ∧ n ≤ lim then some ((List.range n).map fun (i : Nat) => .dat (.int (a + c * i))) else none
def numb (i : Int) : List PyData → List RV
  | [] => []
  | d :: r => .dat (.tuple [.int i, d]) :: numb (i + 1) r
def zip2 : List PyData → List PyData → List RV
  | a :: r, b :: s => .dat (.tuple [a, b]) :: zip2 r s
  | _, _ => []
def seqD : PyData → Option (List PyData)
  | .dict kvs => some (kvs.map (·.1))
  | .list xs => some xs
  | .tuple xs => some xs
  | .str s => some (signs s)
  | _ => none
/-- a list's, a tuple's items -/
def seqL : PyData → Option (List PyData)
  | .list xs => some xs
  | .tuple xs => some xs
  | _ => none
/-- the items of what is looked at -/
def itemsV (fs : Bool) (st : Sto) (v : RV) : Option (List RV) := match v with
  | .bor d => if fs then none else (seqL d).map (·.map part)
  | .own vs => (deeps vs).map (·.map .dat)
  | .tpl vs => some vs
  | .dat d => (seqL d).map (·.map .dat)
  | _ => none
def solid' (fs : Bool) (st : Sto) (v : RV) : Option PyData := match v with
  | .ref _ => none
  | .bor d => if fs then none else solid st (.bor d)
  | v => solid st v
def enumD : PyData → Option (List RV)
  | .list xs => some (numb 0 xs)
  | _ => none
def zipD : PyData → PyData → Option (List RV)
  | .list xs, .list ys => some (zip2 xs ys)
  | .tuple xs, .tuple ys => some (zip2 xs ys)
  | _, _ => none
def range2 : PyData → PyData → Option (List RV)
  | .int i, .int j => rangeL i j 1
  | _, _ => none
def range1 : PyData → Option (List RV)
  | .int j => rangeL 0 j 1
  | _ => none
/-- what is walked -/
def evI (fs : Bool) (e : Expr) (env : Ev) (st : Sto) : R (List RV) := match e with
  | .Call (.Name f p) [a] [] q =>
    if seq' f "range" then (ev a env st).bind fun v st => (ofO (vw st v) st).bind fun d st => ofO (range1 d) st
    else if seq' f "enumerate" then (ev a env st).bind fun v st => (ofO (solid' fs st v) st).bind fun d st => ofO (enumD d) st
    else (ev (.Call (.Name f p) [a] [] q) env st).bind fun v st => ofO (itemsV fs st v) st
  | .Call (.Name f p) [a, b] [] q =>
    if seq' f "range" then (ev a env st).bind fun v st => (ev b env st).bind fun u st => (ofO (vw st v) st).bind fun x st => (ofO (vw st u) st).bind fun y st => ofO (range2 x y) st
    else if seq' f "zip" then (ev a env st).bind fun v st => (ev b env st).bind fun u st => (ofO (solid' fs st v) st).bind fun x st => (ofO (solid' fs st u) st).bind fun y st => ofO (zipD x y) st
    else (ev (.Call (.Name f p) [a, b] [] q) env st).bind fun v st => ofO (itemsV fs st v) st
  | e => (ev e env st).bind fun v st => ofO (itemsV fs st v) st
end

/-! ### targets -/
def setE (env : Ev) (i : Nat) (v : RV) : Ev := env.set i (some v)
def asgN (x : Str) (v : RV) (env : Ev) : Option Ev := (ix N x).map fun i => setE env i v
def asgNs : List Expr → List RV → Ev → Option Ev
  | [], [], env => some env
  | .Name x _ :: r, d :: ds, env => (asgN N x d env).bind (asgNs r ds)
  | _, _, _ => none
/-- a target of names -/
def asgT (t : Expr) (v : RV) (env : Ev) : Option Ev := match t with
  | .Name x _ => asgN N x v env
  | .Tuple es _ _ => match v with
    | .dat (.tuple ds) => asgNs N es (ds.map .dat) env
    | .tpl vs => asgNs N es vs env
    | _ => none
  | _ => none

/-! ### comprehensions -/
/-- a block's own names, by slot -/
def ownIx (sc : Scope) : List Nat := sc.names.filterMap fun y => match y.2 with
  | .local => ix N y.1
  | .cell => ix N y.1
  | _ => none
def wipeE (env : Ev) : List Nat → Ev
  | [] => env
  | v :: vs => (wipeE env vs).set v none
section
variable (ev : Expr → Ev → Sto → R RV)
def tests : List Expr → Ev → Sto → R Bool
  | [], _, st => .ok true st
  | c :: r, env, st => (evT ev c env st).bind fun b st => if b then tests r env st else .ok false st
/-- a block that lets nothing out -/
def noExc {α : Type} : R α → R α
  | .exc _ _ _ => .err
  | r => r
/-- one clause over its items -/
def lcF (tg : Expr) (ifs : List Expr) (elt : Ev → Sto → R (List RV)) (env : Ev) : List RV → Sto → R (List RV)
  | [], st => .ok [] st
  | x :: r, st => (ofO (asgT N tg x env) st).bind fun env' st => (tests ev ifs env' st).bind fun b st =>
    (if b then elt env' st else .ok [] st).bind fun ds st => (lcF tg ifs elt env r st).bind fun es st => .ok (ds ++ es) st
def lcE (elt : Expr) (env : Ev) (st : Sto) : R (List RV) := (ev elt env st).bind fun v st => (ofO (elem v) st).bind fun w st => .ok [w] st
def lcG (elt : Expr) : List Comprehension → Ev → Sto → R (List RV)
  | [], env, st => lcE ev elt env st
  | ⟨tg, it, ifs, _⟩ :: r, env, st => (evI ev false it env st).bind fun xs st => lcF N ev tg ifs (lcG elt r) env xs st
/-- the first clause's items are reckoned ahead of the block -/
def lcTop (elt : Expr) (gs : List Comprehension) (sc : Scope) (env : Ev) (st : Sto) : R (List RV) := match gs with
  | ⟨tg, it, ifs, _⟩ :: r => (evI ev false it env st).bind fun xs st => (noExc (lcF N ev tg ifs (lcG N ev elt r) (wipeE env (ownIx N sc)) xs st)).bind fun ds st => if ds.length ≤ lim then .ok ds st else .err
  | [] => .err
def isDat : RV → Bool
  | .dat _ => true
  | _ => false
def dcF (tg : Expr) (ifs : List Expr) (k v : Expr) (env : Ev) : List RV → List (PyData × RV) → Sto → R (List (PyData × RV))
  | [], acc, st => .ok acc st
  | x :: r, acc, st => (ofO (asgT N tg x env) st).bind fun env' st => (tests ev ifs env' st).bind fun b st =>
    if b then (evV ev k env' st).bind fun kd st => ((ev v env' st).bind fun v st => ofO (elem v) st).bind fun w st => if keyOk kd acc && (isDat w || !(acc.any fun p => sameKey p.1 kd)) && decide (acc.length < lim) then dcF tg ifs k v env r (putK acc kd w) st else .err
    else dcF tg ifs k v env r acc st
def dcTop (k v : Expr) (gs : List Comprehension) (sc : Scope) (env : Ev) (st : Sto) : R RV := match gs with
  | [⟨tg, it, ifs, _⟩] => (evI ev false it env st).bind fun xs st => (noExc (dcF N ev tg ifs k v (wipeE env (ownIx N sc)) xs [] st)).bind fun kvs st => .ok (.odi kvs) st
  | _ => .err
end

/-! ### built-ins -/
def typeHas (T : Str) (d : PyData) : Option Bool :=
  if seq' T "list" then some (match d with | .list _ => true | _ => false)
  else if seq' T "tuple" then some (match d with | .tuple _ => true | _ => false)
  else if seq' T "int" then some (match d with | .int _ => true | .bool _ => true | _ => false)
  else if seq' T "bool" then some (match d with | .bool _ => true | _ => false)
  else if seq' T "str" then some (match d with | .str _ => true | _ => false)
  else if seq' T "dict" then some (match d with | .dict _ => true | _ => false)
  else none
/-- the kind that a value shows -/
def kindOf (st : Sto) : RV → Option PyData
  | .dat d => some d
  | .own _ => some (.list [])
  | .odi _ => some (.dict [])
  | .bor d => some d
  | .tpl _ => some (.tuple [])
  | .scr _ => none
  | .ref i => match st[i]? with
    | some (.lst _) => some (.list [])
    | some (.dct _) => some (.dict [])
    | none => none
def typesHave : List Expr → PyData → Option Bool
  | [], _ => some false
  | .Name T _ :: r, d => match typeHas T d, typesHave r d with
    | some a, some b => some (a || b)
    | _, _ => none
  | _ :: _, _ => none
def truths : List PyData → Option (List Bool)
  | [] => some []
  | d :: r => match truth d, truths r with
    | some b, some bs => some (b :: bs)
    | _, _ => none
def intsD : List PyData → Option (List Int)
  | [] => some []
  | .int i :: r => (intsD r).map (i :: ·)
  | _ => none
def maxL : List Int → Int → Int
  | [], m => m
  | i :: r, m => maxL r (if i > m then i else m)
def minL : List Int → Int → Int
  | [], m => m
  | i :: r, m => minL r (if i < m then i else m)
def lenV (st : Sto) : RV → Option Nat
  | .dat (.list xs) => some xs.length
  | .dat (.tuple xs) => some xs.length
  | .dat (.str s) => if s.length ≤ lim then some s.length else none
  | .own vs => some vs.length
  | .odi kvs => some kvs.length
  | .tpl vs => some vs.length
  | .dat (.dict kvs) => some kvs.length
  | .bor (.dict kvs) => some kvs.length
  | .bor (.list xs) => some xs.length
  | .bor (.tuple xs) => some xs.length
  | .ref i => match st[i]? with
    | some (.lst xs) => some xs.length
    | some (.dct kvs) => some kvs.length
    | none => none
  | _ => none
/-- a built-in of one thing that is seen through -/
def blt1 (f : Str) (d : PyData) : Option RV :=
  if seq' f "all" then match d with
    | .list xs => (truths xs).map fun bs => .dat (.bool (bs.all id))
    | _ => none
  else if seq' f "any" then match d with
    | .list xs => (truths xs).map fun bs => .dat (.bool (bs.any id))
    | _ => none
  else if seq' f "tuple" then match d with
    | .list xs => some (.dat (.tuple xs))
    | .tuple xs => some (.dat (.tuple xs))
    | _ => none
  else if seq' f "list" then match d with
    | .list xs => some (.own (xs.map .dat))
    | .tuple xs => some (.own (xs.map .dat))
    | _ => none
  else if seq' f "int" then match d with
    | .int i => some (.dat (.int i))
    | .bool b => some (.dat (.int (if b then 1 else 0)))
    | _ => none
  else if seq' f "abs" then match d with
    | .int i => some (.dat (.int (if i < 0 then -i else i)))
    | _ => none
  else if seq' f "sum" then match d with
    | .list xs => (intsD xs).map fun is => .dat (.int is.sum)
    | _ => none
  else if seq' f "max" then match d with
    | .list (.int i :: xs) => (intsD xs).map fun is => .dat (.int (maxL is i))
    | _ => none
  else none
def blt2 (f : Str) (a b : PyData) : Option RV :=
  if seq' f "max" then match a, b with
    | .int i, .int j => some (.dat (.int (if j > i then j else i)))
    | _, _ => none
  else if seq' f "min" then match a, b with
    | .int i, .int j => some (.dat (.int (if j < i then j else i)))
    | _, _ => none
  else none

/-! ### things of the store -/
def setAt (st : Sto) (i : Nat) (c : Cell) : Sto := st.set i c
def cellItem (st : Sto) (i : Nat) (k : PyData) : Option RV := match st[i]? with
  | some (.lst xs) => match k with
    | .int z => (place xs.length z).bind fun j => xs[j]?
    | _ => none
  | some (.dct kvs) => if keyOk k kvs then getK kvs k else none
  | none => none
def cellPut (st : Sto) (i : Nat) (k : PyData) (v : PyData) : Option Sto := match st[i]? with
  | some (.lst xs) => match k with
    | .int z => (place xs.length z).map fun j => setAt st i (.lst (xs.set j (.dat v)))
    | _ => none
  | some (.dct kvs) => if keyOk k kvs ∧ kvs.length < lim then some (setAt st i (.dct (putK kvs k (.dat v)))) else none
  | none => none
/-- a method of a thing of the store -/
def cellMeth (m : Str) (i : Nat) (as : List RV) (st : Sto) : R RV := match st[i]? with
  | some (.lst xs) =>
    if seq' m "append" then match as with
      | [.dat d] => if xs.length < lim then .ok (.dat .none) (setAt st i (.lst (xs ++ [.dat d]))) else .err
      | _ => .err
    else if seq' m "pop" then match as with
      | [.dat (.int z)] => match place xs.length z with
        | some j => match xs[j]? with
          | some v => .ok v (setAt st i (.lst (xs.eraseIdx j)))
          | none => .err
        | none => .err
      | _ => .err
    else .err
  | some (.dct kvs) =>
    if seq' m "get" then match as with
      | [.dat k] => if keyOk k kvs then .ok ((getK kvs k).getD (.dat .none)) st else .err
      | [.dat k, v] => if keyOk k kvs then .ok ((getK kvs k).getD v) st else .err
      | _ => .err
    else .err
  | none => .err

/-- whose method: a list's, a dict's -/
def methT (m : Str) : Option Bool := if seq' m "append" then some true else if seq' m "pop" then some true else none
def methOk (l : Bool) (v : RV) (st : Sto) : Bool := match v with
  | .ref i => match st[i]? with
    | some (.lst _) => l
    | some (.dct _) => !l
    | none => false
  | _ => false
def methR (m : Str) (v : RV) (vs : List RV) (st : Sto) : R RV := match v with
  | .ref i => cellMeth m i vs st
  | _ => .err

/-! ### expressions -/
def itemD (a : PyData) (k : PyData) : Option PyData := match a with
  | .dict kvs => if keyOk k kvs then getK kvs k else none
  | a => itemSeq a k
def subR (v : RV) (k : PyData) (st : Sto) : R RV := match v with
  | .ref i => ofO (cellItem st i k) st
  | .dat d => (ofO (itemD d k) st).bind fun x st => .ok (.dat x) st
  | .tpl vs => match k with
    | .int z => ofO ((place vs.length z).bind fun j => vs[j]?) st
    | _ => .err
  | v => (ofO (vw st v) st).bind fun d st => (ofO (itemD d k) st).bind fun x st => .ok (part x) st
def inR (neg : Bool) (k : PyData) (v : RV) (st : Sto) : R RV :=
  let other : R RV := (ofO (vw st v) st).bind fun d st => match d with
    | .dict kvs => if keyOk k kvs then .ok (.dat (.bool (if neg then !(getK kvs k).isSome else (getK kvs k).isSome))) st else .err
    | d => (ofO (cmpD (if neg then .NotIn else .In) k d) st).bind fun b st => .ok (.dat (.bool b)) st
  match v with
  | .ref i => match st[i]? with
    | some (.dct kvs) => if keyOk k kvs then .ok (.dat (.bool (if neg then !(getK kvs k).isSome else (getK kvs k).isSome))) st else .err
    | _ => other
  | _ => other
/-- a comparison of two things -/
def cmpR (op : CmpOp) (a b : RV) (st : Sto) : R RV := match op with
  | .In => (ofO (vw st a) st).bind fun k st => inR false k b st
  | .NotIn => (ofO (vw st a) st).bind fun k st => inR true k b st
  | op => (ofO (vw st a) st).bind fun x st => (ofO (vw st b) st).bind fun y st => (ofO (cmpD op x y) st).bind fun c st => .ok (.dat (.bool c)) st
mutual
def isBor : RV → Bool
  | .bor _ => true
  | .tpl vs => anyBor vs
  | _ => false
def anyBor : List RV → Bool
  | [] => false
  | v :: r => isBor v || anyBor r
end
/-- a def is called: as it is; or, where something is just looked at, with all as data and no store, and nothing of it may come back -/
def callR (f : Str) (vs : List RV) (st : Sto) : R RV := if anyBor vs then match vws st vs with
    | some ds => match C f (ds.map .dat) [] with
      | .ok v _ => if clean v then .ok v st else .err
      | _ => .err
    | none => .err
  else C f vs st
def blt1V (f : Str) (v : RV) (st : Sto) : R RV := match v with
  | .scr ns => if seq' f "list" then .ok (.own (ns.map fun i => .dat (.int i))) st else .err
  | v => (ofO (solid st v) st).bind fun d st => ofO (blt1 f d) st
def isB1 (f : Str) : Bool := seq' f "all" || seq' f "any" || seq' f "tuple" || seq' f "int" || seq' f "abs" || seq' f "sum" || seq' f "max" || seq' f "list"
def isB2 (f : Str) : Bool := seq' f "max" || seq' f "min"
def callB (ev : Expr → Ev → Sto → R RV) (f : Str) (as : List Expr) (env : Ev) (st : Sto) : R RV := match as with
  | [] => .err
  | [a] =>
    if seq' f "len" then (ev a env st).bind fun v st => (ofO (lenV st v) st).bind fun n st => .ok (.dat (.int n)) st
    else match a with
      | .Call (.Name g _) [b] [] _ => if seq' f "list" && seq' g "range" then (evV ev b env st).bind fun d st => match d with
          | .int j => (ofO (rangeL 0 j 1) st).bind fun xs st => .ok (.own xs) st
          | _ => .err
        else if isB1 f then (ev a env st).bind fun v st => blt1V f v st else .err
      | a => if isB1 f then (ev a env st).bind fun v st => blt1V f v st else .err
  | [a, b] =>
    if seq' f "isinstance" then (ev a env st).bind fun v st => (ofO (kindOf st v) st).bind fun d st => match b with
      | .Name T _ => (ofO (typeHas T d) st).bind fun r st => .ok (.dat (.bool r)) st
      | .Tuple es _ _ => (ofO (typesHave es d) st).bind fun r st => .ok (.dat (.bool r)) st
      | _ => .err
    else if isB2 f then (ev a env st).bind fun v st => (ev b env st).bind fun u st => (ofO (vw st v) st).bind fun x st => (ofO (vw st u) st).bind fun y st => ofO (blt2 f x y) st
    else .err
  | _ => .err
def negOne : Expr → Bool
  | .UnaryOp .USub (.Constant (.int 1) _ _) _ => true
  | _ => false
def evalE : Nat → Expr → Ev → Sto → R RV
  | 0, _, _, _ => .err
  | n + 1, e, env, st => match e with
    | .Name x _ => match ix N x with
      | some i => match env[i]? with
        | some (some (.own vs)) => (ofO (deeps vs) st).bind fun ds st => .ok (.bor (.list ds)) st
        | some (some (.odi kvs)) => (ofO (deepKv kvs) st).bind fun ds st => .ok (.bor (.dict ds)) st
        | some (some v) => .ok v st
        | _ => .err
      | none => match cf.glob x with
        | some d => .ok (.dat d) st
        | none => .err
    | .Constant c _ _ => match c with
      | .none => .ok (.dat .none) st
      | .bool b => .ok (.dat (.bool b)) st
      | .int i => .ok (.dat (.int i)) st
      | .str s => .ok (.dat (.str s)) st
      | _ => .err
    | .Tuple es _ _ => (evK (evalE n) es env st).bind fun vs st => .ok (match dats vs with
      | some ds => .dat (.tuple ds)
      | none => .tpl vs) st
    | .List es p => if cf.cell p then (evCells (evalE n) es env st).bind fun vs st => .ok (.ref st.length) (st ++ [.lst vs])
      else (evL (evalE n) es env st).bind fun vs st => (ofO (elems vs) st).bind fun ws st => .ok (.own ws) st
    | .Dict ks vs p => if cf.cell p then (evPairs (evalE n) ks vs env st).bind fun kvs st => (ofO (putAll [] kvs) st).bind fun kvs st => .ok (.ref st.length) (st ++ [.dct kvs])
      else (evPairsO (evalE n) ks vs env st).bind fun kvs st => (ofO (putAll [] kvs) st).bind fun kvs st => .ok (.odi kvs) st
    | .BinOp a op b _ => (evalE n a env st).bind fun v st => (evalE n b env st).bind fun u st => (ofO (solid st v) st).bind fun x st => (ofO (solid st u) st).bind fun y st => ofO (binD op x y) st
    | .UnaryOp op a _ => match op with
      | .Not => (evT (evalE n) a env st).bind fun b st => .ok (.dat (.bool (!b))) st
      | .USub => (evV (evalE n) a env st).bind fun d st => match d with
        | .int i => .ok (.dat (.int (-i))) st
        | _ => .err
      | _ => .err
    | .BoolOp op es _ => match op with
      | .And => evAnd (evalE n) es env st
      | .Or => evOr (evalE n) es env st
    | .Compare a ops bs _ => match ops, bs with
      | [op], [b] => (evalE n a env st).bind fun x st => (evalE n b env st).bind fun y st => cmpR op x y st
      | [op, op'], [b, c] => (evalE n a env st).bind fun x st => (evalE n b env st).bind fun y st => (cmpR op x y st).bind fun t st => match t with
        | .dat (.bool true) => (evalE n c env st).bind fun z st => cmpR op' y z st
        | t => .ok t st
      | _, _ => .err
    | .IfExp t a b _ => (evT (evalE n) t env st).bind fun c st => if c then evalE n a env st else evalE n b env st
    | .Call (.Name f _) as ks _ => match ix N f with
      | some _ => .err
      | none => match cf.ps f with
        | some ps => match ks with
          | [] => (evK (evalE n) as env st).bind fun vs st => if vs.length = ps.length then callR C f vs st else .err
          | ks => match as, kwNames ks with
            | [], some ns => (evK (evalE n) (kwExprs ks) env st).bind fun vs st => if vs.length = ps.length then (ofO (reorder (ns.zip vs) ps) st).bind fun vs st => callR C f vs st else .err
            | _, _ => .err
        | none => match ks with
          | [] => callB (evalE n) f as env st
          | _ => .err
    | .Call (.Attribute o m _) as [] _ => match as, methT m with
      | _ :: _, some l => (evalE n o env st).bind fun v st => if methOk l v st then (evK (evalE n) as env st).bind fun vs st => methR m v vs st else .err
      | _, _ => .err
    | .Subscript o i _ => match i with
      | .Slice lo hi none _ => (evalE n o env st).bind fun v st => (evOpt (evalE n) lo env st).bind fun l st => (evOpt (evalE n) hi env st).bind fun h st => (ofO (solid st v) st).bind fun d st => ofO (sliceD d l h) st
      | .Slice none none (some s) _ => if negOne s then (evS (evalE n) o env st).bind fun d st => match d with
          | .list xs => .ok (.own (xs.reverse.map .dat)) st
          | _ => .err
        else .err
      | .Slice _ _ _ _ => .err
      | i => (evalE n o env st).bind fun v st => (evV (evalE n) i env st).bind fun k st => subR v k st
    | .ListComp elt gs sc _ => (lcTop N (evalE n) elt gs sc env st).bind fun ds st => .ok (.own ds) st
    | .DictComp k v gs sc _ => dcTop N (evalE n) k v gs sc env st
    | _ => .err

/-! ### statements -/
inductive Fl where
  | nxt (env : Ev) | ret (v : RV) | brk (env : Ev) | cnt (env : Ev)
def fzAll (env : Ev) : List Nat → Ev
  | [] => env
  | i :: r => match env[i]? with
    | some (some (.own vs)) => match deeps vs with
      | some ds => fzAll (env.set i (some (.dat (.list ds)))) r
      | none => fzAll env r
    | some (some (.odi kvs)) => match deepKv kvs with
      | some ds => fzAll (env.set i (some (.dat (.dict ds)))) r
      | none => fzAll env r
    | _ => fzAll env r
def spos : Stmt → Pos
  | .Return _ p | .Assign _ _ p | .AugAssign _ _ _ p | .For _ _ _ _ p | .While _ _ _ p | .If _ _ _ p | .Expr _ p => p
  | _ => ⟨0, 0, 0, 0⟩
mutual
/-- nothing that is looked at within -/
def okV : RV → Bool
  | .dat _ => true
  | .own vs => okVs vs
  | .odi kvs => okKv kvs
  | _ => false
def okVs : List RV → Bool
  | [] => true
  | v :: r => okV v && okVs r
def okKv : List (PyData × RV) → Bool
  | [] => true
  | (_, v) :: r => okV v && okKv r
end
mutual
/-- data, a thing of the store, a tuple of such -/
def okT : RV → Bool
  | .dat _ => true
  | .ref _ => true
  | .scr _ => true
  | .tpl vs => okTs vs
  | _ => false
def okTs : List RV → Bool
  | [] => true
  | v :: r => okT v && okTs r
end
/-- what is stored in a slot -/
def held (o : Bool) : RV → Option RV
  | .own vs => if o then (if okVs vs then some (.own vs) else none) else (deeps vs).map fun ds => .dat (.list ds)
  | .odi kvs => if o then (if okKv kvs then some (.odi kvs) else none) else (deepKv kvs).map fun ds => .dat (.dict ds)
  | .bor d => if noL d then some (.dat d) else none
  | .tpl vs => if okTs vs then some (.tpl vs) else none
  | .scr _ => none
  | v => some v
def ownSlot (N : List Str) (env : Ev) : Expr → Option (Nat × List RV)
  | .Name x _ => match ix N x with
    | some i => match env[i]? with
      | some (some (.own vs)) => some (i, vs)
      | _ => none
    | none => none
  | _ => none
def ownDict (N : List Str) (env : Ev) : Expr → Option (Nat × List (PyData × RV))
  | .Name x _ => match ix N x with
    | some i => match env[i]? with
      | some (some (.odi kvs)) => some (i, kvs)
      | _ => none
    | none => none
  | _ => none
section
variable (ev : Expr → Ev → Sto → R RV)
def asgTup : List Expr → List Expr → Ev → Option (List (Nat × Expr))
  | [], [], _ => some []
  | .Name x _ :: r, e :: es, env => match ix N x, asgTup r es env with
    | some i, some l => some ((i, e) :: l)
    | _, _ => none
  | _, _, _ => none
def setAll : List Nat → List RV → Ev → Ev
  | i :: is, v :: vs, env => setAll is vs (setE env i v)
  | _, _, env => env
def execAsg (o : Bool) (t e : Expr) (env : Ev) (st : Sto) : R Fl := match t with
  | .Name x _ => match ownSlot N env e with
    | some (j, ds) => match ix N x with
      | some i => .ok (.nxt ((env.set j none).set i (some (.own ds)))) st
      | none => .err
    | none => (ev e env st).bind fun v st => match held o v with
      | some v => (ofO (asgN N x v env) st).bind fun env st => .ok (.nxt env) st
      | none => .err
  | .Tuple ts _ _ => match e with
    | .Tuple es _ _ => match asgTup N ts es env with
      | some l => (evK ev es env st).bind fun vs st => if okTs vs then .ok (.nxt (setAll (l.map (·.1)) vs env)) st else .err
      | none => .err
    | e => (ev e env st).bind fun v st => match v with
      | .dat (.tuple ds) => (ofO (asgNs N ts (ds.map .dat) env) st).bind fun env st => .ok (.nxt env) st
      | .tpl vs => if okTs vs then (ofO (asgNs N ts vs env) st).bind fun env st => .ok (.nxt env) st else .err
      | _ => .err
  | .Subscript b i _ => (evF ev e env st).bind fun v st => match v with
    | .dat d => match ownSlot N env b with
      | some (j, ds) => (evV ev i env st).bind fun k st => match k with
        | .int z => match place ds.length z with
          | some q => .ok (.nxt (env.set j (some (.own (ds.set q (.dat d)))))) st
          | none => .err
        | _ => .err
      | none => match ownDict N env b with
        | some (j, kvs) => (evV ev i env st).bind fun k st => if keyOk k kvs ∧ kvs.length < lim then .ok (.nxt (env.set j (some (.odi (putK kvs k (.dat d)))))) st else .err
        | none => (ev b env st).bind fun bv st => (evV ev i env st).bind fun k st => match bv with
        | .ref j => (ofO (cellPut st j k d) st).bind fun st' _ => .ok (.nxt env) st'
        | _ => .err
    | _ => .err
  | _ => .err
/-- a statement that is a call: a list that the slot alone holds is changed -/
def execExpr (e : Expr) (env : Ev) (st : Sto) : R Fl := match e with
  | .Call (.Attribute b m _) [a] [] _ => match ownSlot N env b with
    | some (j, vs) =>
      if seq' m "append" then (ev a env st).bind fun v st => match elem v with
        | some w => if okV w && decide (vs.length < lim) then .ok (.nxt (env.set j (some (.own (vs ++ [w]))))) st else .err
        | none => .err
      else if seq' m "extend" then (ev a env st).bind fun v st => match v with
        | .own ws => if okVs ws && decide (vs.length + ws.length ≤ lim) then .ok (.nxt (env.set j (some (.own (vs ++ ws))))) st else .err
        | .dat (.list xs) => if vs.length + xs.length ≤ lim then .ok (.nxt (env.set j (some (.own (vs ++ xs.map .dat))))) st else .err
        | _ => .err
      else .err
    | none => (ev e env st).bind fun _ st => .ok (.nxt env) st
  | .Call (.Name f _) [a] [] _ => if cf.kill f then match ownSlot N env a with
      | some (j, vs) => if spoilOk vs then .ok (.nxt (env.set j none)) st else .err
      | none => .err
    else (ev e env st).bind fun _ st => .ok (.nxt env) st
  | e => (ev e env st).bind fun _ st => .ok (.nxt env) st
/-- the items, one behind another -/
def forF (tg : Expr) (body : Ev → Sto → R Fl) : List RV → Ev → Sto → R Fl
  | [], env, st => .ok (.nxt env) st
  | x :: r, env, st => (ofO (asgT N tg x env) st).bind fun env st => (body env st).bind fun f st => match f with
    | .nxt env => forF tg body r env st
    | .cnt env => forF tg body r env st
    | .brk env => .ok (.nxt env) st
    | .ret v => .ok (.ret v) st
def whileF (c : Ev → Sto → R Bool) (body : Ev → Sto → R Fl) : Nat → Ev → Sto → R Fl
  | 0, _, _ => .err
  | k + 1, env, st => (c env st).bind fun b st => if b then (body env st).bind fun f st => match f with
      | .nxt env => whileF c body k env st
      | .cnt env => whileF c body k env st
      | .brk env => .ok (.nxt env) st
      | .ret v => .ok (.ret v) st
    else .ok (.nxt env) st
end
/-- name op= value: whole numbers alone -/
def augD : Operator → PyData → RV → Option PyData
  | .Add, .int i, .dat (.int j) => some (.int (i + j))
  | _, _, _ => none
/-- a block -/
def execL (ex : Stmt → Ev → Sto → R Fl) : List Stmt → Ev → Sto → R Fl
  | [], env, st => .ok (.nxt env) st
  | s :: r, env, st => (ex s env st).bind fun f st => match f with
    | .nxt env => execL ex r env st
    | f => .ok f st
def evN : Nat := 60
def execS : Nat → Stmt → Ev → Sto → R Fl
  | 0, _, _, _ => .err
  | n + 1, s, env0, st =>
    let env := fzAll env0 (cf.fz (spos s))
    let ev := evalE cf C N evN
    match s with
    | .Assign [t] e p => execAsg N ev (cf.own p) t e env st
    | .AugAssign (.Name x _) op e _ => match ix N x with
      | some i => match env[i]? with
        | some (some (.dat a)) => (ev e env st).bind fun b st => match augD op a b with
          | some d => .ok (.nxt (setE env i (.dat d))) st
          | none => .err
        | _ => .err
      | none => .err
    | .Expr e _ => execExpr cf N ev e env st
    | .Return (some e) _ => match ownSlot N env e with
      | some (_, vs) => .ok (.ret (.own vs)) st
      | none => match ownDict N env e with
      | some (_, kvs) => .ok (.ret (.odi kvs)) st
      | none => (ev e env st).bind fun v st => match v with
        | .bor d => if noL d then .ok (.ret (.dat d)) st else .err
        | v => .ok (.ret v) st
    | .Return none _ => .ok (.ret (.dat .none)) st
    | .If c a b _ => (evT ev c env st).bind fun t st => if t then execL (execS n) a env st else execL (execS n) b env st
    | .For tg it body [] _ => match ownSlot N env it with
      | some (j, vs) => (ofO (deeps vs) st).bind fun ds st => forF N tg (execL (execS n) body) (ds.map .dat) (env.set j (some (.dat (.list ds)))) st
      | none => (evI ev true it env st).bind fun xs st => if okTs xs then forF N tg (execL (execS n) body) xs env st else .err
    | .While c body [] _ => whileF (evT ev c) (execL (execS n) body) cf.turns env st
    | .Pass _ => .ok (.nxt env) st
    | .Break _ => .ok (.brk env) st
    | .Continue _ => .ok (.cnt env) st
    | _ => .err

/-! ### defs -/
structure Fn where
  ps : List Str
  N : List Str
  body : List Stmt
/-- what a def hands back; what it laid in the store goes -/
def exitR (n : Nat) (v : RV) (st : Sto) : R RV := match v with
  | .dat d => .ok (.dat d) (st.take n)
  | .own vs => if okVs vs then .ok (.own vs) (st.take n) else .err
  | .odi kvs => if okKv kvs then .ok (.odi kvs) (st.take n) else .err
  | .bor _ => .err
  | .tpl vs => if anyBor vs then .err else .ok (.tpl vs) st
  | .scr _ => .err
  | .ref i => .ok (.ref i) st
def runFn (f : Fn) (args : List RV) (st : Sto) : R RV :=
  if anyBor args then .err else
  (execL (execS cf C f.N evN) f.body (args.map some ++ List.replicate (f.N.length - args.length) none) st).bind fun r st' => match r with
    | .ret v => exitR st.length v st'
    | .nxt _ => exitR st.length (.dat .none) st'
    | _ => .err
def callF (defs : Str → Option Fn) : Nat → Str → List RV → Sto → R RV
  | 0, _, _, _ => .err
  | d + 1, f, args, st => match defs f with
    | some fn => if args.length = fn.ps.length then runFn cf (callF defs d) fn args st else .err
    | none => .err
end Z

set_option linter.all false
set_option maxRecDepth 100000
set_option maxHeartbeats 1000000
/-! Z2: how data and things of the store lie in the abstract heap. -/
namespace Z
open PySem PySem.Spec PyProof.Rows L2

/-- an object that is known to the letter -/
def rawO (a : Addr) (es : List DictEntry) : HO := .ext fun h => (∃ o arr ep, h.get? a = some o ∧ o.ExactDict ∧ o.data = .dict arr ep ∧ arr.toList = es) ∧ (a == sysModules) = false ∧ es.length ≤ sizeLine
/-- keys that differ -/
structure KeysOk (ks : List PyData) : Prop where
  each : ∀ k ∈ ks, keyG k = true
  nd : (ks.filterMap keyD).Nodup
/-- a dict's entries -/
def entV (w : World) (ke : NestedKey) (e : DictEntry) : Prop := e.hash = ke.hash w
mutual
/-- data that stays; F: the lists and dicts that stay -/
inductive Rep (K : PySem.W.Frag) (w : World) (F : Addr → Prop) (H : Hp) : PyData → V → Prop where
  | non : Rep K w F H .none .non
  | bl (b : Bool) : Rep K w F H (.bool b) (.bl b)
  | int (i : Int) : Rep K w F H (.int i) (.int i)
  | str (x : Str) : Rep K w F H (.str x) (.str x)
  | tup {a : Addr} {ds : List PyData} {vs : List V} : SqT K H a vs → Reps K w F H ds vs → Rep K w F H (.tuple ds) (.ref a)
  | lst {a : Addr} {ds : List PyData} {vs : List V} : F a → H a = some (.lst vs) → Reps K w F H ds vs → Rep K w F H (.list ds) (.ref a)
  | dct {a : Addr} {kvs : List (PyData × PyData)} {es : List DictEntry} : F a → H a = some (rawO a es) → KeysOk (kvs.map (·.1)) → RepKv K w F H kvs es → Rep K w F H (.dict kvs) (.ref a)
inductive Reps (K : PySem.W.Frag) (w : World) (F : Addr → Prop) (H : Hp) : List PyData → List V → Prop where
  | nil : Reps K w F H [] []
  | cons {d : PyData} {ds : List PyData} {v : V} {vs : List V} : Rep K w F H d v → Reps K w F H ds vs → Reps K w F H (d :: ds) (v :: vs)
inductive RepKv (K : PySem.W.Frag) (w : World) (F : Addr → Prop) (H : Hp) : List (PyData × PyData) → List DictEntry → Prop where
  | nil : RepKv K w F H [] []
  | cons {k d : PyData} {ke : NestedKey} {kvs : List (PyData × PyData)} {e : DictEntry} {es : List DictEntry} {kv v : V} : keyD k = some ke → e.hash = ke.hash w → Rep K w F H k kv → RelV kv e.key → Rep K w F H d v → RelV v e.val → RepKv K w F H kvs es → RepKv K w F H ((k, d) :: kvs) (e :: es)
end
/-- what must stand for data to stay -/
structure Keep (K : PySem.W.Frag) (F : Addr → Prop) (H : Hp) (F' : Addr → Prop) (H' : Hp) : Prop where
  tup : ∀ a vs, SqT K H a vs → SqT K H' a vs
  fro : ∀ a o vs, H a = some (.frz o (.lst vs)) → H' a = some (.frz o (.lst vs))
  stay : ∀ a, F a → F' a ∧ H' a = H a
section
variable {K : PySem.W.Frag} {w : World} {F F' : Addr → Prop} {H H' : Hp}
theorem Rd.stay {a : Addr} {u : HO} (r : Rd H a u) (e : H' a = H a) : Rd H' a u := by
  rcases r with h | ⟨o, h⟩
  · exact .inl (e.trans h)
  · exact .inr ⟨o, e.trans h⟩
mutual
theorem Rep.keep (k : Keep K F H F' H') : ∀ {d : PyData} {v : V}, Rep K w F H d v → Rep K w F' H' d v
  | _, _, .non => .non
  | _, _, .bl b => .bl b
  | _, _, .int i => .int i
  | _, _, .str x => .str x
  | _, _, .tup h hs => .tup (k.tup _ _ h) (Reps.keep k hs)
  | _, _, .lst f h hs => .lst (k.stay _ f).1 ((k.stay _ f).2.trans h) (Reps.keep k hs)
  | _, _, .dct f h ko hs => .dct (k.stay _ f).1 ((k.stay _ f).2.trans h) ko (RepKv.keep k hs)
theorem Reps.keep (k : Keep K F H F' H') : ∀ {ds : List PyData} {vs : List V}, Reps K w F H ds vs → Reps K w F' H' ds vs
  | _, _, .nil => .nil
  | _, _, .cons h hs => .cons (Rep.keep k h) (Reps.keep k hs)
theorem RepKv.keep (k : Keep K F H F' H') : ∀ {kvs : List (PyData × PyData)} {es : List DictEntry}, RepKv K w F H kvs es → RepKv K w F' H' kvs es
  | _, _, .nil => .nil
  | _, _, .cons a b c d e f g => .cons a b (Rep.keep k c) d (Rep.keep k e) f (RepKv.keep k g)
end
mutual
/-- they are lists and dicts -/
theorem Rep.sharp : ∀ {d : PyData} {v : V}, Rep K w F H d v → Rep K w (fun a => F a ∧ ∃ o, H a = some o ∧ ((∃ vs, o = .lst vs) ∨ ∃ es, o = rawO a es)) H d v
  | _, _, .non => .non
  | _, _, .bl b => .bl b
  | _, _, .int i => .int i
  | _, _, .str x => .str x
  | _, _, .tup h hs => .tup h (Reps.sharp hs)
  | _, _, .lst f h hs => .lst ⟨f, _, h, .inl ⟨_, rfl⟩⟩ h (Reps.sharp hs)
  | _, _, .dct f h ko hs => .dct ⟨f, _, h, .inr ⟨_, rfl⟩⟩ h ko (RepKv.sharp hs)
theorem Reps.sharp : ∀ {ds : List PyData} {vs : List V}, Reps K w F H ds vs → Reps K w (fun a => F a ∧ ∃ o, H a = some o ∧ ((∃ vs, o = .lst vs) ∨ ∃ es, o = rawO a es)) H ds vs
  | _, _, .nil => .nil
  | _, _, .cons h hs => .cons (Rep.sharp h) (Reps.sharp hs)
theorem RepKv.sharp : ∀ {kvs : List (PyData × PyData)} {es : List DictEntry}, RepKv K w F H kvs es → RepKv K w (fun a => F a ∧ ∃ o, H a = some o ∧ ((∃ vs, o = .lst vs) ∨ ∃ es, o = rawO a es)) H kvs es
  | _, _, .nil => .nil
  | _, _, .cons a b c d e f g => .cons a b (Rep.sharp c) d (Rep.sharp e) f (RepKv.sharp g)
end
mutual
/-- without lists and dicts nothing but tuples is asked -/
theorem Rep.keepN (k : ∀ a vs, SqT K H a vs → SqT K H' a vs) : ∀ {d : PyData} {v : V}, noL d = true → Rep K w F H d v → Rep K w F' H' d v
  | _, _, _, .non => .non
  | _, _, _, .bl b => .bl b
  | _, _, _, .int i => .int i
  | _, _, _, .str x => .str x
  | _, _, n, .tup h hs => .tup (k _ _ h) (Reps.keepN k (by simpa [noL] using n) hs)
  | _, _, n, .lst .. => by simp [noL] at n
  | _, _, n, .dct .. => by simp [noL] at n
theorem Reps.keepN (k : ∀ a vs, SqT K H a vs → SqT K H' a vs) : ∀ {ds : List PyData} {vs : List V}, noLs ds = true → Reps K w F H ds vs → Reps K w F' H' ds vs
  | _, _, _, .nil => .nil
  | _, _, n, .cons h hs => by
    rw [noLs, Bool.and_eq_true] at n
    exact .cons (Rep.keepN k n.1 h) (Reps.keepN k n.2 hs)
end
theorem Reps.length : ∀ {ds : List PyData} {vs : List V}, Reps K w F H ds vs → ds.length = vs.length
  | _, _, .nil => rfl
  | _, _, .cons _ hs => by rw [List.length_cons, List.length_cons, Reps.length hs]
theorem Reps.get : ∀ {ds : List PyData} {vs : List V} {i : Nat} {d : PyData}, Reps K w F H ds vs → ds[i]? = some d → ∃ v, vs[i]? = some v ∧ Rep K w F H d v
  | _, _, _, _, .nil, e => by simp at e
  | _, _, 0, _, .cons h _, e => by
    simp at e
    subst e
    exact ⟨_, rfl, h⟩
  | _, _, i + 1, _, .cons _ hs, e => by
    obtain ⟨v, e1, e2⟩ := Reps.get (i := i) hs (by simpa using e)
    exact ⟨v, by simpa using e1, e2⟩
theorem Reps.app : ∀ {ds es : List PyData} {vs us : List V}, Reps K w F H ds vs → Reps K w F H es us → Reps K w F H (ds ++ es) (vs ++ us)
  | _, _, _, _, .nil, h => h
  | _, _, _, _, .cons a b, h => .cons a (Reps.app b h)
theorem Reps.getV : ∀ {ds : List PyData} {vs : List V} {i : Nat} {v : V}, Reps K w F H ds vs → vs[i]? = some v → ∃ d, ds[i]? = some d ∧ Rep K w F H d v
  | _, _, _, _, .nil, e => by simp at e
  | _, _, 0, _, .cons h _, e => by
    simp at e
    subst e
    exact ⟨_, rfl, h⟩
  | _, _, i + 1, _, .cons _ hs, e => by
    obtain ⟨v, e1, e2⟩ := Reps.getV (i := i) hs (by simpa using e)
    exact ⟨v, by simpa using e1, e2⟩
end

/-! ### worlds -/
structure Wd where
  /-- lists and dicts that stay -/
  F : Addr → Prop
  /-- where the store's things stand -/
  β : List Addr
  /-- what this frame may hold alone -/
  O : Addr → Prop
  /-- lists that are being made -/
  P : Addr → Prop
/-- a list, a dict -/
def datO (a : Addr) (o : HO) : Prop := (∃ vs, o = .lst vs) ∨ ∃ es, o = rawO a es
/-- what is looked at -/
def bF (W : Wd) (H : Hp) : Addr → Prop := fun a => a ∉ W.β ∧ ¬ W.P a ∧ ∃ o, H a = some o ∧ datO a o
section
variable (K : PySem.W.Frag) (w : World) (W : Wd) (H : Hp)
mutual
/-- a value; A: the addresses that nothing else holds -/
inductive RVr : RV → V → List Addr → Prop where
  | dat {d : PyData} {v : V} : Rep K w W.F H d v → RVr (.dat d) v []
  | ref {i : Nat} {a : Addr} : W.β[i]? = some a → RVr (.ref i) (.ref a) []
  | bor {d : PyData} {v : V} : Rep K w (bF W H) H d v → RVr (.bor d) v []
  | scr {a : Addr} {ns : List Int} : ((∃ o, H a = some (.frz o (.lst (ns.map V.int)))) ∨ ∀ H', SqL K H' a (ns.map V.int)) → RVr (.scr ns) (.ref a) []
  | tpl {a : Addr} {xs : List RV} {vs : List V} : SqT K H a vs → RVs xs vs [] → RVr (.tpl xs) (.ref a) []
  | own {a : Addr} {xs : List RV} {vs : List V} {A : List Addr} : H a = some (.lst vs) → RVs xs vs A → RVr (.own xs) (.ref a) (a :: A)
  | odi {a : Addr} {kvs : List (PyData × RV)} {es : List DictEntry} {A : List Addr} : H a = some (rawO a es) → KeysOk (kvs.map (·.1)) → RKv kvs es A → RVr (.odi kvs) (.ref a) (a :: A)
inductive RVs : List RV → List V → List Addr → Prop where
  | nil : RVs [] [] []
  | cons {x : RV} {xs : List RV} {v : V} {vs : List V} {A B : List Addr} : RVr x v A → RVs xs vs B → RVs (x :: xs) (v :: vs) (A ++ B)
inductive RKv : List (PyData × RV) → List DictEntry → List Addr → Prop where
  | nil : RKv [] [] []
  | cons {k : PyData} {ke : NestedKey} {x : RV} {kvs : List (PyData × RV)} {e : DictEntry} {es : List DictEntry} {kv v : V} {A B : List Addr} : keyD k = some ke → noL k = true → e.hash = ke.hash w → Rep K w W.F H k kv → RelV kv e.key → RVr x v A → RelV v e.val → RKv kvs es B → RKv ((k, x) :: kvs) (e :: es) (A ++ B)
end
/-- such addresses -/
structure Owned (A : List Addr) : Prop where
  nd : A.Nodup
  no : ∀ a ∈ A, ¬ W.F a ∧ a ∉ W.β ∧ W.O a
/-- what a cell may hold: data, things that were laid ahead -/
def flatC (i : Nat) : RV → Prop
  | .dat _ => True
  | .ref j => j < i
  | _ => False
inductive CellR (i : Nat) (a : Addr) : Cell → Prop where
  | lst {xs : List RV} {vs : List V} : H a = some (.lst vs) → RVs K w W H xs vs [] → (∀ x ∈ xs, flatC i x) → CellR i a (.lst xs)
  | dct {kvs : List (PyData × RV)} {es : List DictEntry} : H a = some (rawO a es) → KeysOk (kvs.map (·.1)) → RKv K w W H kvs es [] → (∀ p ∈ kvs, flatC i p.2) → CellR i a (.dct kvs)
/-- the store -/
structure SR (st : Sto) : Prop where
  len : W.β.length = st.length
  nd : W.β.Nodup
  bf : ∀ a ∈ W.β, ¬ W.F a
  pf : ∀ a, W.P a → ¬ W.F a ∧ ∃ o, H a = some o
  dom : ∀ a, W.F a → ∃ o, H a = some o
  cells : ∀ i c a, st[i]? = some c → W.β[i]? = some a → CellR K w W H i a c
  fr : ∀ a, H a = none → W.O a
end
/-- what an expression, a call leaves: all but the store's things stands -/
structure Up (W : Wd) (H : Hp) (W' : Wd) (H' : Hp) : Prop where
  F : ∀ a, W.F a → W'.F a
  O : W'.O = W.O
  P : W'.P = W.P
  β : W.β <+: W'.β
  ext : ∀ a o, H a = some o → a ∉ W.β → H' a = some o
  dom : ∀ a o, H a = some o → ∃ o', H' a = some o'
  Fn : ∀ a, W'.F a → W.F a ∨ H a = none
  βn : ∀ a, a ∈ W'.β → a ∈ W.β ∨ H a = none

section
variable {K : PySem.W.Frag} {w : World} {W W' W'' : Wd} {H H' H'' : Hp} {st : Sto}
theorem pre_mem {α : Type} {l m : List α} (h : l <+: m) {i : Nat} {a : α} (e : l[i]? = some a) : m[i]? = some a := by
  obtain ⟨t, rfl⟩ := h
  rw [List.getElem?_append_left (List.getElem?_eq_some_iff.mp e).1]
  exact e
theorem Up.refl : Up W H W H := ⟨fun _ h => h, rfl, rfl, List.prefix_refl _, fun _ _ h _ => h, fun a o h => ⟨o, h⟩, fun _ h => .inl h, fun _ h => .inl h⟩
theorem Up.gone (u : Up W H W' H') {a : Addr} (h : H' a = none) : H a = none := by
  cases e : H a with
  | none => rfl
  | some o =>
    obtain ⟨o', e'⟩ := u.dom a o e
    rw [h] at e'
    cases e'
theorem Up.trans (u : Up W H W' H') (v : Up W' H' W'' H'') : Up W H W'' H'' where
  F := fun a h => v.F a (u.F a h)
  O := v.O.trans u.O
  P := v.P.trans u.P
  β := u.β.trans v.β
  ext := fun a o h n => v.ext a o (u.ext a o h n) fun z => by
    rcases u.βn a z with q | q
    · exact n q
    · rw [h] at q
      cases q
  dom := fun a o h => by
    obtain ⟨o', e⟩ := u.dom a o h
    exact v.dom a o' e
  Fn := fun a h => by
    rcases v.Fn a h with q | q
    · exact u.Fn a q
    · exact .inr (u.gone q)
  βn := fun a h => by
    rcases v.βn a h with q | q
    · exact u.βn a q
    · exact .inr (u.gone q)
theorem SR.cell (s : SR K w W H st) {a : Addr} (h : a ∈ W.β) : (∃ vs, H a = some (.lst vs)) ∨ ∃ es, H a = some (rawO a es) := by
  obtain ⟨i, hi, e⟩ := List.mem_iff_getElem.mp h
  have hs : i < st.length := by rw [← s.len]; exact hi
  have c := s.cells i st[i] a (by rw [List.getElem?_eq_getElem hs]) (by rw [List.getElem?_eq_getElem hi, e])
  generalize st[i] = z at c
  cases c with
  | lst h _ _ => exact .inl ⟨_, h⟩
  | dct h _ _ _ => exact .inr ⟨_, h⟩
theorem raw_ne_tup {a : Addr} {o : List DictEntry} {vs : List V} : rawO a o ≠ .tup vs := by intro h; unfold rawO at h; cases h
theorem raw_ne_frz {a : Addr} {o : List DictEntry} {ob : Obj} {u : HO} : rawO a o ≠ .frz ob u := by intro h; unfold rawO at h; cases h
theorem raw_ne_lst {a : Addr} {o : List DictEntry} {vs : List V} : rawO a o ≠ .lst vs := by intro h; unfold rawO at h; cases h
theorem SR.tup_no (s : SR K w W H st) {a : Addr} {vs : List V} (h : Rd H a (.tup vs)) : a ∉ W.β := fun z => by
  rcases s.cell z with ⟨us, e⟩ | ⟨es, e⟩ <;> rcases h with q | ⟨o, q⟩ <;> rw [e] at q
  · cases q
  · cases q
  · exact raw_ne_tup (Option.some.inj q)
  · exact raw_ne_frz (Option.some.inj q)
theorem Up.tup (u : Up W H W' H') (s : SR K w W H st) : ∀ a vs, SqT K H a vs → SqT K H' a vs := fun a vs h => by
  rcases h with h | h
  · have n := s.tup_no h
    rcases h with h | ⟨o, h⟩
    · exact .inl (.inl (u.ext a _ h n))
    · exact .inl (.inr ⟨o, u.ext a _ h n⟩)
  · exact .inr h
theorem Up.fro (u : Up W H W' H') (s : SR K w W H st) : ∀ a o vs, H a = some (.frz o (.lst vs)) → H' a = some (.frz o (.lst vs)) := fun a o vs h => u.ext a _ h fun z => by
  rcases s.cell z with ⟨us, e⟩ | ⟨es, e⟩ <;> rw [h] at e
  · cases e
  · exact raw_ne_frz (Option.some.inj e).symm
theorem Up.keep (u : Up W H W' H') (s : SR K w W H st) : Keep K W.F H W'.F H' where
  tup := u.tup s
  fro := u.fro s
  stay := fun a f => ⟨u.F a f, by
    obtain ⟨o, e⟩ := s.dom a f
    rw [u.ext a o e fun z => s.bf a z f, e]⟩
theorem Up.keepB (u : Up W H W' H') (s : SR K w W H st) : Keep K (bF W H) H (bF W' H') H' where
  tup := u.tup s
  fro := u.fro s
  stay := fun a ⟨n, np, o, e, dd⟩ => by
    have e' := u.ext a o e n
    refine ⟨⟨fun z => ?_, by rw [u.P]; exact np, o, e', dd⟩, e'.trans e.symm⟩
    rcases u.βn a z with q | q
    · exact n q
    · rw [e] at q
      cases q
/-- what must stand for values to stay, but for what is held alone -/
structure KeepR (K : PySem.W.Frag) (W : Wd) (H : Hp) (W' : Wd) (H' : Hp) : Prop where
  k : Keep K W.F H W'.F H'
  β : W.β <+: W'.β
  b : Keep K (bF W H) H (bF W' H') H'
theorem Up.keepR (u : Up W H W' H') (s : SR K w W H st) : KeepR K W H W' H' := ⟨u.keep s, u.β, u.keepB s⟩
mutual
theorem RVr.keep (k : KeepR K W H W' H') : ∀ {x : RV} {v : V} {A : List Addr}, RVr K w W H x v A → (∀ a ∈ A, H' a = H a) → RVr K w W' H' x v A
  | _, _, _, .dat h, _ => .dat (h.keep k.k)
  | _, _, _, .ref h, _ => .ref (pre_mem k.β h)
  | _, _, _, .bor h, _ => .bor (h.keep k.b)
  | _, _, _, .scr h, _ => .scr (h.imp (fun ⟨o, e⟩ => ⟨o, k.k.fro _ _ _ e⟩) fun q => q)
  | _, _, _, .tpl h hs, n => .tpl (k.k.tup _ _ h) (RVs.keep k hs n)
  | _, _, _, .own (a := a) h hs, n => .own ((n _ List.mem_cons_self).trans h) (RVs.keep k hs fun b hb => n b (List.mem_cons_of_mem _ hb))
  | _, _, _, .odi (a := a) h ko hs, n => .odi ((n _ List.mem_cons_self).trans h) ko (RKv.keep k hs fun b hb => n b (List.mem_cons_of_mem _ hb))
theorem RVs.keep (k : KeepR K W H W' H') : ∀ {xs : List RV} {vs : List V} {A : List Addr}, RVs K w W H xs vs A → (∀ a ∈ A, H' a = H a) → RVs K w W' H' xs vs A
  | _, _, _, .nil, _ => .nil
  | _, _, _, .cons h hs, n => .cons (RVr.keep k h fun a ha => n a (List.mem_append_left _ ha)) (RVs.keep k hs fun a ha => n a (List.mem_append_right _ ha))
theorem RKv.keep (k : KeepR K W H W' H') : ∀ {kvs : List (PyData × RV)} {es : List DictEntry} {A : List Addr}, RKv K w W H kvs es A → (∀ a ∈ A, H' a = H a) → RKv K w W' H' kvs es A
  | _, _, _, .nil, _ => .nil
  | _, _, _, .cons a l b c d e f g, n => .cons a l b (c.keep k.k) d (RVr.keep k e fun z hz => n z (List.mem_append_left _ hz)) f (RKv.keep k g fun z hz => n z (List.mem_append_right _ hz))
end
mutual
/-- what is held alone stands -/
theorem RVr.dom : ∀ {x : RV} {v : V} {A : List Addr}, RVr K w W H x v A → ∀ a ∈ A, ∃ o, H a = some o
  | _, _, _, .dat h, _, m => absurd m (by simp)
  | _, _, _, .ref h, _, m => absurd m (by simp)
  | _, _, _, .bor h, _, m => absurd m (by simp)
  | _, _, _, .tpl h hs, _, m => absurd m (by simp)
  | _, _, _, .scr h, _, m => absurd m (by simp)
  | _, _, _, .own h hs, b, m => by
    rcases List.mem_cons.mp m with e | m
    · exact ⟨_, e ▸ h⟩
    · exact RVs.dom hs b m
  | _, _, _, .odi h _ hs, b, m => by
    rcases List.mem_cons.mp m with e | m
    · subst e
      exact ⟨_, h⟩
    · exact RKv.dom hs b m
theorem RVs.dom : ∀ {xs : List RV} {vs : List V} {A : List Addr}, RVs K w W H xs vs A → ∀ a ∈ A, ∃ o, H a = some o
  | _, _, _, .nil, _, m => absurd m (by simp)
  | _, _, _, .cons h hs, b, m => (List.mem_append.mp m).elim (RVr.dom h b) (RVs.dom hs b)
theorem RKv.dom : ∀ {kvs : List (PyData × RV)} {es : List DictEntry} {A : List Addr}, RKv K w W H kvs es A → ∀ a ∈ A, ∃ o, H a = some o
  | _, _, _, .nil, _, m => absurd m (by simp)
  | _, _, _, .cons _ _ _ _ _ e _ g, b, m => (List.mem_append.mp m).elim (RVr.dom e b) (RKv.dom g b)
end
theorem Up.at (u : Up W H W' H') {A : List Addr} (d : ∀ a ∈ A, ∃ o, H a = some o) (n : ∀ a ∈ A, a ∉ W.β) : ∀ a ∈ A, H' a = H a := fun a m => by
  obtain ⟨o, e⟩ := d a m
  rw [u.ext a o e (n a m), e]
theorem RVr.up (u : Up W H W' H') (s : SR K w W H st) {x : RV} {v : V} {A : List Addr} (h : RVr K w W H x v A) (n : ∀ a ∈ A, a ∉ W.β) : RVr K w W' H' x v A := h.keep (u.keepR s) (u.at h.dom n)
theorem RVs.up (u : Up W H W' H') (s : SR K w W H st) {x : List RV} {v : List V} {A : List Addr} (h : RVs K w W H x v A) (n : ∀ a ∈ A, a ∉ W.β) : RVs K w W' H' x v A := h.keep (u.keepR s) (u.at h.dom n)
theorem deepKv_keys : ∀ {kvs : List (PyData × RV)} {ds : List (PyData × PyData)}, Z.deepKv kvs = some ds → ds.map (·.1) = kvs.map (·.1)
  | [], _, e => by
    rw [Z.deepKv] at e
    cases e
    rfl
  | (k, x) :: kvs, _, e => by
    rw [Z.deepKv] at e
    split at e
    · rename_i q qs e1 e2
      cases e
      rw [List.map_cons, List.map_cons, deepKv_keys e2]
    · cases e
/-- lists that nothing else held are handed on as data -/
def Wd.fz (W : Wd) (A : List Addr) : Wd := { W with F := fun a => W.F a ∨ a ∈ A }
theorem Keep.fz (A : List Addr) : Keep K W.F H (W.fz A).F H := ⟨fun _ _ h => h, fun _ _ _ h => h, fun _ f => ⟨.inl f, rfl⟩⟩
mutual
theorem RVr.deep {A0 : List Addr} : ∀ {x : RV} {v : V} {A : List Addr} {d : PyData}, RVr K w W H x v A → Z.deep x = some d → (∀ a ∈ A, a ∈ A0) → Rep K w (W.fz A0).F H d v
  | .dat _, _, _, _, .dat h, e, _ => by
    rw [Z.deep] at e
    cases e
    exact h.keep (Keep.fz _)
  | .own xs, _, _, _, .own h hs, e, n => by
    rw [Z.deep] at e
    obtain ⟨ds, e1, rfl⟩ := Option.map_eq_some_iff.mp e
    exact .lst (.inr (n _ List.mem_cons_self)) h (RVs.deep hs e1 fun b hb => n b (List.mem_cons_of_mem _ hb))
  | .odi kvs, _, _, _, .odi h ko hs, e, n => by
    rw [Z.deep] at e
    obtain ⟨ds, e1, rfl⟩ := Option.map_eq_some_iff.mp e
    exact .dct (.inr (n _ List.mem_cons_self)) h (by rw [deepKv_keys e1]; exact ko) (RKv.deep hs e1 fun b hb => n b (List.mem_cons_of_mem _ hb))
  | .ref _, _, _, _, _, e, _ => by simp [Z.deep] at e
  | .bor _, _, _, _, _, e, _ => by simp [Z.deep] at e
  | .tpl _, _, _, _, _, e, _ => by simp [Z.deep] at e
  | .scr _, _, _, _, _, e, _ => by simp [Z.deep] at e
theorem RVs.deep {A0 : List Addr} : ∀ {xs : List RV} {vs : List V} {A : List Addr} {ds : List PyData}, RVs K w W H xs vs A → Z.deeps xs = some ds → (∀ a ∈ A, a ∈ A0) → Reps K w (W.fz A0).F H ds vs
  | [], _, _, _, .nil, e, _ => by
    rw [Z.deeps] at e
    cases e
    exact .nil
  | x :: xs, _, _, _, .cons h hs, e, n => by
    rw [Z.deeps] at e
    split at e
    · rename_i d ds e1 e2
      cases e
      exact .cons (RVr.deep h e1 fun a ha => n a (List.mem_append_left _ ha)) (RVs.deep hs e2 fun a ha => n a (List.mem_append_right _ ha))
    · cases e
theorem RKv.deep {A0 : List Addr} : ∀ {kvs : List (PyData × RV)} {es : List DictEntry} {A : List Addr} {ds : List (PyData × PyData)}, RKv K w W H kvs es A → Z.deepKv kvs = some ds → (∀ a ∈ A, a ∈ A0) → RepKv K w (W.fz A0).F H ds es
  | [], _, _, _, .nil, e, _ => by
    rw [Z.deepKv] at e
    cases e
    exact .nil
  | (k, x) :: kvs, _, _, _, .cons a l b c d h f hs, e, n => by
    rw [Z.deepKv] at e
    split at e
    · rename_i q qs e1 e2
      cases e
      exact .cons a b (c.keep (Keep.fz _)) d (RVr.deep h e1 fun a ha => n a (List.mem_append_left _ ha)) f (RKv.deep hs e2 fun a ha => n a (List.mem_append_right _ ha))
    · cases e
end
/-- .. in the world that knows them as staying -/
theorem Up.fz (u : Up W H W' H') {A : List Addr} (f : ∀ a ∈ A, H a = Option.none) : Up W H (W'.fz A) H' :=
  ⟨fun a h => .inl (u.F a h), u.O, u.P, u.β, u.ext, u.dom, fun a h => h.elim (u.Fn a) fun q => .inr (f a q), u.βn⟩
theorem KeepR.fz (A : List Addr) : KeepR K W H (W.fz A) H := ⟨Keep.fz A, List.prefix_refl _, fun _ _ h => h, fun _ _ _ h => h, fun _ f => ⟨f, rfl⟩⟩
theorem CellR.keep (k : KeepR K W H W' H') {i : Nat} {a : Addr} {c : Cell} (h : CellR K w W H i a c) (e : H' a = H a) : CellR K w W' H' i a c := by
  cases h with
  | lst h hs f => exact .lst (e.trans h) (hs.keep k fun _ m => absurd m (by simp)) f
  | dct h ko hs f => exact .dct (e.trans h) ko (hs.keep k fun _ m => absurd m (by simp)) f
theorem SR.fz (s : SR K w W H st) {A : List Addr} (n : ∀ a ∈ A, a ∉ W.β) (np : ∀ a ∈ A, ¬ W.P a) (d : ∀ a ∈ A, ∃ o, H a = some o) : SR K w (W.fz A) H st where
  len := s.len
  nd := s.nd
  bf := fun a h => fun q => q.elim (s.bf a h) fun z => n a z h
  pf := fun a h => ⟨fun q => q.elim (s.pf a h).1 fun z => np a z h, (s.pf a h).2⟩
  dom := fun a h => h.elim (s.dom a) (d a)
  cells := fun i c a h1 h2 => (s.cells i c a h1 h2).keep (KeepR.fz A) rfl
  fr := s.fr
end
end Z

set_option linter.all false
set_option maxRecDepth 100000
set_option maxHeartbeats 1000000
/-! Z3: what an expression leaves; names, constants, operators. -/
namespace Z
open PySem PySem.Spec PyProof.Rows L2

/-- new since H, held by nothing -/
structure Fresh (W' : Wd) (H : Hp) (A : List Addr) : Prop where
  nd : A.Nodup
  no : ∀ a ∈ A, ¬ W'.F a ∧ a ∉ W'.β ∧ H a = none
  np : ∀ a ∈ A, ¬ W'.P a
/-- the slots; A: what each holds alone -/
structure EnvR (K : PySem.W.Frag) (w : World) (W : Wd) (H : Hp) (env : Ev) (σ : L2.St) (A : Nat → List Addr) : Prop where
  len : env.length = σ.length
  at_ : ∀ (i : Nat) (x : RV), env[i]? = some (some x) → ∃ v, σ[i]? = some (some v) ∧ RVr K w W H x v (A i)
  none_ : ∀ i, (∀ x, env[i]? ≠ some (some x)) → A i = []
  nd : ∀ i, (A i).Nodup
  no : ∀ i, ∀ a ∈ A i, ¬ W.F a ∧ a ∉ W.β ∧ W.O a
  np : ∀ i, ∀ a ∈ A i, ¬ W.P a
  dj : ∀ i j, i ≠ j → ∀ a ∈ A i, a ∉ A j
/-- the frame -/
structure FR (K : PySem.W.Frag) (w : World) (W : Wd) (H : Hp) (env : Ev) (st : Sto) (σ : L2.St) : Prop where
  sr : SR K w W H st
  env : ∃ A, EnvR K w W H env σ A
/-- an exception's wish: its class, its own dict's address, the heap -/
abbrev XW := Value → Option Addr → Hp → Prop
/-- how a raised thing lies: (further on) -/
abbrev XR := Str → List RV → Value → Option Addr → Wd → Hp → Prop
section
variable (K : PySem.W.Frag) (w : World) (xr : XR)
def Good (r : R RV) (W : Wd) (H : Hp) (E : XW) (Q : VK) : Prop := match r with
  | .ok x st' => ∀ W' H' v A, Up W H W' H' → SR K w W' H' st' → RVr K w W' H' x v A → Fresh W' H A → Q v H'
  | .exc c xs st' => ∀ W' H' cls d, Up W H W' H' → SR K w W' H' st' → xr c xs cls d W' H' → E cls d H'
  | .err => False
/-- the same of anything that an evaluation hands back; P tells how it lies -/
def GoodP {α : Type} (r : R α) (W : Wd) (H : Hp) (E : XW) (P : α → Sto → Wd → Hp → Prop) : Prop := match r with
  | .ok x st' => ∀ W' H', Up W H W' H' → SR K w W' H' st' → P x st' W' H'
  | .exc c xs st' => ∀ W' H' cls d, Up W H W' H' → SR K w W' H' st' → xr c xs cls d W' H' → E cls d H'
  | .err => False
/-- an expression's reading -/
def tEv (E : L2.St → XW) (f : Ev → Sto → R RV) : TE := fun σ H Q => ∃ W env st, FR K w W H env st σ ∧ Good K w xr (f env st) W H (E σ) Q
end
section
variable {K : PySem.W.Frag} {w : World} {xr : XR} {W W1 W' : Wd} {H H1 H' : Hp} {st st1 : Sto} {E : XW} {Q : VK} {env : Ev} {σ : L2.St}
theorem Fresh.nil : Fresh W H [] := ⟨List.nodup_nil, fun _ m => absurd m (by simp), fun _ m => absurd m (by simp)⟩
theorem Fresh.up {A : List Addr} (f : Fresh W1 H A) (u : Up W1 H1 W' H') (d : ∀ a ∈ A, ∃ o, H1 a = some o) : Fresh W' H A where
  nd := f.nd
  no := fun a m => by
    obtain ⟨f1, f2, f3⟩ := f.no a m
    obtain ⟨o, e⟩ := d a m
    refine ⟨fun z => ?_, fun z => ?_, f3⟩
    · rcases u.Fn a z with q | q
      · exact f1 q
      · rw [e] at q
        cases q
    · rcases u.βn a z with q | q
      · exact f2 q
      · rw [e] at q
        cases q
  np := fun a m => by
    rw [u.P]
    exact f.np a m
theorem Fresh.from {A : List Addr} (f : Fresh W' H1 A) (u : Up W H W1 H1) : Fresh W' H A := ⟨f.nd, fun a m => ⟨(f.no a m).1, (f.no a m).2.1, u.gone (f.no a m).2.2⟩, f.np⟩
theorem Good.shift {r : R RV} (h : Good K w xr r W H E Q) (u : Up W H W1 H1) : Good K w xr r W1 H1 E Q := by
  cases r with
  | ok x st' => exact fun W' H' v A u' s' r' f' => h W' H' v A (u.trans u') s' r' (f'.from u)
  | exc c xs st' => exact fun W' H' cls d u' s' q => h W' H' cls d (u.trans u') s' q
  | err => exact h
theorem Good.bind {α : Type} {r : R α} {f : α → Sto → R RV} {P : α → Sto → Wd → Hp → Prop} (h : Good K w xr (r.bind f) W H E Q)
    (k : ∀ x st1 W1 H1, r = .ok x st1 → Good K w xr (f x st1) W H E Q → Up W H W1 H1 → SR K w W1 H1 st1 → P x st1 W1 H1) : GoodP K w xr r W H E P := by
  cases r with
  | ok x st' => exact fun W' H' u s => k x st' W' H' rfl h u s
  | exc c xs st' => exact h
  | err => exact h
/-- one thing is reckoned, then another one -/
theorem Good.then {r : R RV} {f : RV → Sto → R RV} {Q' : VK} (h : Good K w xr (r.bind f) W H E Q) (u0 : Up W H W1 H1)
    (k : ∀ x st2 W2 H2 v A, Good K w xr (f x st2) W H E Q → Up W1 H1 W2 H2 → SR K w W2 H2 st2 → RVr K w W2 H2 x v A → Fresh W2 H1 A → Q' v H2) : Good K w xr r W1 H1 E Q' := by
  cases r with
  | ok x st' => exact fun W' H' v A u s rv fr => k x st' W' H' v A h u s rv fr
  | exc c xs st' => exact fun W' H' cls d u s q => h W' H' cls d (u0.trans u) s q
  | err => exact h
theorem EnvR.up {A : Nat → List Addr} (e : EnvR K w W H env σ A) (u : Up W H W' H') (s : SR K w W H st) : EnvR K w W' H' env σ A where
  len := e.len
  at_ := fun i x h => by
    obtain ⟨v, h1, h2⟩ := e.at_ i x h
    exact ⟨v, h1, h2.up u s fun a m => (e.no i a m).2.1⟩
  none_ := e.none_
  nd := e.nd
  no := fun i a m => by
    obtain ⟨n1, n2, n3⟩ := e.no i a m
    have hd : ∃ o, H a = some o := by
      by_cases hx : ∃ x, env[i]? = some (some x)
      · obtain ⟨x, hx⟩ := hx
        obtain ⟨v, _, h2⟩ := e.at_ i x hx
        exact h2.dom a m
      · have z := e.none_ i fun x q => hx ⟨x, q⟩
        rw [z] at m
        exact absurd m (by simp)
    obtain ⟨o, ho⟩ := hd
    refine ⟨fun z => ?_, fun z => ?_, by rw [u.O]; exact n3⟩
    · rcases u.Fn a z with q | q
      · exact n1 q
      · rw [ho] at q
        cases q
    · rcases u.βn a z with q | q
      · exact n2 q
      · rw [ho] at q
        cases q
  np := fun i a m => by rw [u.P]; exact e.np i a m
  dj := e.dj
theorem FR.up (f : FR K w W H env st σ) (u : Up W H W' H') (s : SR K w W' H' st1) : FR K w W' H' env st1 σ :=
  ⟨s, let ⟨A, e⟩ := f.env; ⟨A, e.up u f.sr⟩⟩
/-- a thing that stays, looked at -/
theorem Rep.now {d : PyData} {v : V} {F : Addr → Prop} (h : Rep K w F H d v) : Rep K w (fun _ => True) H d v := h.keep ⟨fun _ _ h => h, fun _ _ _ h => h, fun _ _ => ⟨trivial, rfl⟩⟩
theorem Reps.now {d : List PyData} {v : List V} {F : Addr → Prop} (h : Reps K w F H d v) : Reps K w (fun _ => True) H d v := h.keep ⟨fun _ _ h => h, fun _ _ _ h => h, fun _ _ => ⟨trivial, rfl⟩⟩
theorem RepKv.now {d : List (PyData × PyData)} {v : List DictEntry} {F : Addr → Prop} (h : RepKv K w F H d v) : RepKv K w (fun _ => True) H d v := h.keep ⟨fun _ _ h => h, fun _ _ _ h => h, fun _ _ => ⟨trivial, rfl⟩⟩
theorem dats_reps : ∀ {xs : List RV} {vs : List V} {A : List Addr} {ds : List PyData}, RVs K w W H xs vs A → dats xs = some ds → Reps K w W.F H ds vs
  | _, _, _, _, .nil, e => by
    rw [dats] at e
    cases e
    exact .nil
  | .dat d :: xs, _, _, _, .cons h hs, e => by
    rw [dats] at e
    obtain ⟨ds, e1, rfl⟩ := Option.map_eq_some_iff.mp e
    cases h with
    | dat h => exact .cons h (dats_reps hs e1)
  | .ref _ :: _, _, _, _, _, e => by simp [dats] at e
  | .own _ :: _, _, _, _, _, e => by simp [dats] at e
  | .odi _ :: _, _, _, _, _, e => by simp [dats] at e
  | .bor _ :: _, _, _, _, _, e => by simp [dats] at e
  | .tpl _ :: _, _, _, _, _, e => by simp [dats] at e
  | .scr _ :: _, _, _, _, _, e => by simp [dats] at e
theorem datsKv_reps : ∀ {xs : List (PyData × RV)} {vs : List DictEntry} {A : List Addr} {ds : List (PyData × PyData)}, RKv K w W H xs vs A → datsKv xs = some ds → RepKv K w W.F H ds vs
  | _, _, _, _, .nil, e => by
    rw [datsKv] at e
    cases e
    exact .nil
  | (k, .dat d) :: xs, _, _, _, .cons a l b c q h f hs, e => by
    rw [datsKv] at e
    obtain ⟨ds, e1, rfl⟩ := Option.map_eq_some_iff.mp e
    cases h with
    | dat h => exact .cons a b c q h f (datsKv_reps hs e1)
  | (_, .ref _) :: _, _, _, _, _, e => by simp [datsKv] at e
  | (_, .own _) :: _, _, _, _, _, e => by simp [datsKv] at e
  | (_, .odi _) :: _, _, _, _, _, e => by simp [datsKv] at e
  | (_, .bor _) :: _, _, _, _, _, e => by simp [datsKv] at e
  | (_, .tpl _) :: _, _, _, _, _, e => by simp [datsKv] at e
  | (_, .scr _) :: _, _, _, _, _, e => by simp [datsKv] at e
theorem datsKv_keys : ∀ {kvs : List (PyData × RV)} {ds : List (PyData × PyData)}, datsKv kvs = some ds → ds.map (·.1) = kvs.map (·.1)
  | [], _, e => by
    rw [datsKv] at e
    cases e
    rfl
  | (k, .dat d) :: kvs, _, e => by
    rw [datsKv] at e
    obtain ⟨ds, e1, rfl⟩ := Option.map_eq_some_iff.mp e
    rw [List.map_cons, List.map_cons, datsKv_keys e1]
  | (_, .ref _) :: _, _, e => by simp [datsKv] at e
  | (_, .own _) :: _, _, e => by simp [datsKv] at e
  | (_, .odi _) :: _, _, e => by simp [datsKv] at e
  | (_, .bor _) :: _, _, e => by simp [datsKv] at e
  | (_, .tpl _) :: _, _, e => by simp [datsKv] at e
  | (_, .scr _) :: _, _, e => by simp [datsKv] at e
mutual
theorem vw_rep (s : SR K w W H st) : ∀ {x : RV} {v : V} {A : List Addr} {d : PyData}, RVr K w W H x v A → vw st x = some d → Rep K w (fun _ => True) H d v
  | .dat _, _, _, _, .dat h, e => by
    rw [vw] at e
    cases e
    exact h.now
  | .bor _, _, _, _, .bor h, e => by
    rw [vw] at e
    cases e
    exact h.now
  | .own xs, _, _, _, .own (A := B) h hs, e => by
    rw [vw] at e
    obtain ⟨ds, e1, rfl⟩ := Option.map_eq_some_iff.mp e
    exact .lst trivial h (RVs.deep (A0 := B) hs e1 fun b hb => hb).now
  | .odi xs, _, _, _, .odi (A := B) h ko hs, e => by
    rw [vw] at e
    obtain ⟨ds, e1, rfl⟩ := Option.map_eq_some_iff.mp e
    exact .dct trivial h (by rw [deepKv_keys e1]; exact ko) (RKv.deep (A0 := B) hs e1 fun b hb => hb).now
  | .scr _, _, _, _, _, e => by simp [vw] at e
  | .tpl xs, _, _, _, .tpl h hs, e => by
    rw [vw] at e
    obtain ⟨ds, e1, rfl⟩ := Option.map_eq_some_iff.mp e
    exact .tup h (vws_reps s hs e1)
  | .ref i, _, _, _, .ref (a := a) h, e => by
    rw [vw] at e
    cases q : st[i]? with
    | none =>
      rw [q] at e
      cases e
    | some c =>
      rw [q] at e
      have z := s.cells i c a q h
      cases z with
      | lst h1 h2 _ =>
        obtain ⟨ds, e1, rfl⟩ := Option.map_eq_some_iff.mp e
        exact .lst trivial h1 (dats_reps h2 e1).now
      | dct h1 ko h2 _ =>
        obtain ⟨ds, e1, rfl⟩ := Option.map_eq_some_iff.mp e
        exact .dct trivial h1 (by rw [datsKv_keys e1]; exact ko) (datsKv_reps h2 e1).now
theorem vws_reps (s : SR K w W H st) : ∀ {xs : List RV} {vs : List V} {A : List Addr} {ds : List PyData}, RVs K w W H xs vs A → vws st xs = some ds → Reps K w (fun _ => True) H ds vs
  | [], _, _, _, .nil, e => by
    rw [vws] at e
    cases e
    exact .nil
  | x :: xs, _, _, _, .cons h hs, e => by
    rw [vws] at e
    split at e
    · rename_i d ds e1 e2
      cases e
      exact .cons (vw_rep s h e1) (vws_reps s hs e2)
    · cases e
end
end
end Z

set_option linter.all false
set_option maxRecDepth 100000
set_option maxHeartbeats 1000000
/-! Z4: operators on two values. -/
namespace Z
open PySem PySem.Spec PyProof.Rows L2
section
variable {K : PySem.W.Frag} {w : World} {xr : XR} {W W0 W1 W' : Wd} {H H0 H1 H' : Hp} {st st1 : Sto} {E : XW} {Q : VK} {env : Ev} {σ : L2.St}
/-- the top just now, the parts stay -/
def SolT (K : PySem.W.Frag) (w : World) (F : Addr → Prop) (H : Hp) (d : PyData) (v : V) : Prop := match d with
  | .list ds => ∃ a vs, v = .ref a ∧ H a = some (.lst vs) ∧ Reps K w F H ds vs
  | .dict _ => True
  | d => Rep K w F H d v
theorem SolT.of {F : Addr → Prop} {d : PyData} {v : V} (h : Rep K w F H d v) : SolT K w F H d v := by
  cases h with
  | lst f h hs => exact ⟨_, _, rfl, h, hs⟩
  | dct => exact trivial
  | non => exact .non
  | bl b => exact .bl b
  | int i => exact .int i
  | str x => exact .str x
  | tup h hs => exact .tup h hs
theorem solid_rep (s : SR K w W H st) {x : RV} {v : V} {A A0 : List Addr} {d : PyData} (h : RVr K w W H x v A) (e : solid st x = some d) (n : ∀ a ∈ A, a ∈ A0) : SolT K w (W.fz A0).F H d v := by
  cases h with
  | dat h =>
    rw [solid, vw] at e
    · cases e
      exact SolT.of (h.keep (Keep.fz _))
    all_goals (intros; simp_all)
  | own h hs =>
    rw [solid, vw] at e
    · obtain ⟨ds, e1, rfl⟩ := Option.map_eq_some_iff.mp e
      exact ⟨_, _, rfl, h, RVs.deep hs e1 fun b hb => n b (List.mem_cons_of_mem _ hb)⟩
    all_goals (intros; simp_all)
  | odi h ko hs =>
    rw [solid, vw] at e
    · obtain ⟨ds, e1, rfl⟩ := Option.map_eq_some_iff.mp e
      exact trivial
    all_goals (intros; simp_all)
  | tpl h hs => simp [solid] at e
  | scr h => simp [solid] at e
  | bor h =>
    rename_i d0
    have flat : ∀ d1 : PyData, noL d1 = true → Rep K w (bF W H) H d1 v → SolT K w (W.fz A0).F H d1 v := fun d1 h1 h2 => SolT.of (h2.keepN (fun _ _ q => q) h1)
    cases h with
    | lst f h hs =>
      rename_i a ds vs
      by_cases hn : noLs ds = true
      · have e' : some (PyData.list ds) = some d := by rw [← e, solid, if_pos hn]
        cases e'
        exact ⟨_, _, rfl, h, hs.keepN (fun _ _ q => q) hn⟩
      · rw [solid, if_neg hn] at e
        cases e
    | dct f h ko hs => simp [solid, noL] at e
    | non =>
      simp [solid, noL] at e
      subst e
      exact .non
    | bl b =>
      simp [solid, noL] at e
      subst e
      exact .bl b
    | int i =>
      simp [solid, noL] at e
      subst e
      exact .int i
    | str x =>
      simp [solid, noL] at e
      subst e
      exact .str x
    | tup h hs =>
      rename_i a ds vs
      by_cases hn : noL (.tuple ds) = true
      · have e' : some (PyData.tuple ds) = some d := by rw [← e, solid, if_pos hn]; intros; simp_all
        cases e'
        exact .tup h (hs.keepN (fun _ _ q => q) (by simpa [noL] using hn))
      · rw [solid, if_neg hn] at e
        · cases e
        · intros; simp_all
  | ref h =>
    rename_i i a
    rw [solid, vw] at e
    · cases q : st[i]? with
      | none =>
        rw [q] at e
        cases e
      | some c =>
        rw [q] at e
        have z := s.cells i c a q h
        cases z with
        | lst h1 h2 _ =>
          obtain ⟨ds, e1, rfl⟩ := Option.map_eq_some_iff.mp e
          exact ⟨_, _, rfl, h1, (dats_reps h2 e1).keep (Keep.fz _)⟩
        | dct h1 ko h2 _ =>
          obtain ⟨ds, e1, rfl⟩ := Option.map_eq_some_iff.mp e
          exact trivial
    all_goals (intros; simp_all)
/-! ### a new object -/
theorem Up.new (u : Up W0 H0 W H) {p : Addr} {o : HO} (hp : H p = none) : Up W0 H0 W (upd H p o) where
  F := u.F
  O := u.O
  P := u.P
  β := u.β
  ext := fun a o' h n => by
    have e := u.ext a o' h n
    rw [upd_ne (ne_of_none e hp)]
    exact e
  dom := fun a o' h => by
    obtain ⟨o2, e⟩ := u.dom a o' h
    exact ⟨o2, by rw [upd_ne (ne_of_none e hp)]; exact e⟩
  Fn := u.Fn
  βn := u.βn
theorem SR.βdom (s : SR K w W H st) {a : Addr} (h : a ∈ W.β) : ∃ o, H a = some o := by
  rcases s.cell h with ⟨vs, e⟩ | ⟨es, e⟩
  · exact ⟨_, e⟩
  · exact ⟨_, e⟩
theorem SR.new (s : SR K w W H st) {p : Addr} {o : HO} (hp : H p = none) : SR K w W (upd H p o) st where
  len := s.len
  nd := s.nd
  bf := s.bf
  pf := fun a f => by
    obtain ⟨n, o2, e⟩ := s.pf a f
    exact ⟨n, o2, by rw [upd_ne (ne_of_none e hp)]; exact e⟩
  dom := fun a f => by
    obtain ⟨o2, e⟩ := s.dom a f
    exact ⟨o2, by rw [upd_ne (ne_of_none e hp)]; exact e⟩
  cells := fun i c a h1 h2 => by
    obtain ⟨o2, e⟩ := s.βdom (List.mem_of_getElem? h2)
    exact (s.cells i c a h1 h2).keep ((Up.refl.new hp).keepR s) (upd_ne (ne_of_none e hp))
  fr := fun a h => s.fr a (by
    by_cases e : a = p
    · subst e
      exact hp
    · rw [upd_ne e] at h
      exact h)
theorem SR.npP (s : SR K w W H st) {p : Addr} (hp : H p = none) : ¬ W.P p := fun z => by
  obtain ⟨_, o, e⟩ := s.pf p z
  rw [hp] at e
  cases e
/-- a good end: data -/
theorem Good.dat {d : PyData} {v : V} {C : List Addr} (h : Good K w xr (.ok (.dat d) st) W0 H0 E Q) (u : Up W0 H0 W H) (s : SR K w W H st) (f : Fresh W H0 C) (d0 : ∀ a ∈ C, ∃ o, H a = some o) (r : Rep K w (W.fz C).F H d v) : Q v H :=
  h (W.fz C) H v [] (u.fz fun a m => (f.no a m).2.2) (s.fz (fun a m => (f.no a m).2.1) f.np d0) (.dat r) Fresh.nil
theorem Good.flat {d : PyData} {v : V} (h : Good K w xr (.ok (.dat d) st) W0 H0 E Q) (u : Up W0 H0 W H) (s : SR K w W H st) (r : Rep K w W.F H d v) : Q v H := h W H v [] u s (.dat r) Fresh.nil
theorem reps_dat {F : Addr → Prop} : ∀ {ds : List PyData} {vs : List V}, Reps K w W.F H ds vs → RVs K w W H (ds.map RV.dat) vs []
  | _, _, .nil => .nil
  | _, _, .cons h hs => .cons (A := []) (B := []) (.dat h) (reps_dat (F := F) hs)
/-- a new list of things that stay -/
theorem Good.newl {ds : List PyData} {vs : List V} {C : List Addr} {p : Addr} (h : Good K w xr (.ok (.own (ds.map .dat)) st) W0 H0 E Q) (u : Up W0 H0 W H) (s : SR K w W H st) (f : Fresh W H0 C) (d0 : ∀ a ∈ C, ∃ o, H a = some o) (r : Reps K w (W.fz C).F H ds vs) (hp : H p = none) : Q (.ref p) (upd H p (.lst vs)) := by
  have u1 : Up W0 H0 (W.fz C) H := u.fz fun a m => (f.no a m).2.2
  have s1 : SR K w (W.fz C) H st := s.fz (fun a m => (f.no a m).2.1) f.np d0
  have hk : KeepR K (W.fz C) H (W.fz C) (upd H p (.lst vs)) := (Up.refl.new hp).keepR s1
  refine h (W.fz C) _ _ [p] (u1.new hp) (s1.new hp) (.own upd_same (reps_dat (F := fun _ => True) (r.keep hk.k))) ⟨by simp, fun a m => ?_, fun a m => ?_⟩
  rotate_left
  · obtain rfl : a = p := by simpa using m
    exact s.npP hp
  obtain rfl : a = p := by simpa using m
  refine ⟨fun z => ?_, fun z => ?_, u.gone hp⟩
  · obtain ⟨o, e⟩ := s1.dom a z
    rw [hp] at e
    cases e
  · obtain ⟨o, e⟩ := s1.βdom z
    rw [hp] at e
    cases e
/-- a new tuple of things that stay -/
theorem Good.newt {ds : List PyData} {vs : List V} {C : List Addr} {p : Addr} (h : Good K w xr (.ok (.dat (.tuple ds)) st) W0 H0 E Q) (u : Up W0 H0 W H) (s : SR K w W H st) (f : Fresh W H0 C) (d0 : ∀ a ∈ C, ∃ o, H a = some o) (r : Reps K w (W.fz C).F H ds vs) (hp : H p = none) : Q (.ref p) (upd H p (.tup vs)) := by
  have u1 : Up W0 H0 (W.fz C) H := u.fz fun a m => (f.no a m).2.2
  have s1 : SR K w (W.fz C) H st := s.fz (fun a m => (f.no a m).2.1) f.np d0
  have hk : KeepR K (W.fz C) H (W.fz C) (upd H p (.tup vs)) := (Up.refl.new hp).keepR s1
  exact h (W.fz C) _ _ [] (u1.new hp) (s1.new hp) (.dat (.tup (SqT.of upd_same) (r.keep hk.k))) Fresh.nil
end
/-! ### two values -/
/-- what stands when two values are known -/
structure Two (K : PySem.W.Frag) (w : World) (W0 : Wd) (H0 : Hp) (W : Wd) (H : Hp) (st : Sto) (x : RV) (v : V) (y : RV) (u : V) : Prop where
  up : Up W0 H0 W H
  sr : SR K w W H st
  ex : ∃ A B, RVr K w W H x v A ∧ RVr K w W H y u B ∧ Fresh W H0 (A ++ B)
def rTwo (K : PySem.W.Frag) (w : World) (xr : XR) (f : RV → RV → Sto → R RV) : R2 := fun v u H Q => ∃ W0 H0 W st x y E, Two K w W0 H0 W H st x v y u ∧ Good K w xr (f x y st) W0 H0 E Q
section
variable {K : PySem.W.Frag} {w : World} {xr : XR} {E : L2.St → XW}
theorem tEv.two {fa fb : Ev → Sto → R RV} {f : RV → RV → Sto → R RV} {σ : L2.St} {H : Hp} {Q : VK} (h : tEv K w xr E (fun env st => (fa env st).bind fun x st => (fb env st).bind fun y st => f x y st) σ H Q) :
    tOp (rTwo K w xr f) (tEv K w xr E fa) (tEv K w xr E fb) σ H Q := by
  obtain ⟨W, env, st, F, h⟩ := h
  refine ⟨W, env, st, F, Good.then h Up.refl fun x st1 W1 H1 v A h1 u1 s1 r1 f1 => ?_⟩
  have F1 := F.up u1 s1
  refine ⟨W1, env, st1, F1, Good.then h1 u1 fun y st2 W2 H2 u B h2 u2 s2 r2 f2 => ?_⟩
  have d1 := r1.dom
  have nb1 : ∀ a ∈ A, a ∉ W1.β := fun a m => (f1.no a m).2.1
  have fA : Fresh W2 H A := f1.up u2 d1
  have fB : Fresh W2 H B := f2.from u1
  refine ⟨W, H, W2, st2, x, y, E σ, ⟨u1.trans u2, s2, A, B, r1.up u2 s1 nb1, r2, ⟨List.nodup_append.mpr ⟨f1.nd, f2.nd, fun a ha b hb e => ?_⟩, fun a m => (List.mem_append.mp m).elim (fA.no a) (fB.no a), fun a m => (List.mem_append.mp m).elim (fA.np a) (fB.np a)⟩⟩, h2⟩
  subst e
  obtain ⟨o, e⟩ := d1 a ha
  rw [(f2.no a hb).2.2] at e
  cases e
end
end Z

set_option linter.all false
set_option maxRecDepth 100000
set_option maxHeartbeats 1000000
/-! Z5: arithmetic, sums of lists and tuples. -/
namespace Z
open PySem PySem.Spec PyProof.Rows L2
section
variable {X : Cx} {xr : XR}
def fBin (op : Operator) (v u : RV) (st : Sto) : R RV := (ofO (solid st v) st).bind fun x st => (ofO (solid st u) st).bind fun y st => ofO (binD op x y) st
theorem ofO_good {α : Type} {K : PySem.W.Frag} {w : World} {W : Wd} {H : Hp} {st : Sto} {E : XW} {Q : VK} {o : Option α} {f : α → Sto → R RV} (h : Good K w xr ((ofO o st).bind f) W H E Q) : ∃ a, o = some a ∧ Good K w xr (f a st) W H E Q := by
  cases o with
  | none => exact h.elim
  | some a => exact ⟨a, rfl, h⟩
theorem ofO_end {K : PySem.W.Frag} {w : World} {W : Wd} {H : Hp} {st : Sto} {E : XW} {Q : VK} {o : Option RV} (h : Good K w xr (ofO o st) W H E Q) : ∃ a, o = some a ∧ Good K w xr (.ok a st) W H E Q := by
  cases o with
  | none => exact h.elim
  | some a => exact ⟨a, rfl, h⟩
/-- two values, seen through -/
structure Two2 (K : PySem.W.Frag) (w : World) (W0 : Wd) (H0 : Hp) (W : Wd) (H : Hp) (st : Sto) (C : List Addr) (a b : PyData) (v u : V) : Prop where
  up : Up W0 H0 W H
  sr : SR K w W H st
  fr : Fresh W H0 C
  dom : ∀ c ∈ C, ∃ o, H c = some o
  a : SolT K w (W.fz C).F H a v
  b : SolT K w (W.fz C).F H b u
theorem two_solid {K : PySem.W.Frag} {w : World} {g : PyData → PyData → Sto → R RV} {x y : V} {H : Hp} {Q : VK} (h : rTwo K w xr (fun v u st => (ofO (solid st v) st).bind fun a st => (ofO (solid st u) st).bind fun b st => g a b st) x y H Q) :
    ∃ W0 H0 W st E C a b, Two2 K w W0 H0 W H st C a b x y ∧ Good K w xr (g a b st) W0 H0 E Q := by
  obtain ⟨W0, H0, W, st, v, u, E, ⟨up, sr, A, B, r1, r2, f⟩, h⟩ := h
  obtain ⟨a, e1, h⟩ := ofO_good h
  obtain ⟨b, e2, h⟩ := ofO_good h
  exact ⟨W0, H0, W, st, E, A ++ B, a, b, ⟨up, sr, f, fun c m => (List.mem_append.mp m).elim (r1.dom c) (r2.dom c), solid_rep sr r1 e1 fun c m => List.mem_append_left _ m, solid_rep sr r2 e2 fun c m => List.mem_append_right _ m⟩, h⟩
theorem SolT.int {K : PySem.W.Frag} {w : World} {F : Addr → Prop} {H : Hp} {i : Int} {v : V} (h : SolT K w F H (.int i) v) : v = .int i := by
  cases (show Rep K w F H (.int i) v from h)
  rfl
theorem SolT.str {K : PySem.W.Frag} {w : World} {F : Addr → Prop} {H : Hp} {i : Str} {v : V} (h : SolT K w F H (.str i) v) : v = .str i := by
  cases (show Rep K w F H (.str i) v from h)
  rfl
theorem SolT.tuple {K : PySem.W.Frag} {w : World} {F : Addr → Prop} {H : Hp} {ds : List PyData} {v : V} (h : SolT K w F H (.tuple ds) v) : ∃ a vs, v = .ref a ∧ SqT K H a vs ∧ Reps K w F H ds vs := by
  cases (show Rep K w F H (.tuple ds) v from h) with
  | tup h1 hs => exact ⟨_, _, rfl, h1, hs⟩
theorem lim_eq : lim = sizeLine := by rw [sizeLine_eq]; rfl
theorem Reps.nil_iff {K : PySem.W.Frag} {w : World} {F : Addr → Prop} {H : Hp} {ds : List PyData} {vs : List V} (h : Reps K w F H ds vs) : ds = [] ↔ vs = [] := by
  cases h with
  | nil => simp
  | cons _ _ => simp
theorem reps_rep {K : PySem.W.Frag} {w : World} {F : Addr → Prop} {H : Hp} {ds : List PyData} {vs : List V} (h : Reps K w F H ds vs) : ∀ k : Nat, Reps K w F H (repL ds k) (List.replicate k vs).flatten
  | 0 => .nil
  | k + 1 => by
    have := reps_rep h k
    unfold repL at this ⊢
    rw [List.replicate_succ, List.replicate_succ, List.flatten_cons, List.flatten_cons]
    exact h.app this
theorem Up.fzC {K : PySem.W.Frag} {w : World} {W0 W : Wd} {H0 H : Hp} {st : Sto} {C : List Addr} (u : Up W0 H0 W H) (s : SR K w W H st) (f : Fresh W H0 C) (d : ∀ c ∈ C, ∃ o, H c = some o) : Up W0 H0 (W.fz C) H ∧ SR K w (W.fz C) H st :=
  ⟨u.fz fun a m => (f.no a m).2.2, s.fz (fun a m => (f.no a m).2.1) f.np d⟩
theorem op_bin (op : Operator) : OpR X (binaryOp op) (rTwo X.K X.w xr (fBin op)) := by
  intro pins s σ H x y v u Q I rx ry h0
  obtain ⟨W0, H0, W, st, E, C, a, b, T, h1⟩ := two_solid h0
  obtain ⟨res, e, h⟩ := ofO_end h1
  clear h0 h1
  obtain ⟨u1, s1⟩ := T.up.fzC T.sr T.fr T.dom
  have ta := T.a
  have tb := T.b
  unfold binD at e
  split at e
  · -- int + int
    rename_i i j
    cases e
    exact op_add pins s σ H x y v u Q I rx ry ⟨i, j, ta.int, tb.int, h.flat u1 s1 (.int _)⟩
  · rename_i i j
    cases e
    exact op_sub pins s σ H x y v u Q I rx ry ⟨i, j, ta.int, tb.int, h.flat u1 s1 (.int _)⟩
  · rename_i i j
    split at e
    · rename_i hm
      cases e
      exact op_mulW pins s σ H x y v u Q I rx ry ⟨i, j, ta.int, tb.int, (by unfold mulOk at hm; simpa [CMulW] using hm), h.flat u1 s1 (.int _)⟩
    · cases e
  · rename_i i j
    split at e
    · rename_i hm
      cases e
      exact op_fdivW pins s σ H x y v u Q I rx ry ⟨i, j, ta.int, tb.int, hm, h.flat u1 s1 (.int _)⟩
    · cases e
  · rename_i i j
    split at e
    · rename_i hm
      cases e
      exact op_mod pins s σ H x y v u Q I rx ry ⟨i, j, ta.int, tb.int, hm, h.flat u1 s1 (.int _)⟩
    · cases e
  · rename_i i j
    split at e
    · rename_i hm
      cases e
      exact op_pow pins s σ H x y v u Q I rx ry ⟨i, j, ta.int, tb.int, hm, h.flat u1 s1 (.int _)⟩
    · cases e
  · rename_i i j
    split at e
    · rename_i hm
      cases e
      exact op_add_str pins s σ H x y v u Q I rx ry ⟨i, j, ta.str, tb.str, by rw [← lim_eq]; exact hm, h.flat u1 s1 (.str _)⟩
    · cases e
  · rename_i xs ys
    split at e
    · rename_i hm
      cases e
      obtain ⟨p, vs, rfl, h1, h2⟩ := ta.tuple
      obtain ⟨q, us, rfl, h3, h4⟩ := tb.tuple
      refine op_catA pins s σ H _ _ v u Q I rx ry ⟨p, q, vs, us, rfl, rfl, h1, h3, by rw [← lim_eq, ← h2.length, ← h4.length]; exact hm, fun e1 => ?_, fun e1 e2 => ?_, fun e1 e2 r hr => ?_⟩
      · have e3 := h2.nil_iff.mpr e1
        subst e3
        exact h.flat u1 s1 (.tup h3 h4)
      · have e3 := h4.nil_iff.mpr e2
        subst e3
        rw [List.append_nil] at h
        exact h.flat u1 s1 (.tup h1 h2)
      · exact h.newt T.up T.sr T.fr T.dom (h2.app h4) hr
    · cases e
  · rename_i xs ys
    split at e
    · rename_i hm
      cases e
      obtain ⟨p, vs, rfl, h1, h2⟩ := (show ∃ a vs, _ ∧ _ ∧ _ from ta)
      obtain ⟨q, us, rfl, h3, h4⟩ := (show ∃ a vs, _ ∧ _ ∧ _ from tb)
      refine op_cat pins s σ H _ _ v u Q I rx ry ⟨p, q, vs, us, rfl, rfl, h1, h3, by rw [← lim_eq, ← h2.length, ← h4.length]; exact hm, fun r hr => ?_⟩
      exact h.newl T.up T.sr T.fr T.dom (h2.app h4) hr
    · cases e
  · rename_i xs k
    split at e
    · rename_i hm
      cases e
      obtain ⟨p, vs, rfl, h1, h2⟩ := (show ∃ a vs, _ ∧ _ ∧ _ from ta)
      refine op_rep pins s σ H _ _ v u Q I rx ry ⟨p, k, vs, rfl, tb.int, h1, by omega, by omega, by rw [← lim_eq, ← h2.length]; exact hm.2, fun r hr => ?_⟩
      exact h.newl T.up T.sr T.fr T.dom (reps_rep h2 _) hr
    · cases e
  · rename_i xs k
    split at e
    · rename_i hm
      cases e
      obtain ⟨p, vs, rfl, h1, h2⟩ := ta.tuple
      have hne : vs ≠ [] := fun z => by
        have := h2.nil_iff.mpr z
        exact hm.1 this
      refine op_repT pins s σ H _ _ v u Q I rx ry ⟨p, k, vs, rfl, tb.int, h1, hne, hm.2.1, hm.2.2.1, by rw [← h2.length]; exact hm.2.2.2, fun r hr => ?_⟩
      exact h.newt T.up T.sr T.fr T.dom (reps_rep h2 _) hr
    · cases e
  · cases e
end
end Z

set_option linter.all false
set_option maxRecDepth 100000
set_option maxHeartbeats 1000000
/-! Z6: comparisons. -/
namespace Z
open PySem PySem.Spec PyProof.Rows L2
section
variable {K : PySem.W.Frag} {w : World} {H : Hp}
mutual
theorem rep_dp : ∀ {d : PyData} {v : V}, d.canLay0 = true → Rep K w (fun _ => True) H d v → Dp K H v d
  | _, _, _, .non => .non
  | _, _, _, .bl b => .bl b
  | _, _, _, .int i => .int i
  | _, _, _, .str x => .str x
  | _, _, c, .tup h hs => .tup h (reps_dp (by simpa [PyData.canLay0] using c) hs)
  | _, _, c, .lst _ h hs => .lst (SqL.of h) (reps_dp (by simpa [PyData.canLay0] using c) hs)
  | _, _, c, .dct .. => by simp [PyData.canLay0] at c
theorem reps_dp : ∀ {ds : List PyData} {vs : List V}, PyData.canLayAll0 ds = true → Reps K w (fun _ => True) H ds vs → DpAll K H vs ds
  | _, _, _, .nil => .nil
  | _, _, c, .cons h hs => by
    rw [PyData.canLayAll0, Bool.and_eq_true] at c
    exact .cons (rep_dp c.1 h) (reps_dp c.2 hs)
end
theorem flat_eqV {a b : PyData} {x y : V} (fa : isFlat a = true) (fb : isFlat b = true) (ha : Rep K w (fun _ => True) H a x) (hb : Rep K w (fun _ => True) H b y) : eqV x y = PyData.eqv a b ∧ flatV x = true ∧ flatV y = true := by
  cases ha <;> first
    | (simp [isFlat] at fa; done)
    | (cases hb <;> first
        | (simp [isFlat] at fb; done)
        | (refine ⟨?_, rfl, rfl⟩; simp [eqV, PyData.eqv]))
theorem flats_eqV {a : PyData} {x : V} (fa : isFlat a = true) (ha : Rep K w (fun _ => True) H a x) : ∀ {ds : List PyData} {vs : List V}, ds.all isFlat = true → Reps K w (fun _ => True) H ds vs → inV x vs = (ds.any fun z => PyData.eqv z a) ∧ vs.all flatV = true
  | _, _, _, .nil => ⟨rfl, rfl⟩
  | d :: ds, v :: vs, f, .cons h hs => by
    rw [List.all_cons, Bool.and_eq_true] at f
    obtain ⟨e1, e2⟩ := flats_eqV fa ha f.2 hs
    obtain ⟨q1, q2, _⟩ := flat_eqV f.1 fa h ha
    refine ⟨?_, by rw [List.all_cons, q2, e2]; rfl⟩
    unfold inV at e1 ⊢
    rw [List.any_cons, List.any_cons, q1, e1]
end
section
variable {X : Cx} {xr : XR}
theorem two_now {K : PySem.W.Frag} {w : World} {g : PyData → PyData → Sto → R RV} {x y : V} {H : Hp} {Q : VK} (h : rTwo K w xr (fun v u st => (ofO (vw st v) st).bind fun a st => (ofO (vw st u) st).bind fun b st => g a b st) x y H Q) :
    ∃ W0 H0 W st E a b, Up W0 H0 W H ∧ SR K w W H st ∧ Rep K w (fun _ => True) H a x ∧ Rep K w (fun _ => True) H b y ∧ Good K w xr (g a b st) W0 H0 E Q := by
  obtain ⟨W0, H0, W, st, v, u, E, ⟨up, sr, A, B, r1, r2, f⟩, h⟩ := h
  obtain ⟨a, e1, h⟩ := ofO_good h
  obtain ⟨b, e2, h⟩ := ofO_good h
  exact ⟨W0, H0, W, st, E, a, b, up, sr, vw_rep sr r1 e1, vw_rep sr r2 e2, h⟩
def fCmp (op : CmpOp) (v u : RV) (st : Sto) : R RV := (ofO (vw st v) st).bind fun x st => (ofO (vw st u) st).bind fun y st => (ofO (cmpD op x y) st).bind fun c st => .ok (.dat (.bool c)) st
theorem scal_of {K : PySem.W.Frag} {w : World} {a b : PyData} {x y : V} {H : Hp} (ha : Rep K w (fun _ => True) H a x) (hb : Rep K w (fun _ => True) H b y) (e : eqok a b = true) : (scal x y = true ∧ decide (x = y) = PyData.eqv a b) ∨ (SeqAt.shaped a = true ∧ SeqAt.shaped b = true) := by
  unfold eqok at e
  split at e
  all_goals first
    | (cases ha; cases hb; refine .inl ⟨rfl, ?_⟩; first | (rw [PyData.eqv]; first | exact dec_int | exact dec_bl | exact dec_str) | (simp [PyData.eqv]; done))
    | (rw [Bool.and_eq_true] at e; exact .inr e)
def rCmpD (K : PySem.W.Frag) (w : World) (op : CmpOp) : R2 := fun x y H Q => ∃ a b c, Rep K w (fun _ => True) H a x ∧ Rep K w (fun _ => True) H b y ∧ cmpD op a b = some c ∧ Q (.bl c) H
theorem op_cmp (op : CmpOp) (hu : X.A.units + 64 < cLine) (n1 : op ≠ .In) (n2 : op ≠ .NotIn) : OpR X (compareOp op) (rCmpD X.K X.w op) := by
  intro pins s σ H x y v u Q I rx ry ⟨a, b, c, ra, rb, e, fin⟩
  cases op with
  | In => exact absurd rfl n1
  | NotIn => exact absurd rfl n2
  | Eq =>
    unfold cmpD eqD at e
    dsimp only at e
    split at e
    · rename_i hok
      cases e
      rcases scal_of ra rb hok with ⟨z1, z2⟩ | ⟨z1, z2⟩
      · exact op_eq pins s σ H x y v u Q I rx ry ⟨z1, by rw [z2]; exact fin⟩
      · exact op_eqD hu pins s σ H x y v u Q I rx ry ⟨a, b, rep_dp (SeqAt.canLay_of_shaped z1) ra, rep_dp (SeqAt.canLay_of_shaped z2) rb, z1, z2, fin⟩
    · cases e
  | NotEq =>
    unfold cmpD eqD at e
    dsimp only at e
    split at e
    · rename_i hok
      cases e
      rcases scal_of ra rb hok with ⟨z1, z2⟩ | ⟨z1, z2⟩
      · exact op_ne pins s σ H x y v u Q I rx ry ⟨z1, by rw [z2]; exact fin⟩
      · exact op_neD hu pins s σ H x y v u Q I rx ry ⟨a, b, rep_dp (SeqAt.canLay_of_shaped z1) ra, rep_dp (SeqAt.canLay_of_shaped z2) rb, z1, z2, fin⟩
    · cases e
  | Is =>
    unfold cmpD at e
    dsimp only at e
    split at e
    · cases e
      cases rb
      refine op_isN pins s σ H x .non v u Q I rx ry ⟨rfl, ?_⟩
      cases ra <;> simpa using fin
    · cases e
  | IsNot =>
    unfold cmpD at e
    dsimp only at e
    split at e
    · cases e
      cases rb
      refine op_notN pins s σ H x .non v u Q I rx ry ⟨rfl, ?_⟩
      cases ra <;> simpa using fin
    · cases e
  | Lt =>
    unfold cmpD at e
    dsimp only at e
    split at e
    · cases e; cases ra; cases rb
      exact op_lt pins s σ H _ _ v u Q I rx ry ⟨_, _, rfl, rfl, fin⟩
    · cases e; cases ra; cases rb
      exact op_lt_str pins s σ H _ _ v u Q I rx ry ⟨_, _, rfl, rfl, fin⟩
    · cases e
  | LtE =>
    unfold cmpD at e
    dsimp only at e
    split at e
    · cases e; cases ra; cases rb
      exact op_le pins s σ H _ _ v u Q I rx ry ⟨_, _, rfl, rfl, fin⟩
    · cases e; cases ra; cases rb
      exact op_le_str pins s σ H _ _ v u Q I rx ry ⟨_, _, rfl, rfl, fin⟩
    · cases e
  | Gt =>
    unfold cmpD at e
    dsimp only at e
    split at e
    · cases e; cases ra; cases rb
      exact op_gt pins s σ H _ _ v u Q I rx ry ⟨_, _, rfl, rfl, fin⟩
    · cases e; cases ra; cases rb
      exact op_gt_str pins s σ H _ _ v u Q I rx ry ⟨_, _, rfl, rfl, fin⟩
    · cases e
  | GtE =>
    unfold cmpD at e
    dsimp only at e
    split at e
    · cases e; cases ra; cases rb
      exact op_ge pins s σ H _ _ v u Q I rx ry ⟨_, _, rfl, rfl, fin⟩
    · cases e; cases ra; cases rb
      exact op_ge_str pins s σ H _ _ v u Q I rx ry ⟨_, _, rfl, rfl, fin⟩
    · cases e
end
end Z

set_option linter.all false
set_option maxRecDepth 100000
set_option maxHeartbeats 1000000
/-! Z7: names, constants, displays, truth, and, or, not, if. -/
namespace Z
open PySem PySem.Spec PyProof.Rows L2
theorem R.bind_assoc {α β γ : Type} (r : R α) (f : α → Sto → R β) (g : β → Sto → R γ) : (r.bind f).bind g = r.bind fun a st => (f a st).bind g := by
  cases r <;> rfl
theorem PE.imp {X : Cx} {e : Expr} {t t' : TE} (h : PE X e t) (k : ∀ σ H Q, t' σ H Q → t σ H Q) : PE X e t' := ⟨fun pins s σ H Q I q => h.run pins s σ H Q I (k σ H Q q)⟩
theorem PT.imp {X : Cx} {e : Expr} {t t' : TT} (h : PT X e t) (k : ∀ σ H Q, t' σ H Q → t σ H Q) : PT X e t' := ⟨fun pins s σ H Q I q => h.run pins s σ H Q I (k σ H Q q)⟩
theorem PW.imp {X : Cx} {e : Expr} {t t' : TT} (h : PW X e t) (k : ∀ σ H Q, t' σ H Q → t σ H Q) : PW X e t' := ⟨fun wh pins s σ H Q I q => h.run wh pins s σ H Q I (k σ H Q q)⟩
section
variable (K : PySem.W.Frag) (w : World) (xr : XR)
def GoodB (r : R Bool) (W : Wd) (H : Hp) (E : XW) (Q : Bool → Hp → Prop) : Prop := match r with
  | .ok b st' => ∀ W' H', Up W H W' H' → SR K w W' H' st' → Q b H'
  | .exc c xs st' => ∀ W' H' cls d, Up W H W' H' → SR K w W' H' st' → xr c xs cls d W' H' → E cls d H'
  | .err => False
def tT (E : L2.St → XW) (f : Ev → Sto → R Bool) : TT := fun σ H Q => ∃ W env st, FR K w W H env st σ ∧ GoodB K w xr (f env st) W H (E σ) Q
/-- one value is known -/
structure One (W0 : Wd) (H0 : Hp) (W : Wd) (H : Hp) (st : Sto) (x : RV) (v : V) : Prop where
  up : Up W0 H0 W H
  sr : SR K w W H st
  ex : ∃ A, RVr K w W H x v A ∧ Fresh W H0 A
def rOne (f : RV → Sto → R RV) (E : XW) : V → Hp → VK → Prop := fun v H Q => ∃ W0 H0 W st x, One K w W0 H0 W H st x v ∧ Good K w xr (f x st) W0 H0 E Q
end
section
variable {K : PySem.W.Frag} {w : World} {xr : XR} {E : L2.St → XW} {W W0 W1 : Wd} {H H0 H1 : Hp} {st : Sto} {σ : L2.St} {Q : VK}
theorem tEv.one {fa : Ev → Sto → R RV} {f : RV → Sto → R RV} (h : tEv K w xr E (fun env st => (fa env st).bind f) σ H Q) : tEv K w xr E fa σ H fun x H1 => rOne K w xr f (E σ) x H1 Q := by
  obtain ⟨W, env, st, F, h⟩ := h
  exact ⟨W, env, st, F, Good.then h Up.refl fun x st1 W1 H1 v A h1 u1 s1 r1 f1 => ⟨W, H, W1, st1, x, ⟨u1, s1, A, r1, f1⟩, h1⟩⟩
theorem GoodB.shift {r : R Bool} {E : XW} {Q : Bool → Hp → Prop} (h : GoodB K w xr r W H E Q) (u : Up W H W1 H1) : GoodB K w xr r W1 H1 E Q := by
  cases r with
  | ok x st' => exact fun W' H' u' s' => h W' H' (u.trans u') s'
  | exc c xs st' => exact fun W' H' cls d u' s' q => h W' H' cls d (u.trans u') s' q
  | err => exact h
theorem GoodB.then {r : R RV} {f : RV → Sto → R Bool} {E : XW} {Q : Bool → Hp → Prop} {Q' : VK} (h : GoodB K w xr (r.bind f) W H E Q) (u0 : Up W H W1 H1)
    (k : ∀ x st2 W2 H2 v A, GoodB K w xr (f x st2) W H E Q → Up W1 H1 W2 H2 → SR K w W2 H2 st2 → RVr K w W2 H2 x v A → Fresh W2 H1 A → Q' v H2) : Good K w xr r W1 H1 E Q' := by
  cases r with
  | ok x st' => exact fun W' H' v A u s rv fr => k x st' W' H' v A h u s rv fr
  | exc c xs st' => exact fun W' H' cls d u s q => h W' H' cls d (u0.trans u) s q
  | err => exact h
/-- a bool first, then a value -/
theorem Good.thenB {r : R Bool} {f : Bool → Sto → R RV} {E : XW} {Q : VK} {Q' : Bool → Hp → Prop} (h : Good K w xr (r.bind f) W H E Q) (u0 : Up W H W1 H1)
    (k : ∀ x st2 W2 H2, Good K w xr (f x st2) W H E Q → Up W1 H1 W2 H2 → SR K w W2 H2 st2 → Q' x H2) : GoodB K w xr r W1 H1 E Q' := by
  cases r with
  | ok x st' => exact fun W' H' u s => k x st' W' H' h u s
  | exc c xs st' => exact fun W' H' cls d u s q => h W' H' cls d (u0.trans u) s q
  | err => exact h
/-! ### truth -/
theorem rep_tru {d : PyData} {v : V} {k : Bool} (h : Rep K w (fun _ => True) H d v) (e : truth d = some k) : TruV K v H k := by
  cases h with
  | non => cases e; rfl
  | bl b => cases e; rfl
  | int i => cases e; rfl
  | str x =>
    have e' : (if x.length ≤ lim then some ((x.length : Int) != 0) else none) = some k := e
    split at e'
    · rename_i hl
      cases e'
      exact ⟨by rw [← lim_eq]; exact hl, rfl⟩
    · cases e'
  | tup h hs =>
    cases e
    refine .inr (.inl ⟨_, h, ?_⟩)
    cases hs <;> rfl
  | lst _ h hs =>
    cases e
    refine .inl ⟨_, SqL.of h, ?_⟩
    cases hs <;> rfl
  | dct => cases e
theorem truthOf_ok (sr : SR K w W H st) {x : RV} {v : V} {A : List Addr} (r : RVr K w W H x v A) {E : XW} {Q : Bool → Hp → Prop} (h : GoodB K w xr (truthOf x st) W0 H0 E Q) (up : Up W0 H0 W H) : ∃ k, TruV K v H k ∧ Q k H := by
  unfold truthOf at h
  cases e : (vw st x).bind truth with
  | none =>
    rw [e] at h
    exact h.elim
  | some k =>
    rw [e] at h
    obtain ⟨d, e1, e2⟩ := Option.bind_eq_some_iff.mp e
    exact ⟨k, rep_tru (vw_rep sr r e1) e2, h W H up sr⟩
/-- an expression as a test, by its value's truth -/
theorem pt_of {X : Cx} {e : Expr} {ev : Expr → Ev → Sto → R RV} (h : PE X e (tEv X.K w xr E (ev e))) (he : ∀ whole, isTrue e X.env whole = (do let v ← whole; standAt e.pos; holding [v] (truthy v))) : PT X e (tT X.K w xr E (evT ev e)) :=
  PT.imp (pt_truth h he) fun σ H Q ⟨W, env, st, F, q⟩ => ⟨W, env, st, F, GoodB.then q Up.refl fun x st2 W2 H2 v A q2 u2 s2 r2 f2 => truthOf_ok s2 r2 q2 u2⟩
/-! ### not -/
theorem pe_not' {X : Cx} {a : Expr} {pos : Pos} {ev : Expr → Ev → Sto → R RV} (h : PE X a (tEv X.K w xr E (ev a))) : PE X (.UnaryOp .Not a pos) (tEv X.K w xr E fun env st => (evT ev a env st).bind fun b st => .ok (.dat (.bool (!b))) st) := by
  refine PE.imp (pe_notT h) fun σ H Q ⟨W, env, st, F, q⟩ => ⟨W, env, st, F, ?_⟩
  have q' : Good X.K w xr (((ev a env st).bind truthOf).bind fun b st => .ok (.dat (.bool (!b))) st) W H (E σ) Q := q
  rw [R.bind_assoc] at q'
  refine Good.then q' Up.refl fun x st2 W2 H2 v A q2 u2 s2 r2 f2 => ?_
  obtain ⟨k, ek, q3⟩ := ofO_good q2
  obtain ⟨d, e1, e2⟩ := Option.bind_eq_some_iff.mp ek
  exact ⟨k, rep_tru (vw_rep s2 r2 e1) e2, q3.flat u2 s2 (.bl _)⟩
theorem pt_not' {X : Cx} {a : Expr} {pos : Pos} {ev : Expr → Ev → Sto → R RV} {f : Ev → Sto → R RV} (h : PT X a (tT X.K w xr E (evT ev a)))
    (hf : f = fun env st => (evT ev a env st).bind fun b st => .ok (.dat (.bool (!b))) st) : PT X (.UnaryOp .Not a pos) (tT X.K w xr E fun env st => (f env st).bind truthOf) := by
  subst hf
  refine PT.imp (pt_not h) fun σ H Q ⟨W, env, st, F, q⟩ => ⟨W, env, st, F, ?_⟩
  dsimp only at q
  cases e : evT ev a env st with
  | ok b st1 =>
    rw [e] at q
    exact fun W' H' u s => q W' H' u s
  | exc c xs st1 => rw [e] at q; exact q
  | err => rw [e] at q; exact q
/-! ### if -/
theorem pe_if' {X : Cx} {c a b : Expr} {pos : Pos} {ev : Expr → Ev → Sto → R RV} (hc : PT X c (tT X.K w xr E (evT ev c))) (ha : PE X a (tEv X.K w xr E (ev a))) (hb : PE X b (tEv X.K w xr E (ev b))) :
    PE X (.IfExp c a b pos) (tEv X.K w xr E fun env st => (evT ev c env st).bind fun t st => if t then ev a env st else ev b env st) := by
  refine PE.imp (pe_ifExp hc ha hb) fun σ H Q ⟨W, env, st, F, q⟩ => ⟨W, env, st, F, ?_⟩
  refine Good.thenB q Up.refl fun t st2 W2 H2 q2 u2 s2 => ?_
  cases t with
  | true => exact ⟨W2, env, st2, F.up u2 s2, Good.shift q2 u2⟩
  | false => exact ⟨W2, env, st2, F.up u2 s2, Good.shift q2 u2⟩
/-! ### and, or -/
theorem pe_and' {X : Cx} {pos : Pos} {ev : Expr → Ev → Sto → R RV} : ∀ {es : List Expr}, es ≠ [] → (∀ e ∈ es, PE X e (tEv X.K w xr E (ev e))) → PE X (.BoolOp .And es pos) (tEv X.K w xr E (evAnd ev es))
  | [], h, _ => absurd rfl h
  | [e], _, h => pe_one (h e List.mem_cons_self)
  | e :: b :: r, _, h => by
    refine PE.imp (pe_andT (h e List.mem_cons_self) (pe_and' (es := b :: r) (by simp) fun x hx => h x (List.mem_cons_of_mem _ hx))) fun σ H Q ⟨W, env, st, F, q⟩ => ⟨W, env, st, F, ?_⟩
    have q' : Good X.K w xr ((ev e env st).bind fun v st => (truthOf v st).bind fun k st => if k then evAnd ev (b :: r) env st else .ok v st) W H (E σ) Q := q
    refine Good.then q' Up.refl fun x st2 W2 H2 v A q2 u2 s2 r2 f2 => ?_
    obtain ⟨k, ek, q3⟩ := ofO_good q2
    obtain ⟨d, e1, e2⟩ := Option.bind_eq_some_iff.mp ek
    refine ⟨k, rep_tru (vw_rep s2 r2 e1) e2, ?_⟩
    cases k with
    | true => exact ⟨W2, env, st2, F.up u2 s2, Good.shift q3 u2⟩
    | false => exact q3 W2 H2 v A u2 s2 r2 f2
theorem pe_or' {X : Cx} {pos : Pos} {ev : Expr → Ev → Sto → R RV} : ∀ {es : List Expr}, es ≠ [] → (∀ e ∈ es, PE X e (tEv X.K w xr E (ev e))) → PE X (.BoolOp .Or es pos) (tEv X.K w xr E (evOr ev es))
  | [], h, _ => absurd rfl h
  | [e], _, h => pe_one (h e List.mem_cons_self)
  | e :: b :: r, _, h => by
    refine PE.imp (pe_orT (h e List.mem_cons_self) (pe_or' (es := b :: r) (by simp) fun x hx => h x (List.mem_cons_of_mem _ hx))) fun σ H Q ⟨W, env, st, F, q⟩ => ⟨W, env, st, F, ?_⟩
    have q' : Good X.K w xr ((ev e env st).bind fun v st => (truthOf v st).bind fun k st => if k then .ok v st else evOr ev (b :: r) env st) W H (E σ) Q := q
    refine Good.then q' Up.refl fun x st2 W2 H2 v A q2 u2 s2 r2 f2 => ?_
    obtain ⟨k, ek, q3⟩ := ofO_good q2
    obtain ⟨d, e1, e2⟩ := Option.bind_eq_some_iff.mp ek
    refine ⟨k, rep_tru (vw_rep s2 r2 e1) e2, ?_⟩
    cases k with
    | false => exact ⟨W2, env, st2, F.up u2 s2, Good.shift q3 u2⟩
    | true => exact q3 W2 H2 v A u2 s2 r2 f2
/-- a bool first, then a test -/
theorem GoodB.thenB {r : R Bool} {f : Bool → Sto → R Bool} {E : XW} {Q : Bool → Hp → Prop} {Q' : Bool → Hp → Prop} (h : GoodB K w xr (r.bind f) W H E Q) (u0 : Up W H W1 H1)
    (k : ∀ x st2 W2 H2, GoodB K w xr (f x st2) W H E Q → Up W1 H1 W2 H2 → SR K w W2 H2 st2 → Q' x H2) : GoodB K w xr r W1 H1 E Q' := by
  cases r with
  | ok x st' => exact fun W' H' u s => k x st' W' H' h u s
  | exc c xs st' => exact fun W' H' cls d u s q => h W' H' cls d (u0.trans u) s q
  | err => exact h
theorem truth_and {ev : Expr → Ev → Sto → R RV} {e b : Expr} {r : List Expr} {env : Ev} {st : Sto} :
    (evAnd ev (e :: b :: r) env st).bind truthOf = (evT ev e env st).bind fun k st => if k then (evAnd ev (b :: r) env st).bind truthOf else .ok false st := by
  show ((ev e env st).bind fun v st => (truthOf v st).bind fun k st => if k then evAnd ev (b :: r) env st else .ok v st).bind truthOf = ((ev e env st).bind truthOf).bind _
  rw [R.bind_assoc, R.bind_assoc]
  congr 1
  funext v st1
  rw [R.bind_assoc]
  unfold truthOf ofO
  cases q : (vw st1 v).bind truth with
  | none => rfl
  | some k =>
    cases k with
    | true => rfl
    | false => simp [R.bind, q]
theorem truth_or {ev : Expr → Ev → Sto → R RV} {e b : Expr} {r : List Expr} {env : Ev} {st : Sto} :
    (evOr ev (e :: b :: r) env st).bind truthOf = (evT ev e env st).bind fun k st => if k then .ok true st else (evOr ev (b :: r) env st).bind truthOf := by
  show ((ev e env st).bind fun v st => (truthOf v st).bind fun k st => if k then .ok v st else evOr ev (b :: r) env st).bind truthOf = ((ev e env st).bind truthOf).bind _
  rw [R.bind_assoc, R.bind_assoc]
  congr 1
  funext v st1
  rw [R.bind_assoc]
  unfold truthOf ofO
  cases q : (vw st1 v).bind truth with
  | none => rfl
  | some k =>
    cases k with
    | false => rfl
    | true => simp [R.bind, q]
theorem pw_and' {X : Cx} {pos : Pos} {ev : Expr → Ev → Sto → R RV} : ∀ {es : List Expr}, es ≠ [] → (∀ e ∈ es, PT X e (tT X.K w xr E (evT ev e))) → PW X (.BoolOp .And es pos) (tT X.K w xr E fun env st => (evAnd ev es env st).bind truthOf)
  | [], h, _ => absurd rfl h
  | [e], _, h => pw_and1 (h e List.mem_cons_self)
  | e :: b :: r, _, h => by
    refine PW.imp (pw_and (h e List.mem_cons_self) (pw_and' (es := b :: r) (by simp) fun x hx => h x (List.mem_cons_of_mem _ hx))) fun σ H Q ⟨W, env, st, F, q⟩ => ⟨W, env, st, F, ?_⟩
    have q := (show GoodB X.K w xr ((evAnd ev (e :: b :: r) env st).bind truthOf) W H (E σ) Q from q)
    rw [truth_and] at q
    refine GoodB.thenB q Up.refl fun k st2 W2 H2 q2 u2 s2 => ?_
    cases k with
    | true => exact ⟨W2, env, st2, F.up u2 s2, GoodB.shift q2 u2⟩
    | false => exact q2 W2 H2 u2 s2
theorem pw_or' {X : Cx} {pos : Pos} {ev : Expr → Ev → Sto → R RV} : ∀ {es : List Expr}, es ≠ [] → (∀ e ∈ es, PT X e (tT X.K w xr E (evT ev e))) → PW X (.BoolOp .Or es pos) (tT X.K w xr E fun env st => (evOr ev es env st).bind truthOf)
  | [], h, _ => absurd rfl h
  | [e], _, h => pw_or1 (h e List.mem_cons_self)
  | e :: b :: r, _, h => by
    refine PW.imp (pw_or (h e List.mem_cons_self) (pw_or' (es := b :: r) (by simp) fun x hx => h x (List.mem_cons_of_mem _ hx))) fun σ H Q ⟨W, env, st, F, q⟩ => ⟨W, env, st, F, ?_⟩
    have q := (show GoodB X.K w xr ((evOr ev (e :: b :: r) env st).bind truthOf) W H (E σ) Q from q)
    rw [truth_or] at q
    refine GoodB.thenB q Up.refl fun k st2 W2 H2 q2 u2 s2 => ?_
    cases k with
    | false => exact ⟨W2, env, st2, F.up u2 s2, GoodB.shift q2 u2⟩
    | true => exact q2 W2 H2 u2 s2
end
end Z

set_option linter.all false
set_option maxRecDepth 100000
set_option maxHeartbeats 1000000
/-! Z8: names, constants, argument lists, displays, calls of defs. -/
namespace Z
open PySem PySem.Spec PyProof.Rows L2
theorem seq_eq {a b : Str} (h : seq' a b = true) : a = b := by
  unfold seq' at h
  cases a
  cases b
  have e := eq_of_beq h
  dsimp only at e
  rw [Array.toList_inj.mp e]
theorem ixFrom_at {N : List Str} {x : Str} : ∀ {k i : Nat}, ixFrom N x k = some i → ∃ j, i = k + j ∧ N[j]? = some x := by
  induction N with
  | nil => intro k i h; cases h
  | cons n r ih =>
    intro k i h
    unfold ixFrom at h
    split at h
    · rename_i e
      cases h
      exact ⟨0, rfl, by rw [seq_eq e]; rfl⟩
    · obtain ⟨j, e1, e2⟩ := ih h
      exact ⟨j + 1, by omega, by simpa using e2⟩
theorem ix_at {N : List Str} {x : Str} {i : Nat} (h : ix N x = some i) : N[i]? = some x := by
  obtain ⟨j, e1, e2⟩ := ixFrom_at h
  rw [show i = j by omega]
  exact e2
section
variable {K : PySem.W.Frag} {w : World} {xr : XR} {E : L2.St → XW} {W W0 W1 : Wd} {H H0 H1 : Hp} {st : Sto} {env : Ev} {σ : L2.St} {Q : VK}
theorem bF_of (s : SR K w W H st) {d : PyData} {v : V} {A : List Addr} (n : ∀ a ∈ A, a ∉ W.β) (np : ∀ a ∈ A, ¬ W.P a) (r : Rep K w (W.fz A).F H d v) : Rep K w (bF W H) H d v :=
  r.sharp.keep ⟨fun _ _ h => h, fun _ _ _ h => h, fun a f => ⟨⟨f.1.elim (fun z q => s.bf a q z) fun z => n a z, fun z => f.1.elim (s.pf a z).1 fun y => np a y z, f.2⟩, rfl⟩⟩
theorem bor_of (s : SR K w W H st) {d : PyData} {v : V} {A : List Addr} (n : ∀ a ∈ A, a ∉ W.β) (np : ∀ a ∈ A, ¬ W.P a) (r : Rep K w (W.fz A).F H d v) : RVr K w W H (.bor d) v [] :=
  .bor (bF_of s n np r)
/-- what a slot holds, read -/
def readS (env : Ev) (i : Nat) (st : Sto) : R RV := match env[i]? with
  | some (some (.own vs)) => (ofO (deeps vs) st).bind fun ds st => .ok (.bor (.list ds)) st
  | some (some (.odi kvs)) => (ofO (deepKv kvs) st).bind fun ds st => .ok (.bor (.dict ds)) st
  | some (some v) => .ok v st
  | _ => .err
theorem read_ok {E : XW} (F : FR K w W H env st σ) {i : Nat} (h : Good K w xr (readS env i st) W H E Q) : ∃ v, σ[i]? = some (some v) ∧ Q v H := by
  obtain ⟨A, e⟩ := F.env
  unfold readS at h
  split at h
  · rename_i vs hx
    obtain ⟨v, h1, h2⟩ := e.at_ i _ hx
    obtain ⟨ds, e1, h⟩ := ofO_good h
    have r := h2.deep (d := .list ds) (A0 := A i) (by rw [deep, e1]; rfl) fun a m => m
    exact ⟨v, h1, h W H v [] Up.refl F.sr (bor_of F.sr (fun a m => (e.no i a m).2.1) (e.np i) r) Fresh.nil⟩
  · rename_i vs hx
    obtain ⟨v, h1, h2⟩ := e.at_ i _ hx
    obtain ⟨ds, e1, h⟩ := ofO_good h
    have r := h2.deep (d := .dict ds) (A0 := A i) (by rw [deep, e1]; rfl) fun a m => m
    exact ⟨v, h1, h W H v [] Up.refl F.sr (bor_of F.sr (fun a m => (e.no i a m).2.1) (e.np i) r) Fresh.nil⟩
  · rename_i x n1 n2 hx
    obtain ⟨v, h1, h2⟩ := e.at_ i _ hx
    refine ⟨v, h1, ?_⟩
    have fin : A i = [] → Q v H := fun z => h W H v [] Up.refl F.sr (z ▸ h2) Fresh.nil
    generalize A i = B at h2 fin
    cases h2 with
    | dat _ => exact fin rfl
    | ref _ => exact fin rfl
    | bor _ => exact fin rfl
    | tpl _ _ => exact fin rfl
    | scr _ => exact fin rfl
    | own _ _ => exact (n1 _ rfl).elim
    | odi _ _ _ => exact (n2 _ rfl).elim
  · exact h.elim
theorem pe_name {X : Cx} {N : List Str} {x : Str} {pos : Pos} {i : Nat} (hN : X.N = N) (hi : ix N x = some i) (hv : Vis X.env.scope x) (hd : (x == ("__debug__" : Str)) = false) (hcd : (x == ("__classdict__" : Str)) = false) :
    PE X (.Name x pos) (tEv X.K w xr E fun env st => readS env i st) :=
  PE.imp (pe_var (i := i) (by rw [hN]; exact ix_at hi) hv hd hcd) fun σ H Q ⟨W, env, st, F, h⟩ => read_ok F h
theorem pe_con {X : Cx} {e : Expr} {v : V} {d : PyData} (h : PE X e (tC v)) (r : ∀ F H, Rep X.K w F H d v) : PE X e (tEv X.K w xr E fun _ st => .ok (.dat d) st) :=
  PE.imp h fun σ H Q ⟨W, env, st, F, h⟩ => h.flat Up.refl F.sr (r _ _)

/-! ### one thing behind another -/
def GoodL (K : PySem.W.Frag) (w : World) (xr : XR) (r : R (List RV)) (W : Wd) (H : Hp) (E : XW) (Q : List V → Hp → Prop) : Prop := match r with
  | .ok xs st' => ∀ W' H' vs A, Up W H W' H' → SR K w W' H' st' → RVs K w W' H' xs vs A → Fresh W' H A → Q vs H'
  | .exc c xs st' => ∀ W' H' cls d, Up W H W' H' → SR K w W' H' st' → xr c xs cls d W' H' → E cls d H'
  | .err => False
def tL (K : PySem.W.Frag) (w : World) (xr : XR) (E : L2.St → XW) (f : Ev → Sto → R (List RV)) : TA := fun σ H Q => ∃ W env st, FR K w W H env st σ ∧ GoodL K w xr (f env st) W H (E σ) Q
theorem Good.thenL {r : R (List RV)} {f : List RV → Sto → R RV} {E : XW} {Q : VK} {Q' : List V → Hp → Prop} (h : Good K w xr (r.bind f) W H E Q) (u0 : Up W H W1 H1)
    (k : ∀ x st2 W2 H2 v A, Good K w xr (f x st2) W H E Q → Up W1 H1 W2 H2 → SR K w W2 H2 st2 → RVs K w W2 H2 x v A → Fresh W2 H1 A → Q' v H2) : GoodL K w xr r W1 H1 E Q' := by
  cases r with
  | ok x st' => exact fun W' H' v A u s rv fr => k x st' W' H' v A h u s rv fr
  | exc c xs st' => exact fun W' H' cls d u s q => h W' H' cls d (u0.trans u) s q
  | err => exact h
theorem GoodL.then {r : R RV} {f : RV → Sto → R (List RV)} {E : XW} {Q : List V → Hp → Prop} {Q' : VK} (h : GoodL K w xr (r.bind f) W H E Q) (u0 : Up W H W1 H1)
    (k : ∀ x st2 W2 H2 v A, GoodL K w xr (f x st2) W H E Q → Up W1 H1 W2 H2 → SR K w W2 H2 st2 → RVr K w W2 H2 x v A → Fresh W2 H1 A → Q' v H2) : Good K w xr r W1 H1 E Q' := by
  cases r with
  | ok x st' => exact fun W' H' v A u s rv fr => k x st' W' H' v A h u s rv fr
  | exc c xs st' => exact fun W' H' cls d u s q => h W' H' cls d (u0.trans u) s q
  | err => exact h
theorem GoodL.thenL {r : R (List RV)} {f : List RV → Sto → R (List RV)} {E : XW} {Q Q' : List V → Hp → Prop} (h : GoodL K w xr (r.bind f) W H E Q) (u0 : Up W H W1 H1)
    (k : ∀ x st2 W2 H2 v A, GoodL K w xr (f x st2) W H E Q → Up W1 H1 W2 H2 → SR K w W2 H2 st2 → RVs K w W2 H2 x v A → Fresh W2 H1 A → Q' v H2) : GoodL K w xr r W1 H1 E Q' := by
  cases r with
  | ok x st' => exact fun W' H' v A u s rv fr => k x st' W' H' v A h u s rv fr
  | exc c xs st' => exact fun W' H' cls d u s q => h W' H' cls d (u0.trans u) s q
  | err => exact h
theorem Fresh.both {A B : List Addr} {W2 : Wd} {H2 : Hp} (fA : Fresh W1 H A) (dA : ∀ a ∈ A, ∃ o, H1 a = some o) (u0 : Up W H W1 H1) (u : Up W1 H1 W2 H2) (fB : Fresh W2 H1 B) : Fresh W2 H (A ++ B) :=
  ⟨List.nodup_append.mpr ⟨fA.nd, fB.nd, fun a ha b hb e => by
    subst e
    obtain ⟨o, e⟩ := dA a ha
    rw [(fB.no a hb).2.2] at e
    cases e⟩, fun a m => (List.mem_append.mp m).elim ((fA.up u dA).no a) ((fB.from u0).no a), fun a m => (List.mem_append.mp m).elim ((fA.up u dA).np a) (fB.np a)⟩
/-- a star stands before no argument -/
def unstar : Expr → Bool
  | .Starred _ _ => false
  | _ => true
theorem star_cons {e : Expr} {es : List Expr} {envX : Env} (h : unstar e = true) : starEach (e :: es) envX = (false, eval e envX) :: starEach es envX := by
  cases e <;> first | rfl | (simp [unstar] at h)
theorem pa_evL {X : Cx} {ev : Expr → Ev → Sto → R RV} : ∀ {es : List Expr}, (∀ e ∈ es, PE X e (tEv X.K w xr E (ev e))) → (∀ e ∈ es, unstar e = true) → PA X es (tL X.K w xr E (evL ev es))
  | [], _, _ => ⟨fun pos pins s σ H Q I ⟨W, env, st, F, h⟩ => pa_nil.run pos pins s σ H Q I (h W H [] [] Up.refl F.sr .nil Fresh.nil)⟩
  | e :: r, h, u => by
    have p := pa_cons (h e List.mem_cons_self) (pa_evL (es := r) (fun x hx => h x (List.mem_cons_of_mem _ hx)) fun x hx => u x (List.mem_cons_of_mem _ hx)) (star_cons (u e List.mem_cons_self))
    refine ⟨fun pos pins s σ H Q I ⟨W, env, st, F, q⟩ => p.run pos pins s σ H Q I ⟨W, env, st, F, ?_⟩⟩
    have q' : GoodL X.K w xr ((ev e env st).bind fun v st => (evL ev r env st).bind fun vs st => .ok (v :: vs) st) W H (E σ) Q := q
    refine GoodL.then q' Up.refl fun x st2 W2 H2 v A q2 u2 s2 r2 f2 => ⟨W2, env, st2, F.up u2 s2, ?_⟩
    refine GoodL.thenL q2 u2 fun xs st3 W3 H3 vs B q3 u3 s3 r3 f3 => ?_
    exact q3 W3 H3 (v :: vs) (A ++ B) (u2.trans u3) s3 (.cons (r2.up u3 s2 fun a m => (f2.no a m).2.1) r3) (f2.both r2.dom u2 u3 f3)
theorem evL_len {ev : Expr → Ev → Sto → R RV} {env : Ev} : ∀ {es : List Expr} {st st' : Sto} {vs : List RV}, evL ev es env st = .ok vs st' → vs.length = es.length
  | [], st, st', vs, h => by cases h; rfl
  | e :: r, st, st', vs, h => by
    have h' : ((ev e env st).bind fun v st => (evL ev r env st).bind fun vs st => .ok (v :: vs) st) = .ok vs st' := h
    cases q : ev e env st with
    | ok v st1 =>
      rw [q] at h'
      have h2 : ((evL ev r env st1).bind fun vs st => .ok (v :: vs) st) = .ok vs st' := h'
      cases q2 : evL ev r env st1 with
      | ok us st2 =>
        rw [q2] at h2
        cases h2
        rw [List.length_cons, List.length_cons, evL_len q2]
      | exc c xs st2 => rw [q2] at h2; cases h2
      | err => rw [q2] at h2; cases h2
    | exc c xs st1 => rw [q] at h'; cases h'
    | err => rw [q] at h'; cases h'
theorem RVs.length {W : Wd} : ∀ {xs : List RV} {vs : List V} {A : List Addr}, RVs K w W H xs vs A → xs.length = vs.length
  | _, _, _, .nil => rfl
  | _, _, _, .cons _ h => by rw [List.length_cons, List.length_cons, RVs.length h]
/-- new ones become data that stays -/
theorem keepV_ok (s : SR K w W H st) {x y : RV} {v : V} {A A0 : List Addr} (h : RVr K w W H x v A) (e : keepV x = some y) (n : ∀ a ∈ A, a ∈ A0) : RVr K w (W.fz A0) H y v [] := by
  cases h with
  | own h1 hs =>
    rw [keepV] at e
    obtain ⟨ds, e1, rfl⟩ := Option.map_eq_some_iff.mp e
    exact .dat ((RVr.own h1 hs).deep (by rw [deep, e1]; rfl) n)
  | odi h1 ko hs =>
    rw [keepV] at e
    obtain ⟨ds, e1, rfl⟩ := Option.map_eq_some_iff.mp e
    exact .dat ((RVr.odi h1 ko hs).deep (by rw [deep, e1]; rfl) n)
  | dat h =>
    cases e
    exact .dat (h.keep (Keep.fz _))
  | ref h =>
    cases e
    exact .ref h
  | scr h =>
    cases e
    exact .scr h
  | tpl h hs =>
    cases e
    exact .tpl h (hs.keep (KeepR.fz _) fun _ _ => rfl)
  | bor h =>
    rename_i d
    have e' : some (part d) = some y := e
    cases e'
    unfold part
    split
    · rename_i hn
      exact .dat (h.keepN (fun _ _ q => q) hn)
    · exact .bor h
theorem keeps_ok (s : SR K w W H st) {A0 : List Addr} : ∀ {xs ys : List RV} {vs : List V} {A : List Addr}, RVs K w W H xs vs A → keeps xs = some ys → (∀ a ∈ A, a ∈ A0) → RVs K w (W.fz A0) H ys vs []
  | [], _, _, _, .nil, e, _ => by
    cases e
    exact .nil
  | x :: xs, _, _, _, .cons h hs, e, n => by
    rw [keeps] at e
    split at e
    · rename_i y ys e1 e2
      cases e
      exact .cons (A := []) (B := []) (keepV_ok s h e1 fun a m => n a (List.mem_append_left _ m)) (keeps_ok s hs e2 fun a m => n a (List.mem_append_right _ m))
    · cases e
theorem keeps_len : ∀ {xs ys : List RV}, keeps xs = some ys → ys.length = xs.length
  | [], _, e => by cases e; rfl
  | x :: xs, _, e => by
    rw [keeps] at e
    split at e
    · rename_i y ys e1 e2
      cases e
      rw [List.length_cons, List.length_cons, keeps_len e2]
    · cases e
/-- all that is new is known to stay -/
theorem fz_all {C : List Addr} (u : Up W0 H0 W H) (s : SR K w W H st) (f : Fresh W H0 C) (d : ∀ c ∈ C, ∃ o, H c = some o) : Up W0 H0 (W.fz C) H ∧ SR K w (W.fz C) H st := u.fzC s f d
theorem RVs.domL {xs : List RV} {vs : List V} {A : List Addr} (h : RVs K w W H xs vs A) : ∀ a ∈ A, ∃ o, H a = some o := h.dom
theorem evK_then {ev : Expr → Ev → Sto → R RV} {es : List Expr} {f : List RV → Sto → R RV} {E : XW} {Q' : List V → Hp → Prop} (h : Good K w xr ((evK ev es env st).bind f) W0 H0 E Q) (u0 : Up W0 H0 W H)
    (k : ∀ ys st2 W2 H2 vs, ys.length = es.length → Good K w xr (f ys st2) W0 H0 E Q → Up W0 H0 W2 H2 → SR K w W2 H2 st2 → RVs K w W2 H2 ys vs [] → Q' vs H2) : GoodL K w xr (evL ev es env st) W H E Q' := by
  have h' : Good K w xr (((evL ev es env st).bind fun vs st => ofO (keeps vs) st).bind f) W0 H0 E Q := h
  rw [R.bind_assoc] at h'
  cases e : evL ev es env st with
  | err => rw [e] at h'; exact h'
  | exc c xs st' =>
    rw [e] at h'
    exact fun W' H' cls d u s q => h' W' H' cls d (u0.trans u) s q
  | ok xs st' =>
    rw [e] at h'
    intro W' H' vs A u s r fr
    obtain ⟨ys, ek, h2⟩ := ofO_good (show Good K w xr ((ofO (keeps xs) st').bind f) W0 H0 E Q from h')
    obtain ⟨u1, s1⟩ := fz_all (u0.trans u) s (fr.from u0) r.dom
    exact k ys st' _ _ vs ((keeps_len ek).trans (evL_len e)) h2 u1 s1 (keeps_ok s r ek fun a m => m)
/-! ### tuples -/
theorem pe_tuple {X : Cx} {ev : Expr → Ev → Sto → R RV} {es : List Expr} {k : Nat} {pos : Pos} (h : ∀ e ∈ es, PE X e (tEv X.K w xr E (ev e))) (u : ∀ e ∈ es, unstar e = true) (hl : es.length ≤ 1000) :
    PE X (.Tuple es k pos) (tEv X.K w xr E fun env st => (evK ev es env st).bind fun vs st => .ok (match dats vs with | some ds => .dat (.tuple ds) | none => .tpl vs) st) := by
  refine PE.imp (pe_tup (pa_evL h u)) fun σ H Q ⟨W, env, st, F, q⟩ => ⟨W, env, st, F, ?_⟩
  refine evK_then q Up.refl fun ys st2 W2 H2 vs hy q2 u2 s2 r2 => ⟨by rw [← r2.length, hy, sizeLine_eq]; omega, fun p hp => ?_⟩
  have un := u2.new (o := .tup vs) hp
  have sn := s2.new (o := .tup vs) hp
  have rn : RVs X.K w W2 (upd H2 p (.tup vs)) ys vs [] := r2.keep ((Up.refl.new hp).keepR s2) fun _ m => absurd m (by simp)
  cases e : dats ys with
  | some ds =>
    rw [e] at q2
    exact q2 W2 _ _ [] un sn (.dat (.tup (SqT.of upd_same) (dats_reps rn e))) Fresh.nil
  | none =>
    rw [e] at q2
    exact q2 W2 _ _ [] un sn (.tpl (SqT.of upd_same) rn) Fresh.nil
end
end Z

set_option linter.all false
set_option maxRecDepth 100000
set_option maxHeartbeats 1000000
/-! Z9: list displays, calls of defs. -/
namespace Z
open PySem PySem.Spec PyProof.Rows L2
section
variable {K : PySem.W.Frag} {w : World} {xr : XR} {E : L2.St → XW} {W W0 W1 : Wd} {H H0 H1 : Hp} {st : Sto} {env : Ev} {σ : L2.St} {Q : VK}
theorem elem_ok {x y : RV} {v : V} {A : List Addr} (h : RVr K w W H x v A) (e : elem x = some y) : RVr K w W H y v A := by
  cases h with
  | dat h => cases e; exact .dat h
  | own h hs => cases e; exact .own h hs
  | odi h ko hs => cases e; exact .odi h ko hs
  | bor h =>
    rename_i d
    have e' : (if noL d then some (RV.dat d) else none) = some y := e
    split at e'
    · rename_i hn
      cases e'
      exact .dat (h.keepN (fun _ _ q => q) hn)
    · cases e'
  | ref h => cases e
  | tpl h hs => cases e
  | scr h => cases e
theorem elems_ok : ∀ {xs ys : List RV} {vs : List V} {A : List Addr}, RVs K w W H xs vs A → elems xs = some ys → RVs K w W H ys vs A
  | [], _, _, _, .nil, e => by cases e; exact .nil
  | x :: xs, _, _, _, .cons h hs, e => by
    rw [elems] at e
    split at e
    · rename_i y ys e1 e2
      cases e
      exact .cons (elem_ok h e1) (elems_ok hs e2)
    · cases e
/-- a new list of such things -/
theorem Good.newo {ws : List RV} {vs : List V} {A : List Addr} {p : Addr} {E : XW} (h : Good K w xr (.ok (.own ws) st) W0 H0 E Q) (u : Up W0 H0 W H) (s : SR K w W H st) (f : Fresh W H0 A) (r : RVs K w W H ws vs A) (hp : H p = none) : Q (.ref p) (upd H p (.lst vs)) := by
  have hA := r.dom
  have rn : RVs K w W (upd H p (.lst vs)) ws vs A := r.keep ((Up.refl.new hp).keepR s) fun a m => by
    obtain ⟨o, e⟩ := hA a m
    rw [upd_ne (ne_of_none e hp)]
  refine h W _ _ (p :: A) (u.new hp) (s.new hp) (.own upd_same rn) ⟨List.nodup_cons.mpr ⟨fun m => ?_, f.nd⟩, fun a m => ?_, fun a m => (List.mem_cons.mp m).elim (fun e => e ▸ s.npP hp) (f.np a)⟩
  · obtain ⟨o, e⟩ := hA p m
    rw [hp] at e
    cases e
  · rcases List.mem_cons.mp m with e | m
    · subst e
      refine ⟨fun z => ?_, fun z => ?_, u.gone hp⟩
      · obtain ⟨o, e⟩ := s.dom a z
        rw [hp] at e
        cases e
      · obtain ⟨o, e⟩ := s.βdom z
        rw [hp] at e
        cases e
    · exact f.no a m
theorem elems_len : ∀ {xs ys : List RV}, elems xs = some ys → ys.length = xs.length
  | [], _, e => by cases e; rfl
  | x :: xs, _, e => by
    rw [elems] at e
    split at e
    · rename_i y ys e1 e2
      cases e
      rw [List.length_cons, List.length_cons, elems_len e2]
    · cases e
theorem pe_list {X : Cx} {ev : Expr → Ev → Sto → R RV} {es : List Expr} {pos : Pos} (h : ∀ e ∈ es, PE X e (tEv X.K w xr E (ev e))) (u : ∀ e ∈ es, unstar e = true) (hl : es.length ≤ 1000) :
    PE X (.List es pos) (tEv X.K w xr E fun env st => (evL ev es env st).bind fun vs st => (ofO (elems vs) st).bind fun ws st => .ok (.own ws) st) := by
  refine PE.imp (pe_lst (pa_evL h u)) fun σ H Q ⟨W, env, st, F, q⟩ => ⟨W, env, st, F, ?_⟩
  cases e : evL ev es env st with
  | err => rw [show (fun env st => (evL ev es env st).bind fun vs st => (ofO (elems vs) st).bind fun ws st => R.ok (RV.own ws) st) env st = R.err by show (evL ev es env st).bind _ = _; rw [e]; rfl] at q; exact q.elim
  | exc c xs st' =>
    rw [show (fun env st => (evL ev es env st).bind fun vs st => (ofO (elems vs) st).bind fun ws st => R.ok (RV.own ws) st) env st = R.exc c xs st' by show (evL ev es env st).bind _ = _; rw [e]; rfl] at q
    exact q
  | ok xs st' =>
    have q' : Good X.K w xr ((evL ev es env st).bind fun vs st => (ofO (elems vs) st).bind fun ws st => .ok (.own ws) st) W H (E σ) Q := q
    rw [e] at q'
    intro W' H' vs A up sr r fr
    obtain ⟨ws, e2, q2⟩ := ofO_good (show Good X.K w xr ((ofO (elems xs) st').bind fun ws st => .ok (.own ws) st) W H (E σ) Q from q')
    have hlen := evL_len e
    exact ⟨by rw [← r.length, hlen, sizeLine_eq]; omega, fun p hp => q2.newo up sr fr (elems_ok r e2) hp⟩

/-! ### calls -/
/-- what may be handed to a def -/
def given : RV → Bool
  | .dat _ => true
  | .ref _ => true
  | .scr _ => true
  | .tpl vs => !anyBor vs
  | _ => false
/-- a def's promise, by the reader's words -/
def spC (K : PySem.W.Frag) (w : World) (xr : XR) (n : Nat) (r : List RV → Sto → R RV) : Sp := fun vs H Q E => vs.length = n ∧ ∃ W st xs, SR K w W H st ∧ RVs K w W H xs vs [] ∧ Good K w xr (r xs st) W H E Q
mutual
theorem Rep.all {d : PyData} {v : V} (h : Rep K w (fun _ => True) H d v) : Rep K w (fun a => ∃ o, H a = some o) H d v := by
  cases h with
  | non => exact .non
  | bl b => exact .bl b
  | int i => exact .int i
  | str x => exact .str x
  | tup h hs => exact .tup h (Reps.all hs)
  | lst _ h hs => exact .lst ⟨_, h⟩ h (Reps.all hs)
  | dct _ h ko hs => exact .dct ⟨_, h⟩ h ko (RepKv.all hs)
theorem Reps.all {d : List PyData} {v : List V} (h : Reps K w (fun _ => True) H d v) : Reps K w (fun a => ∃ o, H a = some o) H d v := by
  cases h with
  | nil => exact .nil
  | cons h hs => exact .cons (Rep.all h) (Reps.all hs)
theorem RepKv.all {d : List (PyData × PyData)} {v : List DictEntry} (h : RepKv K w (fun _ => True) H d v) : RepKv K w (fun a => ∃ o, H a = some o) H d v := by
  cases h with
  | nil => exact .nil
  | cons a b c d e f g => exact .cons a b (Rep.all c) d (Rep.all e) f (RepKv.all g)
end
mutual
/-- what is held by nothing else leans on nothing else -/
theorem RVr.clean {W' : Wd} : ∀ {x : RV} {v : V} {A : List Addr}, RVr K w W H x v A → Z.clean x = true → RVr K w W' H x v A
  | .dat _, _, _, .dat h, c => .dat (h.keepN (fun _ _ q => q) (by simpa [Z.clean] using c))
  | .own _, _, _, .own h hs, c => .own h (RVs.clean hs (by simpa [Z.clean] using c))
  | .odi _, _, _, .odi h ko hs, c => .odi h ko (RKv.clean hs (by simpa [Z.clean] using c))
  | .ref _, _, _, _, c => by simp [Z.clean] at c
  | .bor _, _, _, _, c => by simp [Z.clean] at c
  | .tpl _, _, _, _, c => by simp [Z.clean] at c
  | .scr _, _, _, _, c => by simp [Z.clean] at c
theorem RVs.clean {W' : Wd} : ∀ {x : List RV} {v : List V} {A : List Addr}, RVs K w W H x v A → Z.cleans x = true → RVs K w W' H x v A
  | _, _, _, .nil, _ => .nil
  | _, _, _, .cons h hs, c => by
    rw [Z.cleans, Bool.and_eq_true] at c
    exact .cons (RVr.clean h c.1) (RVs.clean hs c.2)
theorem RKv.clean {W' : Wd} : ∀ {x : List (PyData × RV)} {v : List DictEntry} {A : List Addr}, RKv K w W H x v A → Z.cleanKv x = true → RKv K w W' H x v A
  | _, _, _, .nil, _ => .nil
  | _, _, _, .cons a l b c d e f g, q => by
    rw [Z.cleanKv, Bool.and_eq_true] at q
    exact .cons a l b (c.keepN (fun _ _ q => q) l) d (RVr.clean e q.1) f (RKv.clean g q.2)
end
/-- as data alone, without a store -/
theorem look_call {r : R RV} {v0 : V} {E : XW} {u : Up W0 H0 W H} (s : SR K w W H st) (h : Good K w xr (match r with | .ok v _ => if clean v then .ok v st else .err | _ => .err) W0 H0 E Q) (u : Up W0 H0 W H) :
    Good K w xr r ⟨fun a => ∃ o, H a = some o, [], fun _ => True, fun _ => False⟩ H E Q := by
  cases r with
  | err => exact h
  | exc c xs st' => exact h.elim
  | ok v st' =>
    have h' : Good K w xr (if clean v then .ok v st else .err) W0 H0 E Q := h
    split at h'
    · rename_i hc
      intro W' H' u' A up sr rv fr
      have e1 : ∀ a o, H a = some o → H' a = some o := fun a o e => up.ext a o e (by simp)
      have upW : Up W H W H' := ⟨fun _ f => f, rfl, rfl, List.prefix_refl _, fun a o e _ => e1 a o e, fun a o e => ⟨o, e1 a o e⟩, fun _ f => .inl f, fun _ f => .inl f⟩
      have sW : SR K w W H' st := {
        len := s.len
        nd := s.nd
        bf := s.bf
        pf := fun a f => by
          obtain ⟨n, o, e⟩ := s.pf a f
          exact ⟨n, o, e1 a o e⟩
        dom := fun a f => by
          obtain ⟨o, e⟩ := s.dom a f
          exact ⟨o, e1 a o e⟩
        cells := fun i c a h1 h2 => by
          obtain ⟨o, e⟩ := s.βdom (List.mem_of_getElem? h2)
          exact (s.cells i c a h1 h2).keep (upW.keepR s) ((e1 a o e).trans e.symm)
        fr := fun a e => s.fr a (upW.gone e) }
      refine h' W H' u' A (u.trans upW) sW (rv.clean hc) ⟨fr.nd, fun a m => ?_, fun a m => s.npP (fr.no a m).2.2⟩
      obtain ⟨f1, f2, f3⟩ := fr.no a m
      refine ⟨fun z => ?_, fun z => ?_, u.gone f3⟩
      · obtain ⟨o, e⟩ := s.dom a z
        rw [f3] at e
        cases e
      · obtain ⟨o, e⟩ := s.βdom z
        rw [f3] at e
        cases e
    · exact h'.elim
theorem reps_rvs {W : Wd} : ∀ {ds : List PyData} {vs : List V}, Reps K w W.F H ds vs → RVs K w W H (ds.map RV.dat) vs []
  | _, _, .nil => .nil
  | _, _, .cons h hs => .cons (A := []) (B := []) (.dat h) (reps_rvs hs)
/-- a def's call, by what it promises -/
theorem call_ok {C : Str → List RV → Sto → R RV} {f : Str} {n : Nat} {xs : List RV} {vs : List V} {E : XW} (s : SR K w W H st) (r : RVs K w W H xs vs []) (hl : vs.length = n) (u : Up W0 H0 W H) (h : Good K w xr (callR C f xs st) W0 H0 E Q) :
    spC K w xr n (C f) vs H Q E := by
  unfold callR at h
  split at h
  · cases e : vws st xs with
    | none =>
      rw [e] at h
      exact h.elim
    | some ds =>
      rw [e] at h
      have rd := vws_reps s r e
      refine ⟨hl, ⟨fun a => ∃ o, H a = some o, [], fun _ => True, fun _ => False⟩, [], ds.map .dat, ⟨rfl, List.nodup_nil, fun a m => absurd m (by simp), fun a f => f.elim, fun a f => f, fun i c a h1 h2 => absurd h1 (by simp), fun _ _ => trivial⟩, reps_rvs (W := ⟨fun a => ∃ o, H a = some o, [], fun _ => True, fun _ => False⟩) rd.all, ?_⟩
      exact look_call (v0 := .non) (u := u) s h u
  · exact ⟨hl, W, st, xs, s, r, Good.shift h u⟩
end
end Z

set_option linter.all false
set_option maxRecDepth 100000
set_option maxHeartbeats 1000000
/-! Z10: dicts. -/
namespace Z
open PySem PySem.Spec PyProof.Rows L2
/-! ### keys -/
def plainIs (k : Leaf) (v : Value) : Bool := Leaf.isOf k v && (match v with | .bool _ => false | _ => true)
theorem plainIs_l {k : Leaf} {v : Value} (h : plainIs k v = true) : Leaf.isOf k v = true := by
  unfold plainIs at h
  rw [Bool.and_eq_true] at h
  exact h.1
def plainKind (prog : Program) (w : World) : KeyKind prog w Leaf where
  is := plainIs
  hash := fun k => k.key.hash w
  inj := fun v a b ha hb => (leafKind prog w).inj v a b (plainIs_l ha) (plainIs_l hb)
  byValue := fun k v h => (leafKind prog w).byValue k v (plainIs_l h)
  pyHash := fun hv h => (leafKind prog w).pyHash (plainIs_l hv) h
  eqBool := fun hu hv h => (leafKind prog w).eqBool (plainIs_l hu) (plainIs_l hv) h
  «strs» := fun k x t v h => by
    have e := (leafKind prog w).strs k x t v (plainIs_l h)
    show (Leaf.isOf k v && _) = v.isStr x
    rw [show Leaf.isOf k v = v.isStr x from e]
    cases v <;> simp [Value.isStr]
def leafOf : PyData → Leaf
  | .int i => .num i
  | .str x => .text x
  | _ => .none
theorem leafOf_key {k : PyData} {ke : NestedKey} (l : leafK k = true) (e : keyD k = some ke) : (leafOf k).key = ke := by
  cases k <;> simp [leafK] at l <;> (simp [keyD] at e; subst e; rfl)
mutual
theorem keyD_noL : ∀ {k : PyData} {ke : NestedKey}, keyD k = some ke → noL k = true
  | .none, _, _ => rfl
  | .bool _, _, _ => rfl
  | .int _, _, _ => rfl
  | .str _, _, _ => rfl
  | .tuple xs, _, e => by
    rw [keyD] at e
    obtain ⟨ks, e1, _⟩ := Option.map_eq_some_iff.mp e
    rw [noL]
    exact keyDs_noL e1
  | .list _, _, e => by simp [keyD] at e
  | .dict _, _, e => by simp [keyD] at e
theorem keyDs_noL : ∀ {ds : List PyData} {ks : List NestedKey}, keyDs ds = some ks → noLs ds = true
  | [], _, _ => rfl
  | d :: ds, _, e => by
    rw [keyDs] at e
    split at e
    · rename_i k ks e1 e2
      rw [noLs, keyD_noL e1, keyDs_noL e2]
      rfl
    · cases e
end
section
variable {X : Cx} {pins : List (Addr × Obj)} {σ : L2.St} {H : Hp} {s : Shared} {w : World} {F : Addr → Prop}
mutual
theorem nest_of (I : Inv X pins σ H s) : ∀ {d : PyData} {v : V} {u : Value} {ke : NestedKey}, Rep X.K w F H d v → RelV v u → keyD d = some ke → NestedIs s.heap ke u
  | .none, _, _, _, .non, r, e => by cases r; cases e; exact .none
  | .bool _, _, _, _, .bl b, r, e => by cases r; cases e; exact .bool rfl
  | .int _, _, _, _, .int i, r, e => by obtain ⟨t, rfl⟩ := r; cases e; exact .int _ _
  | .str _, _, _, _, .str i, r, e => by obtain ⟨t, rfl⟩ := r; cases e; exact .text _ _
  | .tuple ds, _, _, _, .tup h hs, r, e => by
    rw [keyD] at e
    obtain ⟨ks, e1, rfl⟩ := Option.map_eq_some_iff.mp e
    obtain rfl := r
    obtain ⟨its, rv, ⟨o, ho, hc, n, hd⟩, hz⟩ := I.tuple h
    exact .tup ho hc hd (by simpa using nests_of I hs rv e1)
  | .list _, _, _, _, _, _, e => by simp [keyD] at e
  | .dict _, _, _, _, _, _, e => by simp [keyD] at e
theorem nests_of (I : Inv X pins σ H s) : ∀ {ds : List PyData} {vs : List V} {us : List Value} {ks : List NestedKey}, Reps X.K w F H ds vs → Vals vs us → keyDs ds = some ks → NestedAll s.heap ks us
  | [], _, _, _, .nil, .nil, e => by cases e; exact .nil
  | d :: ds, _, _, _, .cons h hs, .cons r rs, e => by
    rw [keyDs] at e
    split at e
    · rename_i k ks e1 e2
      cases e
      exact .cons (nest_of I h r e1) (nests_of I hs rs e2)
    · cases e
end
theorem plain_of {K : PySem.W.Frag} {d : PyData} {v : V} {u : Value} (h : Rep K w F H d v) (r : RelV v u) (l : leafK d = true) : plainIs (leafOf d) u = true := by
  cases h with
  | non => cases r; rfl
  | int i => obtain ⟨t, rfl⟩ := r; simp [plainIs, leafOf, Leaf.isOf]
  | str x => obtain ⟨t, rfl⟩ := r; simp [plainIs, leafOf, Leaf.isOf, Value.isStrOf]
  | bl b => simp [leafK] at l
  | tup _ _ => simp [leafK] at l
  | lst _ _ _ => simp [leafK] at l
  | dct _ _ _ _ => simp [leafK] at l
theorem plain_back {K : PySem.W.Frag} {d : PyData} {u : Value} (l : leafK d = true) (h : plainIs (leafOf d) u = true) : ∃ v, Rep K w F H d v ∧ RelV v u := by
  cases d <;> simp [leafK] at l
  · cases u <;> simp [plainIs, leafOf, Leaf.isOf] at h
    exact ⟨.non, .non, rfl⟩
  · cases u <;> simp [plainIs, leafOf, Leaf.isOf] at h
    subst h
    exact ⟨.int _, .int _, _, rfl⟩
  · obtain ⟨t, rfl⟩ := Value.isStrOf_shape (show Value.isStrOf _ u = true from plainIs_l h)
    exact ⟨.str _, .str _, _, rfl⟩
end
/-! ### entries, by their keys and values -/
inductive VE (K : PySem.W.Frag) (w : World) (H : Hp) : List (PyData × Value) → List DictEntry → Prop where
  | nil : VE K w H [] []
  | cons {k : PyData} {ke : NestedKey} {kv : V} {u : Value} {kvs : List (PyData × Value)} {e : DictEntry} {es : List DictEntry} : keyD k = some ke → e.hash = ke.hash w → Rep K w (fun _ => True) H k kv → RelV kv e.key → e.val = u → VE K w H kvs es → VE K w H ((k, u) :: kvs) (e :: es)
section
variable {K : PySem.W.Frag} {w : World} {W W' : Wd} {H H' : Hp}
def kusOf {α : Type} : List (PyData × α) → List DictEntry → List (PyData × Value)
  | (k, _) :: kvs, e :: es => (k, e.val) :: kusOf kvs es
  | _, _ => []
theorem RKv.ve : ∀ {kvs : List (PyData × RV)} {es : List DictEntry} {A : List Addr}, RKv K w W H kvs es A → VE K w H (kusOf kvs es) es
  | _, _, _, .nil => .nil
  | _, _, _, .cons a l b c d e f g => .cons a b c.now d rfl (RKv.ve g)
theorem RKv.keys : ∀ {kvs : List (PyData × RV)} {es : List DictEntry} {A : List Addr}, RKv K w W H kvs es A → (kusOf kvs es).map (·.1) = kvs.map (·.1) ∧ es.length = kvs.length
  | _, _, _, .nil => ⟨rfl, rfl⟩
  | _, _, _, .cons a l b c d e f g => by
    obtain ⟨h1, h2⟩ := RKv.keys g
    exact ⟨by rw [kusOf, List.map_cons, List.map_cons, h1], by rw [List.length_cons, List.length_cons, h2]⟩
theorem VE.len : ∀ {kvs : List (PyData × Value)} {es : List DictEntry}, VE K w H kvs es → kvs.length = es.length
  | _, _, .nil => rfl
  | _, _, .cons a b c d e f => by rw [List.length_cons, List.length_cons, VE.len f]
theorem VE.keep (k : ∀ a vs, SqT K H a vs → SqT K H' a vs) : ∀ {kvs : List (PyData × Value)} {es : List DictEntry}, VE K w H kvs es → VE K w H' kvs es
  | _, _, .nil => .nil
  | _, _, .cons a b c d e f => .cons a b (c.keepN k (keyD_noL a)) d e (VE.keep k f)
/-- data's entries, as a thing's -/
theorem RepKv.rkv : ∀ {kvs : List (PyData × PyData)} {es : List DictEntry}, RepKv K w W.F H kvs es → RKv K w W H (kvs.map fun p => (p.1, .dat p.2)) es []
  | _, _, .nil => .nil
  | _, _, .cons a b c d e f g => .cons (A := []) (B := []) a (keyD_noL a) b c d (.dat e) f (RepKv.rkv g)
theorem getK_map {α β : Type} (f : α → β) (k : PyData) : ∀ kvs : List (PyData × α), getK (kvs.map fun p => (p.1, f p.2)) k = (getK kvs k).map f
  | [] => rfl
  | (a, x) :: r => by
    have ih := getK_map f k r
    unfold getK at ih ⊢
    rw [List.map_cons, List.find?_cons, List.find?_cons]
    dsimp only
    cases sameKey a k with
    | true => rfl
    | false => exact ih
theorem RKv.get {k : PyData} : ∀ {kvs : List (PyData × RV)} {es : List DictEntry} {A : List Addr}, RKv K w W H kvs es A →
    (getK kvs k = none ∧ getK (kusOf kvs es) k = none) ∨ ∃ x u v B, getK kvs k = some x ∧ getK (kusOf kvs es) k = some u ∧ RelV v u ∧ RVr K w W H x v B ∧ ∀ a ∈ B, a ∈ A
  | _, _, _, .nil => .inl ⟨rfl, rfl⟩
  | _, _, _, .cons (k := k0) a l b c d e f g => by
    have ih := RKv.get (k := k) g
    unfold getK at ih ⊢
    rw [kusOf, List.find?_cons, List.find?_cons]
    dsimp only
    cases sameKey k0 k with
    | true => exact .inr ⟨_, _, _, _, rfl, rfl, f, e, fun a m => List.mem_append_left _ m⟩
    | false =>
      rcases ih with ih | ⟨x, u, v, B, h1, h2, h3, h4, h5⟩
      · exact .inl ih
      · exact .inr ⟨x, u, v, B, h1, h2, h3, h4, fun a m => List.mem_append_right _ (h5 a m)⟩
end
end Z

set_option linter.all false
set_option maxRecDepth 100000
set_option maxHeartbeats 1000000
/-! Z11: a dict is read, written. -/
namespace Z
open PySem PySem.Spec PyProof.Rows L2
theorem sameKey_of {a b : PyData} {x y : NestedKey} (h : keyD a = some x) (h' : keyD b = some y) : sameKey a b = decide (x = y) := by
  unfold sameKey
  rw [h, h', NestedKey.decide_eq]
theorem keyG_key {k : PyData} (g : keyG k = true) : ∃ ke, keyD k = some ke ∧ ke.depth ≤ 8 := by
  unfold keyG at g
  split at g
  · cases g
  · split at g
    · rename_i ke e
      exact ⟨ke, e, of_decide_eq_true g⟩
    · cases g
theorem keyG_tup {k : PyData} (g : keyG k = true) (l : leafK k = false) : ∃ xs, k = .tuple xs := by
  cases k <;> simp [leafK] at l <;> first | exact ⟨_, rfl⟩ | (simp [keyG, keyD] at g)
theorem KeysOk.tail {k : PyData} {ks : List PyData} (h : KeysOk (k :: ks)) : KeysOk ks := by
  obtain ⟨h1, h2⟩ := h
  refine ⟨fun x m => h1 x (List.mem_cons_of_mem _ m), ?_⟩
  obtain ⟨ke, e, _⟩ := keyG_key (h1 k List.mem_cons_self)
  rw [List.filterMap_cons, e] at h2
  exact (List.nodup_cons.mp h2).2
section
variable {X : Cx} {pins : List (Addr × Obj)} {σ : L2.St} {H : Hp} {s : Shared} {a : Addr}
/-! ### keys that are tuples -/
def nxs : List (PyData × Value) → List DictEntry → List (NestedKey × Addr × Value)
  | (k, u) :: kvs, e :: es => ((keyD k).getD .none, (match e.key with | .ref b => b | _ => 0), u) :: nxs kvs es
  | _, _ => []
theorem VE.nxs (I : Inv X pins σ H s) : ∀ {kvs : List (PyData × Value)} {es : List DictEntry}, VE X.K X.w H kvs es → (∀ p ∈ kvs, leafK p.1 = false) → KeysOk (kvs.map (·.1)) →
    es = (nxs kvs es).map (entryOfKey (nestedKind X.prog X.w)) ∧ (∀ x ∈ Z.nxs kvs es, (nestedKind X.prog X.w).is s.heap x.1 x.2.1) ∧ (Z.nxs kvs es).map (·.1) = (kvs.map (·.1)).filterMap keyD
  | _, _, .nil, _, _ => ⟨rfl, fun _ m => absurd m (by simp [Z.nxs]), rfl⟩
  | _, _, .cons (k := k) (e := e) a b c d f g, lf, ko => by
    obtain ⟨h1, h2, h3⟩ := VE.nxs I g (fun p m => lf p (List.mem_cons_of_mem _ m)) ko.tail
    have gk := ko.each k List.mem_cons_self
    obtain ⟨ke', e1, e2⟩ := keyG_key gk
    obtain ⟨xs, rfl⟩ := keyG_tup gk (lf _ List.mem_cons_self)
    rw [a] at e1
    cases e1
    have ni := nest_of I c d a
    cases c with
    | @tup b' _ _ ht hr =>
      have ek : e.key = .ref b' := d
      refine ⟨?_, fun x m => ?_, ?_⟩
      · rw [Z.nxs, List.map_cons, ← h1]
        congr 1
        unfold entryOfKey
        rw [ek, a]
        cases e
        dsimp only at b ek f ⊢
        rw [b, ek, f]
        rfl
      · rw [Z.nxs] at m
        rcases List.mem_cons.mp m with m | m
        · subst m
          rw [ek, a]
          rw [ek] at ni
          exact ⟨ni, e2⟩
        · exact h2 x m
      · rw [Z.nxs, List.map_cons, List.map_cons, List.filterMap_cons, a, h3]
        rfl
theorem atKey_nxs {K : PySem.W.Frag} {w : World} {k : PyData} {ke : NestedKey} (hk : keyD k = some ke) : ∀ {kvs : List (PyData × Value)} {es : List DictEntry}, VE K w H kvs es → (atKey (nxs kvs es) ke).map (·.2) = getK kvs k
  | _, _, .nil => rfl
  | _, _, .cons (k := k0) (ke := ke0) a b c d f g => by
    have ih := atKey_nxs hk g
    unfold atKey getK at ih ⊢
    rw [nxs, List.find?_cons, List.find?_cons]
    dsimp only
    rw [sameKey_of a hk, a]
    dsimp only [Option.getD]
    cases decide (ke0 = ke) with
    | true => rfl
    | false => exact ih
/-! ### plain keys -/
def lxs (kvs : List (PyData × Value)) : List (Leaf × Value) := kvs.map fun p => (leafOf p.1, p.2)
theorem VE.lxs : ∀ {K : PySem.W.Frag} {P : Program} {w : World} {kvs : List (PyData × Value)} {es : List DictEntry}, VE K w H kvs es → (∀ p ∈ kvs, leafK p.1 = true) → KeysOk (kvs.map (·.1)) →
    Pairs (plainKind P w) es (Z.lxs kvs) ∧ (∀ e ∈ es, ∃ k, (plainKind P w).is k e.key = true ∧ e.hash = (plainKind P w).hash k) ∧ (Z.lxs kvs).map (fun p => p.1.key) = (kvs.map (·.1)).filterMap keyD
  | _, _, _, _, _, .nil, _, _ => ⟨.nil, fun _ m => absurd m (by simp), rfl⟩
  | K, P, w, _, _, .cons (k := k) (e := e) a b c d f g, lf, ko => by
    obtain ⟨h1, h2, h3⟩ := VE.lxs (P := P) g (fun p m => lf p (List.mem_cons_of_mem _ m)) ko.tail
    have l := lf _ List.mem_cons_self
    have pl := plain_of c d l
    refine ⟨.cons pl f h1, fun x m => ?_, ?_⟩
    · rcases List.mem_cons.mp m with m | m
      · subst m
        exact ⟨_, pl, by rw [b, ← leafOf_key l a]; rfl⟩
      · exact h2 x m
    · unfold Z.lxs at h3 ⊢
      rw [List.map_cons, List.map_cons, List.map_cons, List.filterMap_cons, a, h3]
      dsimp only
      rw [leafOf_key l a]
theorem valueAt_lxs {K : PySem.W.Frag} {w : World} {k : PyData} {ke : NestedKey} (hk : keyD k = some ke) (lk : leafK k = true) : ∀ {kvs : List (PyData × Value)} {es : List DictEntry}, VE K w H kvs es → (∀ p ∈ kvs, leafK p.1 = true) → valueAt (lxs kvs) (leafOf k) = getK kvs k
  | _, _, .nil, _ => rfl
  | _, _, .cons (k := k0) a b c d f g, lf => by
    have ih := valueAt_lxs hk lk g fun p m => lf p (List.mem_cons_of_mem _ m)
    have e1 : decide (leafOf k0 = leafOf k) = sameKey k0 k := by
      rw [sameKey_of a hk, ← leafOf_key (lf _ List.mem_cons_self) a, ← leafOf_key lk hk]
      by_cases q : leafOf k0 = leafOf k
      · rw [decide_eq_true q, decide_eq_true (congrArg Leaf.key q)]
      · rw [decide_eq_false q, decide_eq_false fun r => q (Leaf.key_inj r)]
    unfold valueAt getK lxs at ih ⊢
    rw [List.map_cons, List.find?_cons, List.find?_cons]
    dsimp only
    rw [e1]
    cases sameKey k0 k with
    | true => rfl
    | false => exact ih
theorem lxs_nodup {kvs : List (PyData × Value)} (h : (lxs kvs).map (fun p => p.1.key) = (kvs.map (·.1)).filterMap keyD) (ko : KeysOk (kvs.map (·.1))) : ((lxs kvs).map (·.1)).Nodup := by
  have : ((lxs kvs).map (fun p => p.1.key)).Nodup := by rw [h]; exact ko.nd
  rw [show ((lxs kvs).map fun p => p.1.key) = ((lxs kvs).map (·.1)).map Leaf.key by rw [List.map_map]; rfl] at this
  exact List.Pairwise.of_map Leaf.key (fun a b q e => q (congrArg Leaf.key e)) this
/-! ### reading -/
/-- a dict, as it stands in the heap -/
structure DAt (X : Cx) (H : Hp) (a : Addr) (kvs : List (PyData × Value)) (es : List DictEntry) : Prop where
  at_ : H a = some (rawO a es)
  ko : KeysOk (kvs.map (·.1))
  ve : VE X.K X.w H kvs es
theorem DAt.raw {kvs : List (PyData × Value)} {es : List DictEntry} (I : Inv X pins σ H s) (d : DAt X H a kvs es) : (∃ o arr ep, s.heap.get? a = some o ∧ o.ExactDict ∧ o.data = .dict arr ep ∧ arr.toList = es) ∧ (a == sysModules) = false ∧ es.length ≤ sizeLine := (I.hok a _ d.at_).1
theorem DAt.heap {kvs : List (PyData × Value)} {es : List DictEntry} (I : Inv X pins σ H s) (d : DAt X H a kvs es) (t : ∀ p ∈ kvs, leafK p.1 = false) : s.heap.DictOfH (nestedKind X.prog X.w) a (nxs kvs es) := by
  obtain ⟨⟨o, arr, ep, h1, h2, h3, h4⟩, _⟩ := d.raw I
  obtain ⟨e1, e2, e3⟩ := d.ve.nxs I t d.ko
  exact ⟨o, arr, ep, h1, h2, h3, h4.trans e1, e2, by rw [e3]; exact d.ko.nd⟩
theorem DAt.plain {kvs : List (PyData × Value)} {es : List DictEntry} (I : Inv X pins σ H s) (d : DAt X H a kvs es) (t : ∀ p ∈ kvs, leafK p.1 = true) : s.heap.DictOf (plainKind X.prog X.w) a (lxs kvs) := by
  obtain ⟨⟨o, arr, ep, h1, h2, h3, h4⟩, _⟩ := d.raw I
  obtain ⟨e1, e2, e3⟩ := d.ve.lxs (P := X.prog) t d.ko
  subst h4
  exact ⟨o, arr, ep, h1, h2, h3, fun e m => e2 e (by simpa using m), e1, lxs_nodup e3 d.ko⟩
theorem keyOk_all {α : Type} {k : PyData} {kvs : List (PyData × α)} (h : keyOk k kvs = true) : keyG k = true ∧ ∀ p ∈ kvs, leafK p.1 = leafK k := by
  unfold keyOk at h
  rw [Bool.and_eq_true, List.all_eq_true] at h
  exact ⟨h.1, fun p m => by simpa using h.2 p m⟩
theorem keyOk_map {α β : Type} {k : PyData} {kvs : List (PyData × α)} {kus : List (PyData × β)} (h : keyOk k kvs = true) (e : kus.map (·.1) = kvs.map (·.1)) : keyOk k kus = true := by
  obtain ⟨h1, h2⟩ := keyOk_all h
  unfold keyOk
  rw [h1, Bool.true_and, List.all_eq_true]
  intro p m
  have hm : p.1 ∈ kus.map (·.1) := List.mem_map_of_mem m
  rw [e] at hm
  obtain ⟨q, hq, eq⟩ := List.mem_map.mp hm
  rw [← eq, h2 q hq]
  simp
variable {A : Around} {E : Value → Shared → Prop} {kvs : List (PyData × Value)} {es : List DictEntry} {k : PyData} {kv : V} {u : Value}
theorem d_in' {Q : Value → Shared → Prop} (hu : A.units + 9 < cLine) (I : Inv X pins σ H s) (d : DAt X H a kvs es) (hk : keyOk k kvs = true) {F : Addr → Prop} (rk : Rep X.K X.w F H k kv) (r : RelV kv u)
    (h : ∀ s', Inv X pins σ H s' → Q (.bool (getK kvs k).isSome) s') : wpAny (model X.prog X.w) A (compareOp .In u (.ref a)) Q E s := by
  obtain ⟨g, t⟩ := keyOk_all hk
  obtain ⟨ke, e1, e2⟩ := keyG_key g
  obtain ⟨_, hS, _⟩ := d.raw I
  cases l : leafK k with
  | false =>
    rw [l] at t
    obtain ⟨xs, rfl⟩ := keyG_tup g l
    have ni := nest_of I rk r e1
    cases rk
    obtain rfl := r
    refine wpAny_in_heap (knd := nestedKind X.prog X.w) (k := ke) (by show A.in1.units + 8 < cLine; simp only [Around.in1_units]; omega) ⟨ni, e2⟩ hS (d.heap I t) ?_
    have q := atKey_nxs e1 d.ve
    have q2 : (atKey (nxs kvs es) ke).isSome = (getK kvs (.tuple xs)).isSome := by rw [← q, Option.isSome_map]
    rw [q2]
    exact h _ (I.tok _)
  | true =>
    rw [l] at t
    refine wpAny_in_of (knd := plainKind X.prog X.w) (k := leafOf k) (plain_of rk r l) hS (d.plain I t).mapOf ?_
    rw [valueAt_lxs e1 l d.ve t]
    exact h _ (I.tok _)
theorem d_notIn' {Q : Value → Shared → Prop} (hu : A.units + 9 < cLine) (I : Inv X pins σ H s) (d : DAt X H a kvs es) (hk : keyOk k kvs = true) {F : Addr → Prop} (rk : Rep X.K X.w F H k kv) (r : RelV kv u)
    (h : ∀ s', Inv X pins σ H s' → Q (.bool (!(getK kvs k).isSome)) s') : wpAny (model X.prog X.w) A (compareOp .NotIn u (.ref a)) Q E s := by
  obtain ⟨g, t⟩ := keyOk_all hk
  obtain ⟨ke, e1, e2⟩ := keyG_key g
  obtain ⟨_, hS, _⟩ := d.raw I
  cases l : leafK k with
  | false =>
    rw [l] at t
    obtain ⟨xs, rfl⟩ := keyG_tup g l
    have ni := nest_of I rk r e1
    cases rk
    obtain rfl := r
    refine wpAny_notIn_heap (knd := nestedKind X.prog X.w) (k := ke) (by show A.in1.units + 8 < cLine; simp only [Around.in1_units]; omega) ⟨ni, e2⟩ hS (d.heap I t) ?_
    have q := atKey_nxs e1 d.ve
    have q2 : (atKey (nxs kvs es) ke).isSome = (getK kvs (.tuple xs)).isSome := by rw [← q, Option.isSome_map]
    rw [q2]
    exact h _ (I.tok _)
  | true =>
    rw [l] at t
    refine wpAny_notIn_of (knd := plainKind X.prog X.w) (k := leafOf k) (plain_of rk r l) hS (d.plain I t).mapOf ?_
    rw [valueAt_lxs e1 l d.ve t]
    exact h _ (I.tok _)
theorem d_get' {Q : Value → Shared → Prop} {y : Value} (hu : A.units + 9 < cLine) (I : Inv X pins σ H s) (d : DAt X H a kvs es) (hk : keyOk k kvs = true) {F : Addr → Prop} (rk : Rep X.K X.w F H k kv) (r : RelV kv u) (hy : getK kvs k = some y)
    (h : ∀ s', Inv X pins σ H s' → Q y s') : wpAny (model X.prog X.w) A (getItem (.ref a) u) Q E s := by
  obtain ⟨g, t⟩ := keyOk_all hk
  obtain ⟨ke, e1, e2⟩ := keyG_key g
  obtain ⟨_, hS, _⟩ := d.raw I
  cases l : leafK k with
  | false =>
    rw [l] at t
    obtain ⟨xs, rfl⟩ := keyG_tup g l
    have ni := nest_of I rk r e1
    cases rk
    obtain rfl := r
    have q := atKey_nxs e1 d.ve
    rw [hy] at q
    obtain ⟨p, hp, rfl⟩ := Option.map_eq_some_iff.mp q
    exact wpAny_getItem_heap (knd := nestedKind X.prog X.w) (k := ke) (by show A.in1.units + 8 < cLine; simp only [Around.in1_units]; omega) ⟨ni, e2⟩ (d.heap I t) hp (h _ (I.tok _))
  | true =>
    rw [l] at t
    exact wpAny_getItem_of (knd := plainKind X.prog X.w) (k := leafOf k) (plain_of rk r l) (d.plain I t).mapOf ((valueAt_lxs e1 l d.ve t).trans hy) (h _ (I.tok _))
end
end Z

set_option linter.all false
set_option maxRecDepth 100000
set_option maxHeartbeats 1000000
/-! Z12: a dict is written. -/
namespace Z
open PySem PySem.Spec PyProof.Rows L2
section
variable {α β : Type}
theorem getK_any (k : PyData) : ∀ kvs : List (PyData × α), (getK kvs k).isSome = kvs.any fun p => sameKey p.1 k
  | [] => rfl
  | (a, x) :: r => by
    have ih := getK_any k r
    unfold getK at ih ⊢
    rw [List.find?_cons, List.any_cons]
    dsimp only
    cases sameKey a k with
    | true => rfl
    | false => rw [ih, Bool.false_or]
theorem putK_len (kvs : List (PyData × α)) (k : PyData) (v : α) : (putK kvs k v).length ≤ kvs.length + 1 := by
  unfold putK
  split
  · simp
  · simp
theorem putK_keys (kvs : List (PyData × α)) (k : PyData) (v : α) : (putK kvs k v).map (·.1) = if kvs.any (fun p => sameKey p.1 k) then kvs.map (·.1) else kvs.map (·.1) ++ [k] := by
  unfold putK
  split
  · rw [List.map_map]
    refine List.map_congr_left fun p _ => ?_
    dsimp only [Function.comp]
    split <;> rfl
  · rw [List.map_append]
    rfl
theorem KeysOk.put {kvs : List (PyData × α)} {k : PyData} {v : α} (ko : KeysOk (kvs.map (·.1))) (g : keyG k = true) : KeysOk ((putK kvs k v).map (·.1)) := by
  rw [putK_keys]
  split
  · exact ko
  · rename_i hn
    obtain ⟨ke, e, _⟩ := keyG_key g
    refine ⟨fun x m => ?_, ?_⟩
    · rcases List.mem_append.mp m with m | m
      · exact ko.each x m
      · obtain rfl : x = k := by simpa using m
        exact g
    · rw [List.filterMap_append, List.filterMap_cons, e]
      refine List.nodup_append.mpr ⟨ko.nd, by simp, fun a ha b hb q => ?_⟩
      subst q
      obtain rfl : a = ke := by simpa using hb
      obtain ⟨y, hy, ey⟩ := List.mem_filterMap.mp ha
      obtain ⟨p, hp, rfl⟩ := List.mem_map.mp hy
      refine hn ?_
      rw [List.any_eq_true]
      exact ⟨p, hp, by rw [sameKey_of ey e]; simp⟩
end
section
variable {K : PySem.W.Frag} {w : World} {P : Program} {H : Hp} {kvs : List (PyData × Value)} {es : List DictEntry} {k : PyData} {ke : NestedKey} {kv : V} {v : Value}
/-- the entries of a dict whose keys are tuples, a key put -/
theorem VE.map_put (hk : keyD k = some ke) : ∀ {kvs : List (PyData × Value)} {es : List DictEntry}, VE K w H kvs es → es = (Z.nxs kvs es).map (entryOfKey (nestedKind P w)) →
    VE K w H (kvs.map fun p => if sameKey p.1 k then (p.1, v) else p) (((Z.nxs kvs es).map (putAt ke v)).map (entryOfKey (nestedKind P w)))
  | _, _, .nil, _ => .nil
  | _, _, .cons (k := k0) (ke := ke0) (u := u0) (kvs := kvs) (e := e) (es := es) a b c d f g, h => by
    rw [Z.nxs, List.map_cons] at h
    injection h with h1 h2
    have ih := VE.map_put hk g h2
    rw [Z.nxs, List.map_cons, List.map_cons, List.map_cons]
    rw [sameKey_of a hk]
    have h1' := h1
    generalize hx : ((keyD k0).getD NestedKey.none, (match e.key with | .ref b => b | _ => 0), u0) = x at h1 h1' ⊢
    have x1 : x.1 = ke0 := by rw [← hx, a]; rfl
    have x2 : x.2.2 = u0 := by rw [← hx]
    by_cases q : ke0 = ke
    · rw [if_pos (by simpa using q)]
      unfold putAt
      rw [if_pos (by rw [x1]; exact q)]
      refine .cons a ?_ c ?_ rfl ih
      · rw [← b, h1]
        rfl
      · rw [h1] at d
        exact d
    · rw [if_neg (by simpa using q)]
      unfold putAt
      rw [if_neg (by rw [x1]; exact q), ← h1]
      exact .cons a b c d f ih
theorem VE.app (hk : keyD k = some ke) (c : Rep K w (fun _ => True) H k kv) {e : DictEntry} (b : e.hash = ke.hash w) (d : RelV kv e.key) (f : e.val = v) : ∀ {kvs : List (PyData × Value)} {es : List DictEntry}, VE K w H kvs es → VE K w H (kvs ++ [(k, v)]) (es ++ [e])
  | _, _, .nil => .cons hk b c d f .nil
  | _, _, .cons a b' c' d' f' g => .cons a b' c' d' f' (VE.app hk c b d f g)
theorem VE.of_pairs : ∀ {kvs : List (PyData × Value)} {es : List DictEntry}, Pairs (plainKind P w) es (Z.lxs kvs) → (∀ e ∈ es, ∃ k, (plainKind P w).is k e.key = true ∧ e.hash = (plainKind P w).hash k) → (∀ p ∈ kvs, leafK p.1 = true) → (∀ p ∈ kvs, ∃ ke, keyD p.1 = some ke) → VE K w H kvs es
  | [], _, h, _, _, _ => by
    cases h
    exact .nil
  | (k, u) :: kvs, _, h, hh, l, g => by
    cases h with
    | @cons e _ es _ h1 h2 h3 =>
      obtain ⟨ke, ek⟩ := g _ List.mem_cons_self
      obtain ⟨k', i1, i2⟩ := hh e List.mem_cons_self
      have ll := l _ List.mem_cons_self
      have e1 := (plainKind P w).inj e.key k' (leafOf k) i1 h1
      subst e1
      obtain ⟨v, r1, r2⟩ := plain_back (K := K) (w := w) (F := fun _ => True) (H := H) ll h1
      exact .cons ek (i2.trans (by rw [← leafOf_key ll ek]; rfl)) r1 r2 h2 (VE.of_pairs h3 (fun e m => hh e (List.mem_cons_of_mem _ m)) (fun p m => l p (List.mem_cons_of_mem _ m)) fun p m => g p (List.mem_cons_of_mem _ m))
theorem leaf_same {a b : PyData} {x y : NestedKey} (la : leafK a = true) (lb : leafK b = true) (ha : keyD a = some x) (hb : keyD b = some y) : decide (leafOf a = leafOf b) = sameKey a b := by
  rw [sameKey_of ha hb, ← leafOf_key la ha, ← leafOf_key lb hb]
  by_cases q : leafOf a = leafOf b
  · rw [decide_eq_true q, decide_eq_true (congrArg Leaf.key q)]
  · rw [decide_eq_false q, decide_eq_false fun r => q (Leaf.key_inj r)]
theorem stored_lxs (hk : keyD k = some ke) (lk : leafK k = true) (l : ∀ p ∈ kvs, leafK p.1 = true) (g : ∀ p ∈ kvs, ∃ ke, keyD p.1 = some ke) : stored (Z.lxs kvs) (leafOf k) v = lxs (putK kvs k v) := by
  have same : ∀ p ∈ kvs, decide (leafOf p.1 = leafOf k) = sameKey p.1 k := fun p m => by
    obtain ⟨kp, ep⟩ := g p m
    exact leaf_same (l p m) lk ep hk
  have e1 : (Z.lxs kvs).any (fun p => decide (p.1 = leafOf k)) = kvs.any fun p => sameKey p.1 k := by
    unfold lxs
    rw [List.any_map]
    refine Bool.eq_iff_iff.mpr ?_
    rw [List.any_eq_true, List.any_eq_true]
    exact ⟨fun ⟨p, m, h⟩ => ⟨p, m, by rw [← same p m]; exact h⟩, fun ⟨p, m, h⟩ => ⟨p, m, by rw [← same p m] at h; exact h⟩⟩
  unfold stored putK
  rw [e1]
  split
  · unfold lxs
    rw [List.map_map, List.map_map]
    refine List.map_congr_left fun p m => ?_
    dsimp only [Function.comp]
    have sp := same p m
    by_cases q : leafOf p.1 = leafOf k
    · rw [if_pos q, if_pos (by rw [← sp]; simpa using q)]
    · rw [if_neg q, if_neg (by rw [← sp]; simpa using q)]
  · unfold lxs
    rw [List.map_append]
    rfl
end
section
variable {X : Cx} {pins : List (Addr × Obj)} {σ : L2.St} {H : Hp} {s : Shared} {a : Addr}
variable {A : Around} {E : Value → Shared → Prop} {kvs : List (PyData × Value)} {es : List DictEntry} {k : PyData} {kv : V} {u : Value}
theorem raw_new {P : Program} {w : World} {H' : Hp} {h' : Heap} {o : Obj} {arr : Array DictEntry} {ep : Nat} (h1 : h'.get? a = some o) (h2 : o.ExactDict) (h3 : o.data = .dict arr ep) (hS : (a == sysModules) = false) (hl : arr.toList.length ≤ sizeLine) : ObjOk P w H' h' a (rawO a arr.toList) :=
  ⟨⟨⟨o, arr, ep, h1, h2, h3, rfl⟩, hS, hl⟩, ⟨o, h1⟩, fun g1 g2 ⟨⟨o, arr', ep', q1, q2, q3, q4⟩, q5, q6⟩ k => ⟨⟨o, arr', ep', k o q1, q2, q3, q4⟩, q5, q6⟩⟩
theorem d_set' {Q : Unit → Shared → Prop} {y : Value} (hu : A.units + 9 < cLine) (I : Inv X pins σ H s) (d : DAt X H a kvs es) (hk : keyOk k kvs = true) (hz : kvs.length < sizeLine) {F : Addr → Prop} (rk : Rep X.K X.w F H k kv) (r : RelV kv u)
    (h : ∀ s' es', Inv X pins σ (upd H a (rawO a es')) s' → VE X.K X.w H (putK kvs k y) es' → KeysOk ((putK kvs k y).map (·.1)) → Q () s') : wpAny (model X.prog X.w) A (setItem (.ref a) u y) Q E s := by
  obtain ⟨g, t⟩ := keyOk_all hk
  obtain ⟨ke, e1, e2⟩ := keyG_key g
  obtain ⟨_, hS, _⟩ := d.raw I
  have hlen := d.ve.len
  have ko' := d.ko.put (v := y) g
  have gs : ∀ p ∈ kvs, ∃ ke, keyD p.1 = some ke := fun p m => by
    obtain ⟨ke, q, _⟩ := keyG_key (d.ko.each p.1 (List.mem_map_of_mem m))
    exact ⟨ke, q⟩
  have mu : Mut (H a) := by rw [d.at_]; exact trivial
  cases l : leafK k with
  | false =>
    rw [l] at t
    obtain ⟨xs, rfl⟩ := keyG_tup g l
    have ni := nest_of I rk r e1
    have rk' := rk.now
    cases rk
    rename_i b vs' h1 h2
    obtain rfl := r
    obtain ⟨n1, n2, n3⟩ := d.ve.nxs I t d.ko
    have nlen : (Z.nxs kvs es).length = kvs.length := by
      have := congrArg List.length n1
      rw [List.length_map] at this
      omega
    refine wpAny_setItem_heap (knd := nestedKind X.prog X.w) (k := ke) (by show A.in1.units + 8 < cLine; simp only [Around.in1_units]; omega) ⟨ni, e2⟩ (d.heap I t) (fun h' hm hs => ?_) (by rw [nlen]; omega)
    obtain ⟨o, arr, ep, q1, q2, q3, q4, q5, q6⟩ := hm
    have ve : VE X.K X.w H (putK kvs (.tuple xs) y) arr.toList := by
      rw [q4]
      unfold storedH putK
      have q := atKey_nxs e1 d.ve
      have q' : (atKey (Z.nxs kvs es) ke).isSome = kvs.any fun p => sameKey p.1 (.tuple xs) := by rw [← getK_any, ← q, Option.isSome_map]
      rw [q']
      split
      · exact d.ve.map_put e1 n1
      · rw [List.map_append, ← n1]
        exact d.ve.app (e := entryOfKey (nestedKind X.prog X.w) (ke, b, y)) e1 rk' rfl rfl rfl
    refine h _ arr.toList (d_write I mu hs ⟨o, q1⟩ (raw_new q1 q2 q3 hS ?_)) ve ko'
    rw [← ve.len]
    have := putK_len kvs (.tuple xs) y
    omega
  | true =>
    rw [l] at t
    refine wpAny_setItem_pairs (knd := plainKind X.prog X.w) (k := leafOf k) (plain_of rk r l) (d.plain I t) (fun h' hm hs => ?_) (by unfold lxs; rw [List.length_map]; omega)
    obtain ⟨o, arr, ep, q1, q2, q3, q4, q5, q6⟩ := hm
    rw [stored_lxs e1 l t gs] at q5
    have lp : ∀ p ∈ putK kvs k y, leafK p.1 = true ∧ ∃ ke, keyD p.1 = some ke := fun p m => by
      have hm : p.1 ∈ (putK kvs k y).map (·.1) := List.mem_map_of_mem m
      rw [putK_keys] at hm
      have : p.1 ∈ kvs.map (·.1) ∨ p.1 = k := by
        split at hm
        · exact .inl hm
        · rcases List.mem_append.mp hm with z | z
          · exact .inl z
          · exact .inr (by simpa using z)
      rcases this with z | z
      · obtain ⟨p', m', e'⟩ := List.mem_map.mp z
        rw [← e']
        exact ⟨t p' m', gs p' m'⟩
      · rw [z]
        exact ⟨l, ke, e1⟩
    have ve : VE X.K X.w H (putK kvs k y) arr.toList := VE.of_pairs (P := X.prog) q5 (fun e m => q4 e (by simpa using m)) (fun p m => (lp p m).1) fun p m => (lp p m).2
    refine h _ arr.toList (d_write I mu hs ⟨o, q1⟩ (raw_new q1 q2 q3 hS ?_)) ve ko'
    rw [← ve.len]
    have := putK_len kvs k y
    omega
end
/-! ### a thing's entries behind a put -/
section
variable {K : PySem.W.Frag} {w : World} {W W' : Wd} {H H' : Hp}
theorem RKv.map_put {k : PyData} {y : Value} {x : RV} {v : V} (rx : RVr K w W H x v []) (rv : RelV v y) : ∀ {kvs : List (PyData × RV)} {es es' : List DictEntry} {A : List Addr}, RKv K w W H kvs es A → VE K w H ((kusOf kvs es).map fun p => if sameKey p.1 k then (p.1, y) else p) es' →
    ∃ A', RKv K w W H (kvs.map fun p => if sameKey p.1 k then (p.1, x) else p) es' A' ∧ A'.Sublist A
  | _, _, _, _, .nil, h => by
    cases h
    exact ⟨[], .nil, List.Sublist.refl _⟩
  | _, _, _, _, .cons (k := k0) (x := x0) (e := e0) (A := A1) a l b c d e f g, h => by
    rw [kusOf, List.map_cons] at h
    dsimp only at h
    cases q : sameKey k0 k with
    | true =>
      rw [q, if_pos rfl] at h
      cases h with
      | cons a' b' c' d' e' g' =>
        obtain ⟨A', h1, h2⟩ := RKv.map_put rx rv g g'
        rw [a] at a'
        cases a'
        refine ⟨[] ++ A', ?_, h2.trans (List.sublist_append_right _ _)⟩
        rw [List.map_cons]
        dsimp only
        rw [q, if_pos rfl]
        exact .cons a l b' (c'.keepN (fun _ _ q => q) l) d' rx (by rw [e']; exact rv) h1
    | false =>
      rw [q, if_neg Bool.false_ne_true] at h
      cases h with
      | cons a' b' c' d' e' g' =>
        obtain ⟨A', h1, h2⟩ := RKv.map_put rx rv g g'
        rw [a] at a'
        cases a'
        refine ⟨A1 ++ A', ?_, List.Sublist.append (List.Sublist.refl _) h2⟩
        rw [List.map_cons]
        dsimp only
        rw [q, if_neg Bool.false_ne_true]
        exact .cons a l b' (c'.keepN (fun _ _ q => q) l) d' e (by rw [e']; exact f) h1
theorem RKv.app_put {k : PyData} {ke : NestedKey} {y : Value} {x : RV} {v : V} {B : List Addr} (hk : keyD k = some ke) (rx : RVr K w W H x v B) (rv : RelV v y) : ∀ {kvs : List (PyData × RV)} {es es' : List DictEntry} {A : List Addr}, RKv K w W H kvs es A → VE K w H (kusOf kvs es ++ [(k, y)]) es' →
    RKv K w W H (kvs ++ [(k, x)]) es' (A ++ B)
  | _, _, _, _, .nil, h => by
    cases h with
    | cons a' b' c' d' e' g' =>
      cases g'
      have := RKv.cons (A := B) (B := []) a' (keyD_noL a') b' (c'.keepN (F' := W.F) (fun _ _ q => q) (keyD_noL a')) d' rx (by rw [e']; exact rv) .nil
      simpa using this
  | _, _, _, _, .cons (A := A1) (B := A2) a l b c d e f g, h => by
    rw [kusOf, List.cons_append] at h
    cases h with
    | cons a' b' c' d' e' g' =>
      have h1 := RKv.app_put hk rx rv g g'
      rw [a] at a'
      cases a'
      rw [List.append_assoc]
      exact .cons a l b' (c'.keepN (fun _ _ q => q) l) d' e (by rw [e']; exact f) h1
theorem RKv.put {k : PyData} {ke : NestedKey} {y : Value} {x : RV} {v : V} (hk : keyD k = some ke) (rx : RVr K w W H x v []) (rv : RelV v y) {kvs : List (PyData × RV)} {es es' : List DictEntry} {A : List Addr} (r : RKv K w W H kvs es A) (h : VE K w H (putK (kusOf kvs es) k y) es') :
    ∃ A', RKv K w W H (putK kvs k x) es' A' ∧ A'.Sublist A := by
  have e1 : ∀ {β γ : Type} (l : List (PyData × β)) (m : List (PyData × γ)), l.map (·.1) = m.map (·.1) → (l.any fun p => sameKey p.1 k) = m.any fun p => sameKey p.1 k := fun l m e => by
    have z : ∀ {β : Type} (l : List (PyData × β)), (l.any fun p => sameKey p.1 k) = (l.map (·.1)).any fun q => sameKey q k := fun l => by rw [List.any_map]; rfl
    rw [z, z, e]
  have e2 := e1 (kusOf kvs es) kvs r.keys.1
  unfold putK at h ⊢
  rw [e2] at h
  split at h
  · rename_i q
    rw [if_pos q]
    exact r.map_put rx rv h
  · rename_i q
    rw [if_neg q]
    exact ⟨A ++ [], r.app_put hk rx rv h, by simp⟩
end
end Z

set_option linter.all false
set_option maxRecDepth 100000
set_option maxHeartbeats 1000000
/-! Z13: in, not in; comparisons. -/
namespace Z
open PySem PySem.Spec PyProof.Rows L2
section
variable {X : Cx} {xr : XR}
def wAll : Wd := ⟨fun _ => True, [], fun _ => True, fun _ => False⟩
theorem DAt.of_rkv {W : Wd} {H : Hp} {a : Addr} {kvs : List (PyData × RV)} {es : List DictEntry} {A : List Addr} (h : H a = some (rawO a es)) (ko : KeysOk (kvs.map (·.1))) (r : RKv X.K X.w W H kvs es A) : DAt X H a (kusOf kvs es) es :=
  ⟨h, by rw [r.keys.1]; exact ko, r.ve⟩
theorem RKv.some {K : PySem.W.Frag} {w : World} {W : Wd} {H : Hp} {k : PyData} {kvs : List (PyData × RV)} {es : List DictEntry} {A : List Addr} (r : RKv K w W H kvs es A) : (getK (kusOf kvs es) k).isSome = (getK kvs k).isSome := by
  rcases r.get (k := k) with ⟨h1, h2⟩ | ⟨x, u, v, B, h1, h2, _⟩
  · rw [h1, h2]; rfl
  · rw [h1, h2]; rfl
theorem keys_dat {kvs : List (PyData × PyData)} : (kvs.map fun p => (p.1, RV.dat p.2)).map (·.1) = kvs.map (·.1) := by
  rw [List.map_map]
  rfl
theorem keyOk_dat {k : PyData} {kvs : List (PyData × PyData)} (h : keyOk k kvs = true) : keyOk k (kvs.map fun p => (p.1, RV.dat p.2)) = true := keyOk_map h keys_dat
def fIn (neg : Bool) (x y : RV) (st : Sto) : R RV := (ofO (vw st x) st).bind fun k st => inR neg k y st
/-- a key is looked for in a dict -/
theorem dict_in (neg : Bool) (hu : X.A.units + 64 < cLine) {pins : List (Addr × Obj)} {s : Shared} {σ : L2.St} {H : Hp} {x : V} {a : Addr} {v : Value} {Q : VK} {k : PyData} {W : Wd} {kvs : List (PyData × RV)} {es : List DictEntry} {A : List Addr} (I : Inv X pins σ H s) (rx : RelV x v)
    (h : H a = some (rawO a es)) (ko : KeysOk (kvs.map (·.1))) (r : RKv X.K X.w W H kvs es A) (hk : keyOk k kvs = true) (rk : Rep X.K X.w (fun _ => True) H k x) (q : Q (.bl (if neg then !(getK kvs k).isSome else (getK kvs k).isSome)) H) :
    wpAny (model X.prog X.w) X.A (compareOp (if neg then .NotIn else .In) v (.ref a)) (fun u s' => ∃ y H', Inv X pins σ H' s' ∧ RelV y u ∧ Q y H') X.xe s := by
  have d := DAt.of_rkv h ko r
  have hk' := keyOk_map hk r.keys.1
  cases neg with
  | true =>
    refine d_notIn' (by omega) I d hk' rk rx fun s' I' => ⟨.bl _, H, I', rfl, ?_⟩
    rw [r.some]
    exact q
  | false =>
    refine d_in' (by omega) I d hk' rk rx fun s' I' => ⟨.bl _, H, I', rfl, ?_⟩
    rw [r.some]
    exact q
def bNot (neg b : Bool) : Bool := if neg then !b else b
/-- is within, is not within: what is looked for, where -/
def rInX (K : PySem.W.Frag) (w : World) (neg : Bool) : R2 := fun x y H Q => ∃ W st yv B k c, SR K w W H st ∧ RVr K w W H yv y B ∧ Rep K w (fun _ => True) H k x ∧ inR neg k yv st = .ok (.dat (.bool c)) st ∧ Q (.bl c) H
theorem inR_eq {neg : Bool} {k : PyData} {v : RV} {st : Sto} {c : Bool} (h : inR neg k v st = .ok (.dat (.bool c)) st) : (∃ i kvs, v = .ref i ∧ st[i]? = some (.dct kvs) ∧ keyOk k kvs = true ∧ c = (if neg then !(getK kvs k).isSome else (getK kvs k).isSome)) ∨
    (∃ kvs, vw st v = some (.dict kvs) ∧ keyOk k kvs = true ∧ c = (if neg then !(getK kvs k).isSome else (getK kvs k).isSome)) ∨ ∃ d, vw st v = some d ∧ (∀ kvs, d ≠ .dict kvs) ∧ cmpD (if neg then .NotIn else .In) k d = some c := by
  have other : ((ofO (vw st v) st).bind fun d st => match d with
    | .dict kvs => if keyOk k kvs then R.ok (RV.dat (.bool (if neg then !(getK kvs k).isSome else (getK kvs k).isSome))) st else .err
    | d => (ofO (cmpD (if neg then .NotIn else .In) k d) st).bind fun b st => .ok (.dat (.bool b)) st) = .ok (.dat (.bool c)) st → (∃ kvs, vw st v = some (.dict kvs) ∧ keyOk k kvs = true ∧ c = (if neg then !(getK kvs k).isSome else (getK kvs k).isSome)) ∨ ∃ d, vw st v = some d ∧ (∀ kvs, d ≠ .dict kvs) ∧ cmpD (if neg then .NotIn else .In) k d = some c := fun h => by
    cases e : vw st v with
    | none => rw [e] at h; cases h
    | some d =>
      rw [e] at h
      have sq : (∀ kvs, d ≠ .dict kvs) → ((ofO (cmpD (if neg then .NotIn else .In) k d) st).bind fun b st => R.ok (RV.dat (.bool b)) st) = .ok (.dat (.bool c)) st → ∃ d', some d = some d' ∧ (∀ kvs, d' ≠ .dict kvs) ∧ cmpD (if neg then .NotIn else .In) k d' = some c := fun nd h => by
        cases e2 : cmpD (if neg then .NotIn else .In) k d with
        | none => rw [e2] at h; cases h
        | some b =>
          rw [e2] at h
          have : R.ok (RV.dat (.bool b)) st = .ok (.dat (.bool c)) st := h
          cases this
          exact ⟨d, rfl, nd, e2⟩
      cases d with
      | dict kvs =>
        have h' : (if keyOk k kvs then R.ok (RV.dat (.bool (if neg then !(getK kvs k).isSome else (getK kvs k).isSome))) st else .err) = .ok (.dat (.bool c)) st := h
        split at h'
        · rename_i hk
          have e3 : (if neg then !(getK kvs k).isSome else (getK kvs k).isSome) = c := by
            injection h' with h1 _
            injection h1 with h1
            injection h1
          exact .inl ⟨kvs, rfl, hk, e3.symm⟩
        · cases h'
      | _ => exact .inr (sq (fun _ => nofun) h)
  unfold inR at h
  dsimp only at h
  split at h
  · rename_i i
    split at h
    · rename_i kvs ec
      split at h
      · rename_i hk
        have e3 : (if neg then !(getK kvs k).isSome else (getK kvs k).isSome) = c := by
          injection h with h1 _
          injection h1 with h1
          injection h1
        exact .inl ⟨i, kvs, rfl, ec, hk, e3.symm⟩
      · cases h
    · exact .inr (other h)
  · exact .inr (other h)
theorem op_inX (neg : Bool) (hu : X.A.units + 66 < cLine) : OpR X (compareOp (if neg then .NotIn else .In)) (rInX X.K X.w neg) := by
  intro pins s σ H x y v u Q I rx ry ⟨W, st, yv, B, k, c, sr, r2, rk, e0, q⟩
  rcases inR_eq e0 with ⟨i, kvs, rfl, ec, hk, ecc⟩ | ⟨kvs, e2, hk, ecc⟩ | ⟨d, e2, nd, e3⟩
  · cases r2 with
    | @ref _ a hb =>
      obtain rfl := ry
      have z := sr.cells i _ a ec hb
      cases z with
      | dct c1 ko c2 c3 => exact dict_in neg (by omega) I rx c1 ko c2 hk rk (ecc ▸ q)
  · have rd := vw_rep sr r2 e2
    cases rd with
    | @dct a _ es _ hd ko hs =>
      obtain rfl := ry
      refine dict_in neg (by omega) I rx hd (by rw [keys_dat]; exact ko) (RepKv.rkv (W := wAll) hs) (keyOk_dat hk) rk ?_
      rw [getK_map, Option.isSome_map]
      exact ecc ▸ q
  · have rd := vw_rep sr r2 e2
    cases rd with
    | dct _ _ _ _ => exact absurd rfl (nd _)
    | @lst a ds vs _ hl hs =>
      have e3' : (inL k ds).map (bNot neg) = some c := by
        cases neg with
        | true => exact e3
        | false => rw [show inL k ds = some c from e3]; rfl
      unfold inL at e3'
      split at e3'
      · rename_i hc
        obtain ⟨b, eb, ec⟩ := Option.map_eq_some_iff.mp e3'
        cases eb
        rw [Bool.or_eq_true, Bool.and_eq_true, Bool.and_eq_true] at hc
        rcases hc with ⟨c1, c2⟩ | ⟨c1, c2⟩
        · obtain ⟨z1, z2⟩ := flats_eqV c1 rk c2 hs
          have fx : flatV x = true := by cases rk <;> first | rfl | (simp [isFlat] at c1)
          cases neg with
          | true =>
            refine op_notIn_seq pins s σ H x _ v u Q I rx ry ⟨a, vs, rfl, .inl (SqL.of hl), fx, z2, ?_⟩
            rw [z1, if_pos rfl]
            rw [← ec] at q
            exact q
          | false =>
            refine op_in_seq pins s σ H x _ v u Q I rx ry ⟨a, vs, rfl, .inl (SqL.of hl), fx, z2, ?_⟩
            rw [z1, if_neg Bool.false_ne_true]
            rw [← ec] at q
            exact q
        · have dk := rep_dp (SeqAt.canLay_of_shaped c1) rk
          have dl : Dp X.K H (.ref a) (.list ds) := rep_dp (SeqAt.canLay_of_shaped c2) (.lst trivial hl hs)
          cases neg with
          | true =>
            refine op_notInD (by omega) pins s σ H x _ v u Q I rx ry ⟨k, ds, dk, dl, c1, c2, ?_⟩
            rw [← ec] at q
            exact q
          | false =>
            refine op_inD (by omega) pins s σ H x _ v u Q I rx ry ⟨k, ds, dk, dl, c1, c2, ?_⟩
            rw [← ec] at q
            exact q
      · cases e3'
    | @tup a ds vs hl hs =>
      have e3' : (inT k ds).map (bNot neg) = some c := by
        cases neg with
        | true => exact e3
        | false => rw [show inT k ds = some c from e3]; rfl
      unfold inT at e3'
      split at e3'
      · rename_i hc
        obtain ⟨b, eb, ec⟩ := Option.map_eq_some_iff.mp e3'
        cases eb
        rw [Bool.and_eq_true] at hc
        obtain ⟨c1, c2⟩ := hc
        obtain ⟨z1, z2⟩ := flats_eqV c1 rk c2 hs
        have fx : flatV x = true := by cases rk <;> first | rfl | (simp [isFlat] at c1)
        cases neg with
        | true =>
          refine op_notIn_seq pins s σ H x _ v u Q I rx ry ⟨a, vs, rfl, .inr hl, fx, z2, ?_⟩
          rw [z1, if_pos rfl]
          rw [← ec] at q
          exact q
        | false =>
          refine op_in_seq pins s σ H x _ v u Q I rx ry ⟨a, vs, rfl, .inr hl, fx, z2, ?_⟩
          rw [z1, if_neg Bool.false_ne_true]
          rw [← ec] at q
          exact q
      · cases e3'
    | str y' =>
      cases rk with
      | str x' =>
        cases neg with
        | true =>
          have : c = !inS x' y' := by simpa [cmpD] using e3.symm
          subst this
          refine op_notIn_str pins s σ H _ _ v u Q I rx ry ⟨x', y', rfl, rfl, ?_⟩
          unfold inS at q
          exact q
        | false =>
          have : c = inS x' y' := by simpa [cmpD] using e3.symm
          subst this
          refine op_in_str pins s σ H _ _ v u Q I rx ry ⟨x', y', rfl, rfl, ?_⟩
          unfold inS at q
          exact q
      | _ => cases neg <;> simp [cmpD] at e3
    | _ => cases neg <;> simp [cmpD] at e3
/-- a comparison of two things -/
def rCmpX (K : PySem.W.Frag) (w : World) (op : CmpOp) : R2 := fun x y H Q => ∃ W st xv yv A B c, SR K w W H st ∧ RVr K w W H xv x A ∧ RVr K w W H yv y B ∧ cmpR op xv yv st = .ok (.dat (.bool c)) st ∧ Q (.bl c) H
theorem op_cmpX (op : CmpOp) (hu : X.A.units + 66 < cLine) : OpR X (compareOp op) (rCmpX X.K X.w op) := by
  have inn : ∀ neg, OpR X (compareOp (if neg then .NotIn else .In)) (fun x y H Q => ∃ W st xv yv A B c, SR X.K X.w W H st ∧ RVr X.K X.w W H xv x A ∧ RVr X.K X.w W H yv y B ∧ ((ofO (vw st xv) st).bind fun k st => inR neg k yv st) = .ok (.dat (.bool c)) st ∧ Q (.bl c) H) := fun neg => by
    intro pins s σ H x y v u Q I rx ry ⟨W, st, xv, yv, A, B, c, sr, r1, r2, e, q⟩
    cases e1 : vw st xv with
    | none => rw [e1] at e; cases e
    | some k =>
      rw [e1] at e
      exact op_inX neg hu pins s σ H x y v u Q I rx ry ⟨W, st, yv, B, k, c, sr, r2, vw_rep sr r1 e1, e, q⟩
  have plain : ∀ op, op ≠ .In → op ≠ .NotIn → OpR X (compareOp op) (fun x y H Q => ∃ W st xv yv A B c, SR X.K X.w W H st ∧ RVr X.K X.w W H xv x A ∧ RVr X.K X.w W H yv y B ∧ ((ofO (vw st xv) st).bind fun x st => (ofO (vw st yv) st).bind fun y st => (ofO (cmpD op x y) st).bind fun c st => R.ok (RV.dat (.bool c)) st) = .ok (.dat (.bool c)) st ∧ Q (.bl c) H) := fun op n1 n2 => by
    intro pins s σ H x y v u Q I rx ry ⟨W, st, xv, yv, A, B, c, sr, r1, r2, e, q⟩
    cases e1 : vw st xv with
    | none => rw [e1] at e; cases e
    | some a =>
      rw [e1] at e
      have e' : ((ofO (vw st yv) st).bind fun y st => (ofO (cmpD op a y) st).bind fun c st => R.ok (RV.dat (.bool c)) st) = .ok (.dat (.bool c)) st := e
      cases e2 : vw st yv with
      | none => rw [e2] at e'; cases e'
      | some b =>
        rw [e2] at e'
        have e'' : ((ofO (cmpD op a b) st).bind fun c st => R.ok (RV.dat (.bool c)) st) = .ok (.dat (.bool c)) st := e'
        cases e3 : cmpD op a b with
        | none => rw [e3] at e''; cases e''
        | some c' =>
          rw [e3] at e''
          have : R.ok (RV.dat (.bool c')) st = .ok (.dat (.bool c)) st := e''
          cases this
          exact op_cmp op (by omega) n1 n2 pins s σ H x y v u Q I rx ry ⟨a, b, c, vw_rep sr r1 e1, vw_rep sr r2 e2, e3, q⟩
  cases op with
  | In => exact inn false
  | NotIn => exact inn true
  | _ => exact plain _ (by decide) (by decide)
end
end Z

set_option linter.all false
set_option maxRecDepth 100000
set_option maxHeartbeats 1000000
/-! Z14: subscripts, slices. -/
namespace Z
open PySem PySem.Spec PyProof.Rows L2
theorem place_ixN (n : Nat) (i : Int) : place n i = ixN n i := by
  unfold place ixN
  by_cases h : 0 ≤ i
  · rw [if_pos h, if_pos h]
    by_cases h2 : i < n
    · rw [if_pos (by omega), if_pos h2]
    · rw [if_neg (by omega), if_neg h2]
  · rw [if_neg h, if_neg h]
    by_cases h2 : 0 ≤ i + n
    · rw [if_pos h2, if_pos (by omega)]
    · rw [if_neg h2, if_neg (by omega)]
section
variable {K : PySem.W.Frag} {w : World} {W : Wd} {H : Hp}
theorem RVs.getN : ∀ {xs : List RV} {vs : List V} {A : List Addr} {i : Nat} {x : RV}, RVs K w W H xs vs A → A = [] → xs[i]? = some x → ∃ v, vs[i]? = some v ∧ RVr K w W H x v []
  | _, _, _, _, _, .nil, _, e => by simp at e
  | _, _, _, 0, _, .cons (A := A) h _, z, e => by
    simp at e
    subst e
    obtain ⟨rfl, _⟩ := List.append_eq_nil_iff.mp z
    exact ⟨_, rfl, h⟩
  | _, _, _, i + 1, _, .cons _ hs, z, e => by
    obtain ⟨v, e1, e2⟩ := RVs.getN (i := i) hs (List.append_eq_nil_iff.mp z).2 (by simpa using e)
    exact ⟨v, by simpa using e1, e2⟩
theorem part_ok {d : PyData} {v : V} (h : Rep K w (bF W H) H d v) : RVr K w W H (part d) v [] := by
  unfold part
  split
  · rename_i hn
    exact .dat (h.keepN (fun _ _ q => q) hn)
  · exact .bor h
end
section
variable {X : Cx} {xr : XR}
/-- a part of data -/
theorem sub_rep {pins : List (Addr × Obj)} {s : Shared} {σ : L2.St} {H : Hp} {d k x : PyData} {v kv : V} {u iu : Value} {F F' : Addr → Prop} {Q : VK} {value slice : Expr} (hu : X.A.units + 66 < cLine) (I : Inv X pins σ H s) (rx : RelV v u) (ri : RelV kv iu) (r : Rep X.K X.w F H d v) (rk : Rep X.K X.w F' H k kv) (e : itemD d k = some x)
    (hQ : ∀ y, Rep X.K X.w F H x y → Q y H) (hs : subscripted slice false u iu = operate [u, iu] (getItem u iu)) : wpAny (model X.prog X.w) X.A (subscriptTail value slice u iu) (EP X pins σ Q) X.xe s := by
  cases r with
  | @dct a kvs es _ h ko hs' =>
    have e' : (if keyOk k kvs then getK kvs k else none) = some x := e
    split at e'
    · rename_i hk
      obtain rfl := rx
      have rr := RepKv.rkv (W := ⟨F, [], fun _ => True, fun _ => False⟩) hs'
      have d := DAt.of_rkv h (by rw [keys_dat]; exact ko) rr
      rcases rr.get (k := k) with ⟨h1, h2⟩ | ⟨x', y, v', B, h1, h2, h3, h4, h5⟩
      · rw [getK_map, e'] at h1
        cases h1
      · rw [getK_map, e'] at h1
        cases h1
        cases h4 with
        | dat h4 =>
          refine tail_any (ops := [.ref a, iu]) (T := "dict") ?_ PySem.F.slot_dict_getitem.lookup (d_get' (by omega) I d (keyOk_map (keyOk_dat hk) rr.keys.1) rk ri h2 fun s' I' => ⟨v', H, I', h3, hQ _ h4⟩) hs
          obtain ⟨⟨o, arr, ep, q1, q2, _⟩, _⟩ := d.raw I
          exact ⟨o, q1, q2.1⟩
    · cases e'
  | @lst a ds vs _ h hs' =>
    cases k <;> simp [itemD, itemSeq] at e
    rename_i i
    cases rk
    obtain ⟨j, e1, e2⟩ := Option.bind_eq_some_iff.mp e
    obtain ⟨y, e3, e4⟩ := hs'.get e2
    refine ix_list value slice pins s σ H _ _ u iu Q I rx ri ⟨a, vs, i, y, rfl, rfl, SqL.of h, ?_, hQ _ e4⟩ hs
    unfold atI
    rw [← place_ixN, ← hs'.length, e1]
    exact e3
  | @tup a ds vs h hs' =>
    cases k <;> simp [itemD, itemSeq] at e
    rename_i i
    cases rk
    obtain ⟨j, e1, e2⟩ := Option.bind_eq_some_iff.mp e
    obtain ⟨y, e3, e4⟩ := hs'.get e2
    refine ix_tup value slice pins s σ H _ _ u iu Q I rx ri ⟨a, vs, i, y, rfl, rfl, h, ?_, hQ _ e4⟩ hs
    unfold atI
    rw [← place_ixN, ← hs'.length, e1]
    exact e3
  | str z =>
    cases k <;> simp [itemD, itemSeq] at e
    rename_i i
    cases rk
    obtain ⟨hl, e⟩ := e
    obtain ⟨j, e1, e2⟩ := Option.bind_eq_some_iff.mp e
    obtain ⟨c, e3, rfl⟩ := Option.map_eq_some_iff.mp e2
    have e3' : z.cps.toList[j]? = some c := by simpa using e3
    refine ix_str value slice pins s σ H _ _ u iu Q I rx ri ⟨z, i, c, rfl, rfl, by rw [← lim_eq]; omega, ?_, hQ _ (.str _)⟩ hs
    unfold atI
    rw [← place_ixN, show z.cps.toList.length = z.length by simp [Str.length], e1]
    exact e3'
  | _ => simp [itemD, itemSeq] at e
def fSub (v u : RV) (st : Sto) : R RV := (ofO (vw st u) st).bind fun k st => subR v k st
theorem ix_sub (hu : X.A.units + 66 < cLine) : IxR X (rTwo X.K X.w xr fSub) := by
  intro value slice pins s σ H x y v u Q I rx ry ⟨W0, H0, W, st, xv, yv, E, ⟨up, sr, A, B, r1, r2, f⟩, h0⟩ hs
  obtain ⟨k, e1, h1⟩ := ofO_good (show Good X.K X.w xr ((ofO (vw st yv) st).bind fun k st => subR xv k st) W0 H0 E Q from h0)
  have rk := vw_rep sr r2 e1
  clear h0
  have seen : ∀ {d : PyData}, vw st xv = some d → Rep X.K X.w (bF W H) H d x → Good X.K X.w xr ((ofO (vw st xv) st).bind fun d st => (ofO (itemD d k) st).bind fun x st => .ok (part x) st) W0 H0 E Q → wpAny (model X.prog X.w) X.A (subscriptTail value slice v u) (EP X pins σ Q) X.xe s := fun {d} e rd h => by
    rw [e] at h
    obtain ⟨z, e2, h⟩ := ofO_good (show Good X.K X.w xr ((ofO (itemD d k) st).bind fun x st => .ok (part x) st) W0 H0 E Q from h)
    exact sub_rep hu I rx ry rd rk e2 (fun y ry' => h W H y [] up sr (part_ok ry') Fresh.nil) hs
  cases r1 with
  | @dat d _ hd =>
    obtain ⟨z, e2, h⟩ := ofO_good (show Good X.K X.w xr ((ofO (itemD d k) st).bind fun x st => .ok (.dat x) st) W0 H0 E Q from h1)
    exact sub_rep hu I rx ry hd rk e2 (fun y ry' => h W H y [] up sr (.dat ry') Fresh.nil) hs
  | @ref i a hb =>
    obtain ⟨z, e2, h⟩ := ofO_end (show Good X.K X.w xr (ofO (cellItem st i k) st) W0 H0 E Q from h1)
    unfold cellItem at e2
    split at e2
    · rename_i xs ec
      have c := sr.cells i _ a ec hb
      cases c with
      | @lst _ vs c1 c2 c3 =>
        cases k <;> simp at e2
        rename_i j
        cases rk
        obtain ⟨q, e3, e4⟩ := Option.bind_eq_some_iff.mp e2
        obtain ⟨y, e5, e6⟩ := c2.getN rfl e4
        refine ix_list value slice pins s σ H _ _ v u Q I rx ry ⟨a, vs, j, y, rfl, rfl, SqL.of c1, ?_, h W H y [] up sr e6 Fresh.nil⟩ hs
        unfold atI
        rw [← place_ixN, ← c2.length, e3]
        exact e5
    · rename_i kvs ec
      have c := sr.cells i _ a ec hb
      cases c with
      | @dct _ es c1 ko c2 c3 =>
        split at e2
        · rename_i hk
          obtain rfl := rx
          have d := DAt.of_rkv c1 ko c2
          rcases c2.get (k := k) with ⟨h1, h2⟩ | ⟨x', y, v', B', h1, h2, h3, h4, h5⟩
          · rw [e2] at h1
            cases h1
          · rw [e2] at h1
            cases h1
            have hB : B' = [] := List.eq_nil_iff_forall_not_mem.mpr fun b m => absurd (h5 b m) (by simp)
            subst hB
            refine tail_any (ops := [.ref a, u]) (T := "dict") ?_ PySem.F.slot_dict_getitem.lookup (d_get' (by omega) I d (keyOk_map hk c2.keys.1) rk ry h2 fun s' I' => ⟨v', H, I', h3, h W H v' [] up sr h4 Fresh.nil⟩) hs
            obtain ⟨⟨o, arr, ep, q1, q2, _⟩, _⟩ := d.raw I
            exact ⟨o, q1, q2.1⟩
        · cases e2
    · cases e2
  | @tpl a xs vs ht hv =>
    cases k <;> (try exact h1.elim)
    rename_i j
    obtain ⟨z, e2, h⟩ := ofO_end (show Good X.K X.w xr (ofO ((place xs.length j).bind fun j => xs[j]?) st) W0 H0 E Q from h1)
    cases rk
    obtain ⟨q, e3, e4⟩ := Option.bind_eq_some_iff.mp e2
    obtain ⟨y, e5, e6⟩ := hv.getN rfl e4
    refine ix_tup value slice pins s σ H _ _ v u Q I rx ry ⟨a, vs, j, y, rfl, rfl, ht, ?_, h W H y [] up sr e6 Fresh.nil⟩ hs
    unfold atI
    rw [← place_ixN, ← hv.length, e3]
    exact e5
  | bor hd => exact seen rfl hd h1
  | scr _ => exact h1.elim
  | @own a xs vs A' hl hv =>
    have rr := RVr.own hl hv
    cases e : deeps xs with
    | none =>
      have h1' : Good X.K X.w xr ((ofO (vw st (.own xs)) st).bind fun d st => (ofO (itemD d k) st).bind fun x st => .ok (part x) st) W0 H0 E Q := h1
      rw [vw, e] at h1'
      exact h1'.elim
    | some ds =>
      have rd := rr.deep (d := .list ds) (A0 := a :: A') (by rw [deep, e]; rfl) fun a m => m
      exact seen (d := .list ds) (by rw [vw, e]; rfl) (bF_of sr (fun b m => (f.no b (List.mem_append_left _ m)).2.1) (fun b m => f.np b (List.mem_append_left _ m)) rd) h1
  | @odi a xs vs A' hl ko hv =>
    have rr := RVr.odi hl ko hv
    cases e : deepKv xs with
    | none =>
      have h1' : Good X.K X.w xr ((ofO (vw st (.odi xs)) st).bind fun d st => (ofO (itemD d k) st).bind fun x st => .ok (part x) st) W0 H0 E Q := h1
      rw [vw, e] at h1'
      exact h1'.elim
    | some ds =>
      have rd := rr.deep (d := .dict ds) (A0 := a :: A') (by rw [deep, e]; rfl) fun a m => m
      exact seen (d := .dict ds) (by rw [vw, e]; rfl) (bF_of sr (fun b m => (f.no b (List.mem_append_left _ m)).2.1) (fun b m => f.np b (List.mem_append_left _ m)) rd) h1
def isSlice : Expr → Bool
  | .Slice _ _ _ _ => true
  | _ => false
theorem plainIx {b : Expr} (h : isSlice b = false) : PlainIx b := by
  intro o i
  cases b <;> first | rfl | (simp [isSlice] at h)
theorem pe_sub {a b : Expr} {pos : Pos} {w : World} {E : L2.St → XW} {ev : Expr → Ev → Sto → R RV} (hu : X.A.units + 66 < cLine) (ha : PE X a (tEv X.K X.w xr E (ev a))) (hb : PE X b (tEv X.K X.w xr E (ev b))) (hs : isSlice b = false) :
    PE X (.Subscript a b pos) (tEv X.K X.w xr E fun env st => (ev a env st).bind fun v st => (evV ev b env st).bind fun k st => subR v k st) := by
  refine PE.imp (pe_ix (ix_sub (xr := xr) hu) ha hb (plainIx hs)) fun σ H Q h => tEv.two (f := fSub) ?_
  obtain ⟨W, env, st, F, h⟩ := h
  refine ⟨W, env, st, F, ?_⟩
  have e : ∀ st, ((evV ev b env st).bind fun k st => subR · k st) = fun v => (ev b env st).bind fun y st => fSub v y st := fun st => by
    funext v
    unfold evV
    rw [R.bind_assoc]
    rfl
  show Good X.K X.w xr ((ev a env st).bind fun x st => (ev b env st).bind fun y st => fSub x y st) W H (E σ) Q
  have h' : Good X.K X.w xr ((ev a env st).bind fun v st => (evV ev b env st).bind fun k st => subR v k st) W H (E σ) Q := h
  have : (fun v st => (evV ev b env st).bind fun k st => subR v k st) = fun v st => (ev b env st).bind fun y st => fSub v y st := by
    funext v st
    unfold evV
    rw [R.bind_assoc]
    rfl
  rw [this] at h'
  exact h'
end
end Z

set_option linter.all false
set_option maxRecDepth 100000
set_option maxHeartbeats 1000000
/-! Z15: slices. -/
namespace Z
open PySem PySem.Spec PyProof.Rows L2
section
variable (K : PySem.W.Frag) (w : World) (xr : XR)
def GoodA {α : Type} (r : R α) (W : Wd) (H : Hp) (E : XW) (Q : α → Hp → Prop) : Prop := match r with
  | .ok b st' => ∀ W' H', Up W H W' H' → SR K w W' H' st' → Q b H'
  | .exc c xs st' => ∀ W' H' cls d, Up W H W' H' → SR K w W' H' st' → xr c xs cls d W' H' → E cls d H'
  | .err => False
def tO (E : L2.St → XW) (f : Ev → Sto → R (Option Int)) : TO := fun σ H Q => ∃ W env st, FR K w W H env st σ ∧ GoodA K w xr (f env st) W H (E σ) Q
end
section
variable {K : PySem.W.Frag} {w : World} {xr : XR} {E : L2.St → XW} {W W0 W1 : Wd} {H H0 H1 : Hp} {st : Sto} {σ : L2.St}
theorem Good.thenA {α : Type} {r : R α} {f : α → Sto → R RV} {E : XW} {Q : VK} {Q' : α → Hp → Prop} (h : Good K w xr (r.bind f) W H E Q) (u0 : Up W H W1 H1)
    (k : ∀ x st2 W2 H2, Good K w xr (f x st2) W H E Q → Up W1 H1 W2 H2 → SR K w W2 H2 st2 → Q' x H2) : GoodA K w xr r W1 H1 E Q' := by
  cases r with
  | ok x st' => exact fun W' H' u s => k x st' W' H' h u s
  | exc c xs st' => exact fun W' H' cls d u s q => h W' H' cls d (u0.trans u) s q
  | err => exact h
theorem GoodA.then {α : Type} {r : R RV} {f : RV → Sto → R α} {E : XW} {Q : α → Hp → Prop} {Q' : VK} (h : GoodA K w xr (r.bind f) W H E Q) (u0 : Up W H W1 H1)
    (k : ∀ x st2 W2 H2 v A, GoodA K w xr (f x st2) W H E Q → Up W1 H1 W2 H2 → SR K w W2 H2 st2 → RVr K w W2 H2 x v A → Fresh W2 H1 A → Q' v H2) : Good K w xr r W1 H1 E Q' := by
  cases r with
  | ok x st' => exact fun W' H' v A u s rv fr => k x st' W' H' v A h u s rv fr
  | exc c xs st' => exact fun W' H' cls d u s q => h W' H' cls d (u0.trans u) s q
  | err => exact h
theorem po_opt {X : Cx} {ev : Expr → Ev → Sto → R RV} : ∀ {o : Option Expr}, (∀ e, o = some e → PE X e (tEv X.K w xr E (ev e))) → PO X o (tO X.K w xr E (evOpt ev o))
  | none, _ => ⟨fun pins s σ H Q I ⟨W, env, st, F, h⟩ => po_none.run pins s σ H Q I (h W H Up.refl F.sr)⟩
  | some e, h => ⟨fun pins s σ H Q I ⟨W, env, st, F, q⟩ => by
    refine (po_some (h e rfl)).run pins s σ H Q I ⟨W, env, st, F, ?_⟩
    have q' : GoodA X.K w xr (((ev e env st).bind fun v st => ofO (vw st v) st).bind fun d st => match d with | .int i => .ok (some i) st | _ => .err) W H (E σ) Q := q
    rw [R.bind_assoc] at q'
    refine GoodA.then q' Up.refl fun x st2 W2 H2 v A q2 u2 s2 r2 f2 => ?_
    cases e2 : vw st2 x with
    | none => rw [e2] at q2; exact q2.elim
    | some d =>
      rw [e2] at q2
      have rd := vw_rep s2 r2 e2
      cases rd with
      | int i => exact ⟨i, rfl, q2 W2 H2 u2 s2⟩
      | _ => exact q2.elim⟩
theorem sIx_cut (n : Nat) (d : Nat) (o : Option Int) : HT.sIx n d o = match o with | some i => cutAt n i | none => d := by
  cases o with
  | none => rfl
  | some i => rfl
theorem cutL_eq {α : Type} (xs : List α) (lo hi : Option Int) : cutL xs lo hi = (xs.drop (HT.sIx xs.length 0 lo)).take (HT.sIx xs.length xs.length hi - HT.sIx xs.length 0 lo) := by
  unfold cutL
  rw [sIx_cut, sIx_cut, List.drop_take]
  all_goals (cases lo <;> cases hi <;> rfl)
theorem Reps.drop' {F : Addr → Prop} : ∀ {ds : List PyData} {vs : List V} (n : Nat), Reps K w F H ds vs → Reps K w F H (ds.drop n) (vs.drop n)
  | _, _, 0, h => h
  | _, _, n + 1, .nil => .nil
  | _, _, n + 1, .cons _ hs => hs.drop' n
theorem Reps.take' {F : Addr → Prop} : ∀ {ds : List PyData} {vs : List V} (n : Nat), Reps K w F H ds vs → Reps K w F H (ds.take n) (vs.take n)
  | _, _, 0, _ => .nil
  | _, _, n + 1, .nil => .nil
  | _, _, n + 1, .cons h hs => .cons h (hs.take' n)
theorem Reps.cut {F : Addr → Prop} {ds : List PyData} {vs : List V} (h : Reps K w F H ds vs) (lo hi : Option Int) : Reps K w F H (cutL ds lo hi) (cutV vs lo hi) := by
  rw [cutL_eq, h.length]
  exact (h.drop' _).take' _
def slR (X : Cx) (xr : XR) : V → Option Int → Option Int → Hp → VK → Prop := fun v lo hi H Q => ∃ W0 H0 W st x E, One X.K X.w W0 H0 W H st x v ∧ Good X.K X.w xr ((ofO (solid st x) st).bind fun d st => ofO (sliceD d lo hi) st) W0 H0 E Q
theorem sl_all {X : Cx} {xr : XR} : SlR X (slR X xr) := by
  intro pins s σ H v uv vl vu lo hi sl Q I rx hs pl pu ⟨W0, H0, W, st, x, E, ⟨up, sr, A, rv, fr⟩, h⟩
  obtain ⟨d, e1, h⟩ := ofO_good h
  obtain ⟨res, e2, h⟩ := ofO_end h
  have sd := solid_rep sr rv e1 (A0 := A) fun _ m => m
  have dm := rv.dom
  obtain ⟨u1, s1⟩ := up.fzC sr fr dm
  cases d with
  | list ds =>
    cases e2
    obtain ⟨a, vs, rfl, h1, h2⟩ := sd
    exact sl_list pins s σ H _ uv vl vu lo hi sl Q I rx hs pl pu ⟨a, vs, rfl, SqL.of h1, fun p hp => h.newl up sr fr dm (h2.cut lo hi) hp⟩
  | tuple ds =>
    cases e2
    obtain ⟨a, vs, rfl, h1, h2⟩ := sd.tuple
    refine sl_tupA pins s σ H _ uv vl vu lo hi sl Q I rx hs pl pu ⟨a, vs, rfl, h1, fun ⟨z1, z2⟩ => ?_, fun _ p hp => h.newt up sr fr dm (h2.cut lo hi) hp⟩
    have e3 : cutL ds lo hi = ds := by
      rw [cutL_eq, h2.length, z1, z2, List.drop_zero, Nat.sub_zero, ← h2.length, List.take_length]
    rw [e3] at h
    exact h.flat u1 s1 (.tup h1 h2)
  | str z =>
    have e2' : (if z.length ≤ lim then some (RV.dat (.str ⟨(cutL z.cps.toList lo hi).toArray⟩)) else none) = some res := e2
    split at e2'
    · rename_i hl
      cases e2'
      obtain rfl := sd.str
      refine sl_str pins s σ H _ uv vl vu lo hi sl Q I rx hs pl pu ⟨z, rfl, by rw [← lim_eq]; exact hl, ?_⟩
      have := h.flat u1 s1 (.str _)
      rw [cutL_eq] at this
      have hz : z.cps.toList.length = z.length := by simp [Str.length]
      rw [hz] at this
      exact this
    · cases e2'
  | _ => cases e2
theorem pe_slice' {X : Cx} {ev : Expr → Ev → Sto → R RV} {o : Expr} {lo hi : Option Expr} {pos p2 : Pos} (ho : PE X o (tEv X.K X.w xr E (ev o))) (hl : PO X lo (tO X.K X.w xr E (evOpt ev lo))) (hh : PO X hi (tO X.K X.w xr E (evOpt ev hi))) :
    PE X (.Subscript o (.Slice lo hi none p2) pos) (tEv X.K X.w xr E fun env st => (ev o env st).bind fun v st => (evOpt ev lo env st).bind fun l st => (evOpt ev hi env st).bind fun h st => (ofO (solid st v) st).bind fun d st => ofO (sliceD d l h) st) := by
  refine PE.imp (pe_slice (sl_all (xr := xr)) ho hl hh) fun σ H Q ⟨W, env, st, F, q⟩ => ⟨W, env, st, F, ?_⟩
  refine Good.then q Up.refl fun x st1 W1 H1 v A q1 u1 s1 r1 f1 => ⟨W1, env, st1, F.up u1 s1, Good.thenA q1 u1 fun l st2 W2 H2 q2 u2 s2 => ⟨W2, env, st2, F.up (u1.trans u2) s2, Good.thenA q2 (u1.trans u2) fun h st3 W3 H3 q3 u3 s3 => ?_⟩⟩
  have u23 := u2.trans u3
  have nb : ∀ a ∈ A, a ∉ W1.β := fun a m => (f1.no a m).2.1
  exact ⟨W, H, W3, st3, x, E σ, ⟨u1.trans u23, s3, A, r1.up u23 s1 nb, f1.up u23 r1.dom⟩, q3⟩
/-! ### xs[::-1] -/
theorem negOne_eq {e : Expr} (h : negOne e = true) : ∃ p q k, e = .UnaryOp .USub (.Constant (.int 1) k q) p := by
  unfold negOne at h
  split at h
  · exact ⟨_, _, _, rfl⟩
  · cases h
theorem Reps.rev {F : Addr → Prop} : ∀ {ds : List PyData} {vs : List V}, Reps K w F H ds vs → Reps K w F H ds.reverse vs.reverse
  | _, _, .nil => .nil
  | _, _, .cons h hs => by
    rw [List.reverse_cons, List.reverse_cons]
    exact (hs.rev).app (.cons h .nil)
theorem Vals.rev : ∀ {vs : List V} {us : List Value}, Vals vs us → Vals vs.reverse us.reverse
  | _, _, .nil => .nil
  | _, _, .cons r t => by
    rw [List.reverse_cons, List.reverse_cons]
    exact (Vals.rev t).append (.cons r .nil)
theorem pe_rev {X : Cx} {ev : Expr → Ev → Sto → R RV} {o e : Expr} {pos p2 : Pos} (hn : negOne e = true) (ho : PE X o (tEv X.K X.w xr E (ev o))) :
    PE X (.Subscript o (.Slice none none (some e) p2) pos) (tEv X.K X.w xr E fun env st => (evS ev o env st).bind fun d st => match d with | .list xs => .ok (.own (xs.reverse.map .dat)) st | _ => .err) := by
  obtain ⟨p, q, k, rfl⟩ := negOne_eq hn
  refine ⟨fun pins s σ H Q I ⟨W, env, st, F, h⟩ => ?_⟩
  have h' : Good X.K X.w xr (((ev o env st).bind fun v st => ofO (solid st v) st).bind fun d st => match d with | .list xs => .ok (.own (xs.reverse.map .dat)) st | _ => .err) W H (E σ) Q := h
  rw [R.bind_assoc] at h'
  have un := pe_un (pos := p) (un_neg (X := X)) (pe_int (X := X) (i := 1) (j := k) (pos := q))
  let f : RV → Sto → R RV := fun x st => (ofO (solid st x) st).bind fun d st => match d with | .list xs => .ok (.own (xs.reverse.map .dat)) st | _ => .err
  refine Subscript_ (thn (ho.run pins s σ H (fun v H2 => rOne X.K X.w xr f (E σ) v H2 Q) I ⟨W, env, st, F, Good.then h' Up.refl fun x st2 W2 H2 v A q2 u2 s2 r2 f2 => ⟨W, H, W2, st2, x, ⟨u2, s2, A, r2, f2⟩, q2⟩⟩) fun v s1 ⟨y, H1, I1, r1, q1⟩ => ?_)
  obtain ⟨W0, H0, W2, st2, x, ⟨up, sr, A, rv, fr⟩, h2⟩ := q1
  obtain ⟨d, e1, h2⟩ := ofO_good h2
  have sd := solid_rep sr rv e1 (A0 := A) fun _ m => m
  have dm := rv.dom
  cases d with
  | list ds =>
    obtain ⟨a, vs, rfl, g1, g2⟩ := sd
    refine wpAny_Slice ?_
    rw [evalPart_none]
    refine wpAny_pure ?_
    refine wpAny_pure ?_
    rw [evalPart_some]
    refine thn (un.run pins s1 σ H1 (fun v H2 => v = .int (-1) ∧ H2 = H1) I1 ⟨1, rfl, rfl, rfl⟩) fun vk s3 ⟨z, H3, I3, rz, ez, eH⟩ => ?_
    subst ez eH
    obtain ⟨t, rfl⟩ := rz
    obtain rfl := r1
    obtain ⟨its, r, ht, hz⟩ := I3.list (SqL.of g1)
    have I4 : Inv X pins σ H3 { s3 with heap := s3.heap.push { cls := .type "slice", data := .fields #[.none, .none, .int (-1) t] } } := I3.kept (t' := s3.toks) fun b ob q => Heap.get?_push_of_some _ q
    obtain ⟨its', r', ht', hz'⟩ := I4.list (SqL.of g1)
    have hlen := r'.length
    refine tail_any (ops := [.ref a, .ref s3.heap.objs.size]) (T := "list") ht'.isList.typeIs slot_list_getitem.lookup ?_ (by with_unfolding_all rfl)
    refine wpAny_getItem_list_slice ht'.isList (Heap.IsSliceOf.new ..) .none .none (.int (-1) t) (by simp) ?_ (by rw [List.size_toArray] <;> omega)
    rw [PySem.W.krv_pick, show its'.toArray.toList = its' from by simp]
    refine ⟨.ref _, _, I4.laid (t' := s3.toks) (o := .lst vs.reverse) (fun b ob q => Heap.get?_push_of_some _ q) (Nat.le_refl _) ?_, rfl, h2.newl up sr fr dm g2.rev (I4.hok.fresh (Nat.le_refl _))⟩
    exact ⟨by rw [List.length_reverse]; exact hz', _, 0, Vals.rev r', Heap.get?_push_size _ rfl⟩
  | _ => exact h2.elim
end
end Z

set_option linter.all false
set_option maxRecDepth 100000
set_option maxHeartbeats 1000000
/-! Z16: built-in functions of one thing. -/
namespace Z
open PySem PySem.Spec PyProof.Rows L2
/-- a built-in's name -/
structure Bl (X : Cx) (x : Str) (u : Value) : Prop where
  gl : Gl X x
  mg : X.mg x = none
  bt : bootBuiltins x = some u
  nn : x ≠ "__name__"
  db : (x == ("__debug__" : Str)) = false
section
variable {X : Cx} {xr : XR} {E : L2.St → XW}
def r1 (X : Cx) (xr : XR) (f : RV → Sto → R RV) : List V → Hp → VK → Prop := fun vs H Q => ∃ v E, vs = [v] ∧ rOne X.K X.w xr f E v H Q
theorem pe_b1 {id : String} {x : Str} {a : Expr} {p pos : Pos} {f : RV → Sto → R RV} {ev : Expr → Ev → Sto → R RV} (b : Bl X x (.builtin id)) (hc : CallR X (.builtin id) (r1 X xr f)) (ha : PE X a (tEv X.K X.w xr E (ev a))) (hu : unstar a = true) :
    PE X (.Call (.Name x p) [a] [] pos) (tEv X.K X.w xr E fun env st => (ev a env st).bind f) := by
  refine PE.imp (pe_callB hc b.gl b.mg b.bt (pa_cons ha pa_nil (star_cons hu)) b.nn b.db (star_cons hu) (by rfl)) fun σ H Q h => ?_
  obtain ⟨W, env, st, F, h⟩ := tEv.one h
  refine ⟨W, env, st, F, ?_⟩
  cases e : ev a env st with
  | err => rw [e] at h; exact h
  | exc c xs st' => rw [e] at h; exact h
  | ok z st' =>
    rw [e] at h
    exact fun W' H' v A u s rv fr => ⟨v, E σ, rfl, h W' H' v A u s rv fr⟩
theorem pe_t1 {T : String} {x : Str} {a : Expr} {p pos : Pos} {f : RV → Sto → R RV} {ev : Expr → Ev → Sto → R RV} (b : Bl X x (.type T)) (hc : CallR X (.type T) (r1 X xr f)) (ha : PE X a (tEv X.K X.w xr E (ev a))) (hu : unstar a = true) :
    PE X (.Call (.Name x p) [a] [] pos) (tEv X.K X.w xr E fun env st => (ev a env st).bind f) := by
  refine PE.imp (pe_callTy hc b.gl b.mg b.bt (pa_cons ha pa_nil (star_cons hu)) b.nn b.db (star_cons hu) (by rfl)) fun σ H Q h => ?_
  obtain ⟨W, env, st, F, h⟩ := tEv.one h
  refine ⟨W, env, st, F, ?_⟩
  cases e : ev a env st with
  | err => rw [e] at h; exact h
  | exc c xs st' => rw [e] at h; exact h
  | ok z st' =>
    rw [e] at h
    exact fun W' H' v A u s rv fr => ⟨v, E σ, rfl, h W' H' v A u s rv fr⟩
/-! ### len -/
def fLen (v : RV) (st : Sto) : R RV := (ofO (lenV st v) st).bind fun n st => .ok (.dat (.int n)) st
theorem Reps.le {K : PySem.W.Frag} {w : World} {F : Addr → Prop} {H : Hp} {ds : List PyData} {vs : List V} (h : Reps K w F H ds vs) : ds.length = vs.length := h.length
theorem raw_of {pins : List (Addr × Obj)} {σ : L2.St} {H : Hp} {s : Shared} {a : Addr} {es : List DictEntry} (I : Inv X pins σ H s) (h : H a = some (rawO a es)) : (∃ arr ep, s.heap.DictRaw a arr ep ∧ arr.toList = es) ∧ (a == sysModules) = false ∧ es.length ≤ sizeLine := by
  obtain ⟨⟨⟨o, arr, ep, q1, q2, q3, q4⟩, q5, q6⟩, _⟩ := I.hok a _ h
  exact ⟨⟨arr, ep, ⟨o, q1, q2, q3⟩, q4⟩, q5, q6⟩
theorem len_dict {pins : List (Addr × Obj)} {σ : L2.St} {H : Hp} {s : Shared} {a : Addr} {es : List DictEntry} {Q : VK} {A : Around} {E : Value → Shared → Prop} (I : Inv X pins σ H s) (h : H a = some (rawO a es)) (q : Q (.int es.length) H) :
    wpAny (model X.prog X.w) A (call (.builtin "len") [.ref a]) (EP X pins σ Q) E s := by
  obtain ⟨⟨arr, ep, d, e⟩, hS, hl⟩ := raw_of I h
  have hn := line63
  subst e
  have hz : arr.size ≤ sizeLine := by simpa using hl
  have body : wpAny (model X.prog X.w) A (call (.builtin "len") [.ref a]) (fun u s' => u = .int arr.size (s.toks + 1) ∧ s' = { s with toks := s.toks + 1 + 1 }) E s := by
    refine Calls.call_function_entry kind_len plain_len entry_len (args_len1 _) ?_
    unfold Builtin.«len»
    refine wpAny_bind (m := oneArg "len" _) (wpAny_pure ?_)
    refine wpAny_bind (m := callSpecial? (.ref a) (Str.ofString "__len__")) (wpAny_callSpecial?_slot (name := Str.ofString "__len__") d.typeIs PySem.F.slot_dict_len (call_len_raw hS d ?_))
    show wpAny _ _ _ _ _ { s with toks := s.toks + 1 }
    refine wpAny_bind (wpAny_holding (wpAny_pure ?_))
    refine wpAny_bind (wpAny_letGo ?_)
    show wpAny _ _ (if ((arr.size : Nat) : Int) < 0 then _ else _) _ _ _
    rw [if_neg (by omega)]
    show wpAny _ _ (if ((arr.size : Nat) : Int) ≥ 2 ^ 63 then _ else _) _ _ _
    rw [if_neg (by omega)]
    exact wpAny_bind (wpAny_mkInt (wpAny_pure ⟨_, rfl, rfl, rfl⟩))
  refine wpAny_mono body (fun u s' ⟨e1, e2⟩ => ?_) fun _ _ x => x
  subst e1 e2
  have e3 : (arr.toList.length : Int) = (arr.size : Int) := by simp
  rw [e3] at q
  exact ⟨.int arr.size, H, I.tok _, ⟨_, rfl⟩, q⟩
theorem RKv.len {K : PySem.W.Frag} {w : World} {W : Wd} {H : Hp} {kvs : List (PyData × RV)} {es : List DictEntry} {A : List Addr} (h : RKv K w W H kvs es A) : es.length = kvs.length := h.keys.2
theorem call_lenR : CallR X (.builtin "len") (r1 X xr fLen) := by
  intro pins s σ H vs us Q I r ⟨v, E, e, W0, H0, W, st, x, ⟨up, sr, A, rv, fr⟩, h⟩
  subst e
  obtain ⟨u, rfl, ru⟩ := vals1 r
  obtain ⟨n, e1, h⟩ := ofO_good h
  have fin : Q (.int n) H := h.flat up sr (.int _)
  have seq : ∀ a ys, v = .ref a → (SqL X.K H a ys ∨ SqT X.K H a ys) → n = ys.length → wpAny (model X.prog X.w) X.A (call (.builtin "len") [u]) (EP X pins σ Q) X.xe s := fun a ys ev hs hn => by
    subst ev hn
    exact call_len_seq pins s σ H _ _ Q I r ⟨a, ys, rfl, hs, fin⟩
  have dic : ∀ a es, v = .ref a → H a = some (rawO a es) → n = es.length → wpAny (model X.prog X.w) X.A (call (.builtin "len") [u]) (EP X pins σ Q) X.xe s := fun a es ev hs hn => by
    subst ev hn
    obtain rfl := ru
    exact len_dict I hs fin
  have rep : ∀ {F : Addr → Prop} {d : PyData}, Rep X.K X.w F H d v → (match d with | .list xs => some xs.length | .tuple xs => some xs.length | .str s => if s.length ≤ lim then some s.length else none | .dict kvs => some kvs.length | _ => none) = some n → wpAny (model X.prog X.w) X.A (call (.builtin "len") [u]) (EP X pins σ Q) X.xe s := fun {F d} rd e => by
    cases rd with
    | lst _ h1 hs => exact seq _ _ rfl (.inl (SqL.of h1)) (by cases e; exact hs.length)
    | tup h1 hs => exact seq _ _ rfl (.inr h1) (by cases e; exact hs.length)
    | @dct a kvs es _ h1 ko hs =>
      refine dic _ _ rfl h1 ?_
      cases e
      have := (RepKv.rkv (W := ⟨F, [], fun _ => True, fun _ => False⟩) hs).len
      rw [List.length_map] at this
      exact this.symm
    | str z =>
      dsimp only at e
      split at e
      · rename_i hl
        cases e
        exact call_len_str pins s σ H _ _ Q I r ⟨z, rfl, by rw [← lim_eq]; exact hl, fin⟩
      · cases e
    | _ => cases e
  cases rv with
  | dat rd =>
    refine rep rd ?_
    rw [← e1]
    cases rd <;> rfl
  | bor rd =>
    refine rep rd ?_
    rw [← e1]
    cases rd <;> first | rfl | (unfold lenV at e1; cases e1)
  | scr _ => cases e1
  | own h1 hs => exact seq _ _ rfl (.inl (SqL.of h1)) (by cases e1; exact hs.length)
  | odi h1 ko hs => exact dic _ _ rfl h1 (by cases e1; exact hs.len.symm)
  | tpl h1 hs => exact seq _ _ rfl (.inr h1) (by cases e1; exact hs.length)
  | @ref i a hb =>
    unfold lenV at e1
    dsimp only at e1
    split at e1
    · rename_i xs ec
      have c := sr.cells i _ a ec hb
      cases c with
      | lst c1 c2 c3 => exact seq _ _ rfl (.inl (SqL.of c1)) (by cases e1; exact c2.length)
    · rename_i xs ec
      have c := sr.cells i _ a ec hb
      cases c with
      | dct c1 ko c2 c3 => exact dic _ _ rfl c1 (by cases e1; exact c2.len.symm)
    · cases e1
end
end Z

set_option linter.all false
set_option maxRecDepth 100000
set_option maxHeartbeats 1000000
/-! Z17: all, any, tuple, list, int, abs, sum, max of one thing. -/
namespace Z
open PySem PySem.Spec PyProof.Rows L2
section
variable {X : Cx} {xr : XR}
/-- one value, its top seen, its parts known to stay -/
theorem one_solid {pins : List (Addr × Obj)} {s : Shared} {σ : L2.St} {g : PyData → Sto → R RV} {v : V} {H : Hp} {Q : VK} {E : XW} (h : rOne X.K X.w xr (fun x st => (ofO (solid st x) st).bind g) E v H Q) :
    ∃ W0 H0 W st C d, Up W0 H0 W H ∧ SR X.K X.w W H st ∧ Fresh W H0 C ∧ (∀ c ∈ C, ∃ o, H c = some o) ∧ SolT X.K X.w (W.fz C).F H d v ∧ Good X.K X.w xr (g d st) W0 H0 E Q := by
  obtain ⟨W0, H0, W, st, x, ⟨up, sr, A, rv, fr⟩, h⟩ := h
  obtain ⟨d, e1, h⟩ := ofO_good h
  exact ⟨W0, H0, W, st, A, d, up, sr, fr, rv.dom, solid_rep sr rv e1 fun _ m => m, h⟩
def fB1 (f : Str) (x : RV) (st : Sto) : R RV := (ofO (solid st x) st).bind fun d st => ofO (blt1 f d) st
/-! ### the truth of parts -/
theorem truthIn_rep {pins : List (Addr × Obj)} {s : Shared} {σ : L2.St} {H : Hp} {w : World} {F : Addr → Prop} {A : Around} (I : Inv X pins σ H s) : ∀ {ds : List PyData} {vs : List V} {us : List Value} {bs : List Bool}, Reps X.K w F H ds vs → Vals vs us → truths ds = some bs →
    TruthIn X.prog X.w A s.heap (fun i u => us.toArray[i]? = some u) (fun i => bs.getD i false) ∧ bs.length = us.length
  | [], _, _, _, .nil, .nil, e => by
    cases e
    exact ⟨fun i u s' Q E' _ h _ => by simp at h, rfl⟩
  | d :: ds, v :: vs, u :: us, _, .cons h hs, .cons r1 r2, e => by
      rw [truths] at e
      split at e
      · rename_i b bs' e1 e2
        cases e
        obtain ⟨t1, t2⟩ := truthIn_rep I hs r2 e2
        refine ⟨fun i u' s' Q E' hk hi hq => ?_, by simp [t2]⟩
        cases i with
        | succ i =>
          refine t1 i u' s' Q E' hk (by simpa using hi) fun tk htk => ?_
          have := hq tk htk
          simpa using this
        | zero =>
          have hu : u' = u := by simpa using hi.symm
          subst hu
          have hq' : ∀ tk, s'.toks ≤ tk → Q b { s' with toks := tk } := fun tk htk => by simpa using hq tk htk
          have ln := line63
          cases h with
          | non => cases r1; cases e1; exact truthy_none (hq' s'.toks (Nat.le_refl _))
          | bl b => cases r1; cases e1; exact wpAny_truthy_bool (hq' s'.toks (Nat.le_refl _))
          | int i => obtain ⟨t, rfl⟩ := r1; cases e1; exact PySem.P.truthy_int (hq' s'.toks (Nat.le_refl _))
          | str x =>
            obtain ⟨t, rfl⟩ := r1
            have e1' : (if x.length ≤ lim then some ((x.length : Int) != 0) else none) = some b := e1
            split at e1'
            · rename_i hl
              cases e1'
              rw [lim_eq] at hl
              exact PySem.P.truthy_str (by omega) (hq' _ (Nat.le_succ_of_le (Nat.le_succ _)))
            · cases e1'
          | @lst a ds vs _ g1 g2 =>
            cases r1
            cases e1
            obtain ⟨its, rv, pl, hz⟩ := I.list (SqL.of g1)
            obtain ⟨o, ho, hc, n, hd⟩ := pl.isList
            have hl := rv.length
            have hl2 := g2.length
            refine wpAny_truthy_list (items := its.toArray) ⟨o, hk _ _ ho, hc, n, hd⟩ (by rw [List.size_toArray]; omega) ?_
            have e3 : (!its.toArray.isEmpty) = !ds.isEmpty := by
              cases ds <;> cases its <;> simp at * <;> simp_all
            rw [e3]
            exact hq' _ (Nat.le_succ_of_le (Nat.le_succ _))
          | @tup a ds vs g1 g2 =>
            cases r1
            cases e1
            obtain ⟨its, rv, pl, hz⟩ := I.tuple g1
            obtain ⟨o, ho, hc, n, hd⟩ := pl
            have hl := rv.length
            have hl2 := g2.length
            refine truthy_tuple (items := its.toArray) ⟨o, hk _ _ ho, hc, n, hd⟩ (by rw [List.size_toArray]; omega) ?_
            have e3 : (!its.toArray.isEmpty) = !ds.isEmpty := by
              cases ds <;> cases its <;> simp at * <;> simp_all
            rw [e3]
            exact hq' _ (Nat.le_succ_of_le (Nat.le_succ _))
          | dct _ _ _ _ => cases e1
      · cases e
theorem all_ok (hc : X.calm = true) : CallR X (.builtin "all") (r1 X xr (fB1 "all")) := by
  intro pins s σ H vs us Q I r ⟨v, E, e, h⟩
  subst e
  obtain ⟨u, rfl, ru⟩ := vals1 r
  obtain ⟨W0, H0, W, st, C, d, up, sr, fr, dm, sd, gd⟩ := one_solid (pins := pins) (s := s) (σ := σ) (g := fun d st => ofO (blt1 "all" d) st) h
  obtain ⟨res, e1, gd⟩ := ofO_end gd
  cases d with
  | list ds =>
    obtain ⟨bs, e2, rfl⟩ := Option.map_eq_some_iff.mp (show (truths ds).map (fun bs => RV.dat (.bool (bs.all id))) = some res from e1)
    obtain ⟨a, vs, rfl, h1, h2⟩ := sd
    obtain rfl := ru
    obtain ⟨its, rv, pl, hz⟩ := I.list (SqL.of h1)
    obtain ⟨t1, t2⟩ := truthIn_rep (A := X.A.in1) I h2 rv e2
    refine PySem.call_all_walkH (PySem.W.iter_listW (A := X.A.in1) (I.ok.hd hc) pl.isList fun s₂ e W' st' hfp hw hk => ?_)
    refine ⟨_, _, _, _, _, _, _, s.heap, _, rfl, W', st', hw, hk, t1, fun s' m => ?_⟩
    obtain ⟨h', tk, rfl, hk'⟩ := PySem.W.moved_old e rfl m
    refine ⟨.bl (bs.all id), H, I.kept fun b o eo => hk' b o eo, ?_, gd.flat up sr (.bl _)⟩
    show Value.bool _ = Value.bool _
    rw [← L2.all_range, List.size_toArray, t2]
  | _ => cases (show (none : Option RV) = some res from e1)
theorem any_ok (hc : X.calm = true) : CallR X (.builtin "any") (r1 X xr (fB1 "any")) := by
  intro pins s σ H vs us Q I r ⟨v, E, e, h⟩
  subst e
  obtain ⟨u, rfl, ru⟩ := vals1 r
  obtain ⟨W0, H0, W, st, C, d, up, sr, fr, dm, sd, gd⟩ := one_solid (pins := pins) (s := s) (σ := σ) (g := fun d st => ofO (blt1 "any" d) st) h
  obtain ⟨res, e1, gd⟩ := ofO_end gd
  cases d with
  | list ds =>
    obtain ⟨bs, e2, rfl⟩ := Option.map_eq_some_iff.mp (show (truths ds).map (fun bs => RV.dat (.bool (bs.any id))) = some res from e1)
    obtain ⟨a, vs, rfl, h1, h2⟩ := sd
    obtain rfl := ru
    obtain ⟨its, rv, pl, hz⟩ := I.list (SqL.of h1)
    obtain ⟨t1, t2⟩ := truthIn_rep (A := X.A.in1) I h2 rv e2
    refine PySem.call_any_walkH (PySem.W.iter_listW (A := X.A.in1) (I.ok.hd hc) pl.isList fun s₂ e W' st' hfp hw hk => ?_)
    refine ⟨_, _, _, _, _, _, _, s.heap, _, rfl, W', st', hw, hk, t1, fun s' m => ?_⟩
    obtain ⟨h', tk, rfl, hk'⟩ := PySem.W.moved_old e rfl m
    refine ⟨.bl (bs.any id), H, I.kept fun b o eo => hk' b o eo, ?_, gd.flat up sr (.bl _)⟩
    show Value.bool _ = Value.bool _
    rw [← L2.any_range, List.size_toArray, t2]
  | _ => cases (show (none : Option RV) = some res from e1)
theorem tuple_ok : CallR X (.type "tuple") (r1 X xr (fB1 "tuple")) := by
  intro pins s σ H vs us Q I r ⟨v, E, e, h⟩
  subst e
  obtain ⟨W0, H0, W, st, C, d, up, sr, fr, dm, sd, gd⟩ := one_solid (pins := pins) (s := s) (σ := σ) (g := fun d st => ofO (blt1 "tuple" d) st) h
  obtain ⟨res, e1, gd⟩ := ofO_end gd
  obtain ⟨u1, s1⟩ := up.fzC sr fr dm
  cases d with
  | list ds =>
    cases (show some (RV.dat (.tuple ds)) = some res from e1)
    obtain ⟨a, vs, rfl, h1, h2⟩ := sd
    exact call_tuple_of pins s σ H _ us Q I r ⟨a, vs, rfl, .inl ⟨SqL.of h1, fun l hl => gd.newt up sr fr dm h2 hl⟩⟩
  | tuple ds =>
    cases (show some (RV.dat (.tuple ds)) = some res from e1)
    obtain ⟨a, vs, rfl, h1, h2⟩ := sd.tuple
    exact call_tuple_of pins s σ H _ us Q I r ⟨a, vs, rfl, .inr ⟨h1, gd.flat u1 s1 (.tup h1 h2)⟩⟩
  | _ => cases (show (none : Option RV) = some res from e1)
theorem reps_ints {K : PySem.W.Frag} {w : World} {F : Addr → Prop} {H : Hp} : ∀ ns : List Int, Reps K w F H (ns.map PyData.int) (ns.map V.int)
  | [] => .nil
  | i :: r => .cons (.int i) (reps_ints r)
theorem list_ok : CallR X (.type "list") (r1 X xr (blt1V "list")) := by
  intro pins s σ H vs us Q I r ⟨v, E, e, h⟩
  subst e
  have h0 := h
  obtain ⟨W0, H0, W, st, x, ⟨up, sr, A, rv, fr⟩, h⟩ := h
  have main : rOne X.K X.w xr (fB1 "list") E v H Q → wpAny (model X.prog X.w) X.A (call (.type "list") us) (EP X pins σ Q) X.xe s := fun h => by
    obtain ⟨W0, H0, W, st, C, d, up, sr, fr, dm, sd, gd⟩ := one_solid (pins := pins) (s := s) (σ := σ) (g := fun d st => ofO (blt1 "list" d) st) h
    obtain ⟨res, e1, gd⟩ := ofO_end gd
    cases d with
    | list ds =>
      cases (show some (RV.own (ds.map .dat)) = some res from e1)
      obtain ⟨a, vs, rfl, h1, h2⟩ := sd
      exact call_list_of pins s σ H _ us Q I r ⟨a, vs, rfl, .inl (SqL.of h1), fun l hl => gd.newl up sr fr dm h2 hl⟩
    | tuple ds =>
      cases (show some (RV.own (ds.map .dat)) = some res from e1)
      obtain ⟨a, vs, rfl, h1, h2⟩ := sd.tuple
      exact call_list_of pins s σ H _ us Q I r ⟨a, vs, rfl, .inr h1, fun l hl => gd.newl up sr fr dm h2 hl⟩
    | _ => cases (show (none : Option RV) = some res from e1)
  cases rv with
  | @scr a ns hs =>
    have h' : Good X.K X.w xr (.ok (.own (ns.map fun i => .dat (.int i))) st) W0 H0 E Q := h
    have hq : SqL X.K H a (ns.map V.int) := by
      rcases hs with ⟨o, e⟩ | hs
      · exact .inl (.inr ⟨o, e⟩)
      · exact hs H
    refine call_list_of pins s σ H _ us Q I r ⟨a, ns.map V.int, rfl, .inl hq, fun l hl => ?_⟩
    have h2 : Good X.K X.w xr (.ok (.own ((ns.map PyData.int).map .dat)) st) W0 H0 E Q := by rw [List.map_map]; exact h'
    exact h2.newl up sr fr (fun c m => absurd m (by simp)) (reps_ints ns) hl
  | dat rd => exact main ⟨W0, H0, W, st, _, ⟨up, sr, _, .dat rd, fr⟩, h⟩
  | ref rd => exact main ⟨W0, H0, W, st, _, ⟨up, sr, _, .ref rd, fr⟩, h⟩
  | bor rd => exact main ⟨W0, H0, W, st, _, ⟨up, sr, _, .bor rd, fr⟩, h⟩
  | tpl rd h2 => exact main ⟨W0, H0, W, st, _, ⟨up, sr, _, .tpl rd h2, fr⟩, h⟩
  | own rd h2 => exact main ⟨W0, H0, W, st, _, ⟨up, sr, _, .own rd h2, fr⟩, h⟩
  | odi rd ko h2 => exact main ⟨W0, H0, W, st, _, ⟨up, sr, _, .odi rd ko h2, fr⟩, h⟩
theorem int_ok : CallR X (.type "int") (r1 X xr (fB1 "int")) := by
  intro pins s σ H vs us Q I r ⟨v, E, e, h⟩
  subst e
  obtain ⟨W0, H0, W, st, C, d, up, sr, fr, dm, sd, gd⟩ := one_solid (pins := pins) (s := s) (σ := σ) (g := fun d st => ofO (blt1 "int" d) st) h
  obtain ⟨res, e1, gd⟩ := ofO_end gd
  cases d with
  | int i =>
    cases (show some (RV.dat (.int i)) = some res from e1)
    obtain rfl := sd.int
    exact call_int1 pins s σ H _ us Q I r (.inl ⟨_, rfl, gd.flat up sr (.int _)⟩)
  | bool b =>
    cases (show some (RV.dat (.int (if b then 1 else 0))) = some res from e1)
    cases (show Rep X.K X.w _ H (.bool _) v from sd)
    exact call_int1 pins s σ H _ us Q I r (.inr ⟨_, rfl, gd.flat up sr (.int _)⟩)
  | _ => cases (show (none : Option RV) = some res from e1)
theorem abs_ok : CallR X (.builtin "abs") (r1 X xr (fB1 "abs")) := by
  intro pins s σ H vs us Q I r ⟨v, E, e, h⟩
  subst e
  obtain ⟨W0, H0, W, st, C, d, up, sr, fr, dm, sd, gd⟩ := one_solid (pins := pins) (s := s) (σ := σ) (g := fun d st => ofO (blt1 "abs" d) st) h
  obtain ⟨res, e1, gd⟩ := ofO_end gd
  cases d with
  | int i =>
    cases (show some (RV.dat (.int (if i < 0 then -i else i))) = some res from e1)
    obtain rfl := sd.int
    exact call_abs pins s σ H _ us Q I r ⟨_, rfl, gd.flat up sr (.int _)⟩
  | _ => cases (show (none : Option RV) = some res from e1)
theorem ints_vs {K : PySem.W.Frag} {w : World} {F : Addr → Prop} {H : Hp} : ∀ {ds : List PyData} {vs : List V} {is : List Int}, Reps K w F H ds vs → intsD ds = some is → vs = is.map V.int
  | _, _, _, .nil, e => by cases e; rfl
  | .int i :: ds, _, _, .cons h hs, e => by
    rw [intsD] at e
    obtain ⟨is, e1, rfl⟩ := Option.map_eq_some_iff.mp e
    cases h
    rw [List.map_cons, ints_vs hs e1]
  | .none :: _, _, _, _, e => by simp [intsD] at e
  | .bool _ :: _, _, _, _, e => by simp [intsD] at e
  | .str _ :: _, _, _, _, e => by simp [intsD] at e
  | .list _ :: _, _, _, _, e => by simp [intsD] at e
  | .tuple _ :: _, _, _, _, e => by simp [intsD] at e
  | .dict _ :: _, _, _, _, e => by simp [intsD] at e
theorem sum_ok (hc : X.calm = true) : CallR X (.builtin "sum") (r1 X xr (fB1 "sum")) := by
  intro pins s σ H vs us Q I r ⟨v, E, e, h⟩
  subst e
  obtain ⟨W0, H0, W, st, C, d, up, sr, fr, dm, sd, gd⟩ := one_solid (pins := pins) (s := s) (σ := σ) (g := fun d st => ofO (blt1 "sum" d) st) h
  obtain ⟨res, e1, gd⟩ := ofO_end gd
  cases d with
  | list ds =>
    obtain ⟨is, e2, rfl⟩ := Option.map_eq_some_iff.mp (show (intsD ds).map (fun is => RV.dat (.int is.sum)) = some res from e1)
    obtain ⟨a, vs, rfl, h1, h2⟩ := sd
    have e3 := ints_vs h2 e2
    subst e3
    exact cr_sum hc pins s σ H _ us Q I r ⟨a, is, rfl, SqL.of h1, gd.flat up sr (.int _)⟩
  | _ => cases (show (none : Option RV) = some res from e1)
theorem maxL_is : ∀ (is : List Int) (i m : Int), m ∈ i :: is → (∀ y ∈ i :: is, y ≤ m) → maxL is i = m
  | [], i, m, hm, _ => by
    rw [maxL]
    exact (List.mem_singleton.mp hm).symm
  | j :: r, i, m, hm, hy => by
    rw [maxL]
    by_cases h : j > i
    · rw [if_pos h]
      refine maxL_is r j m ?_ fun y h' => hy y (List.mem_cons_of_mem _ h')
      rcases List.mem_cons.mp hm with e | hm
      · have := hy j (by simp)
        omega
      · exact hm
    · rw [if_neg h]
      refine maxL_is r i m ?_ fun y h' => hy y ?_
      · rcases List.mem_cons.mp hm with e | hm
        · exact e ▸ List.mem_cons_self
        · rcases List.mem_cons.mp hm with e | hm
          · have := hy i List.mem_cons_self
            have : m = i := by omega
            exact this ▸ List.mem_cons_self
          · exact List.mem_cons_of_mem _ hm
      · rcases List.mem_cons.mp h' with e | h'
        · exact e ▸ List.mem_cons_self
        · exact List.mem_cons_of_mem _ (List.mem_cons_of_mem _ h')
theorem max_ok (hc : X.calm = true) : CallR X (.builtin "max") (r1 X xr (fB1 "max")) := by
  intro pins s σ H vs us Q I r ⟨v, E, e, h⟩
  subst e
  obtain ⟨W0, H0, W, st, C, d, up, sr, fr, dm, sd, gd⟩ := one_solid (pins := pins) (s := s) (σ := σ) (g := fun d st => ofO (blt1 "max" d) st) h
  obtain ⟨res, e1, gd⟩ := ofO_end gd
  cases d with
  | list ds =>
    cases ds with
    | nil => cases (show (none : Option RV) = some res from e1)
    | cons d0 xs =>
      cases d0 with
      | int i =>
        obtain ⟨is, e2, rfl⟩ := Option.map_eq_some_iff.mp (show (intsD xs).map (fun is => RV.dat (.int (maxL is i))) = some res from e1)
        obtain ⟨a, vs, rfl, h1, h2⟩ := sd
        have e3 := ints_vs (is := i :: is) h2 (by rw [intsD, e2]; rfl)
        subst e3
        refine cr_max hc pins s σ H _ us Q I r ⟨a, i :: is, rfl, SqL.of h1, by simp, fun m hm hy => ?_⟩
        rw [← maxL_is is i m hm hy]
        exact gd.flat up sr (.int _)
      | _ => cases (show (none : Option RV) = some res from e1)
  | _ => cases (show (none : Option RV) = some res from e1)
end
end Z

set_option linter.all false
set_option maxRecDepth 100000
set_option maxHeartbeats 1000000
/-! Z18: isinstance, list(range(..)), max and min of two. -/
namespace Z
open PySem PySem.Spec PyProof.Rows L2
def tyN : PyData → String
  | .none => "NoneType" | .bool _ => "bool" | .int _ => "int" | .str _ => "str" | .list _ => "list" | .tuple _ => "tuple" | .dict _ => "dict"
def tyNames : List String := ["list", "tuple", "int", "bool", "str", "dict"]
def valNames : List String := ["NoneType", "bool", "int", "str", "list", "tuple", "dict"]
def subT (a b : String) : Bool := a == b || (a == "bool" && b == "int")
theorem kit_tab : ∀ a ∈ valNames, ∀ b ∈ tyNames, kitB a b = some (subT a b) := by decide +kernel
theorem tyN_mem (d : PyData) : tyN d ∈ valNames := by cases d <;> simp [tyN, valNames]
theorem typeHas_eq {t : String} (h : t ∈ tyNames) (d : PyData) : typeHas (Str.ofString t) d = some (subT (tyN d) t) := by
  simp only [tyNames, List.mem_cons, List.not_mem_nil, or_false] at h
  rcases h with rfl | rfl | rfl | rfl | rfl | rfl <;> cases d <;> first | rfl | decide +kernel
section
variable {X : Cx} {xr : XR} {E : L2.St → XW}
theorem kit_rv {pins : List (Addr × Obj)} {σ : L2.St} {H : Hp} {s : Shared} {W : Wd} {st : Sto} {x : RV} {v : V} {u : Value} {A : List Addr} {d : PyData} (I : Inv X pins σ H s) (sr : SR X.K X.w W H st) (r : RVr X.K X.w W H x v A) (rx : RelV v u) (e : kindOf st x = some d) :
    ∃ P : Heap → Prop, PySem.W.KitX X.K u (.type (tyN d)) P ∧ P s.heap ∧ u ≠ .builtin "__main__.__loader__#opaque" := by
  have lst : ∀ {a : Addr} {vs : List V}, H a = some (.lst vs) → v = .ref a → ∃ P : Heap → Prop, PySem.W.KitX X.K u (.type "list") P ∧ P s.heap ∧ u ≠ .builtin "__main__.__loader__#opaque" := fun {a vs} h ev => by
    subst ev
    obtain rfl := rx
    obtain ⟨_, _, n, _, h1⟩ := (show ObjOk X.prog X.w H s.heap a (.lst vs) from I.hok a _ h)
    exact ⟨_, PySem.W.kitx_list, ⟨_, h1, rfl⟩, fun z => nomatch z⟩
  have tup : ∀ {a : Addr} {vs : List V}, SqT X.K H a vs → v = .ref a → ∃ P : Heap → Prop, PySem.W.KitX X.K u (.type "tuple") P ∧ P s.heap ∧ u ≠ .builtin "__main__.__loader__#opaque" := fun {a vs} h ev => by
    subst ev
    obtain rfl := rx
    obtain ⟨its, rv, ⟨o, ho, hc, n, hd⟩, hz⟩ := I.tuple h
    exact ⟨_, PySem.W.kitx_tuple, ⟨o, ho, hc⟩, fun z => nomatch z⟩
  have dic : ∀ {a : Addr} {es : List DictEntry}, H a = some (rawO a es) → v = .ref a → ∃ P : Heap → Prop, PySem.W.KitX X.K u (.type "dict") P ∧ P s.heap ∧ u ≠ .builtin "__main__.__loader__#opaque" := fun {a es} h ev => by
    subst ev
    obtain rfl := rx
    obtain ⟨⟨arr, ep, ⟨o, q1, q2, q3⟩, _⟩, _⟩ := raw_of I h
    exact ⟨_, PySem.W.kitx_dict, ⟨o, q1, q2.1⟩, fun z => nomatch z⟩
  have rep : ∀ {F : Addr → Prop} {d : PyData}, Rep X.K X.w F H d v → ∃ P : Heap → Prop, PySem.W.KitX X.K u (.type (tyN d)) P ∧ P s.heap ∧ u ≠ .builtin "__main__.__loader__#opaque" := fun {F d} rd => by
    cases rd with
    | non => cases rx; exact ⟨_, PySem.W.kitx_none, True.intro, fun z => nomatch z⟩
    | bl b => cases rx; exact ⟨_, PySem.W.kitx_bool, True.intro, fun z => nomatch z⟩
    | int i => obtain ⟨t, rfl⟩ := rx; exact ⟨_, PySem.W.kitx_int, True.intro, fun z => nomatch z⟩
    | str i => obtain ⟨t, rfl⟩ := rx; exact ⟨_, PySem.W.kitx_str, True.intro, fun z => nomatch z⟩
    | tup h _ => exact tup h rfl
    | lst _ h _ => exact lst h rfl
    | dct _ h _ _ => exact dic h rfl
  cases r with
  | dat rd => cases e; exact rep rd
  | bor rd => cases e; exact rep rd
  | scr _ => cases e
  | own h _ => cases e; exact lst h rfl
  | odi h _ _ => cases e; exact dic h rfl
  | tpl h _ => cases e; exact tup h rfl
  | @ref i a hb =>
    unfold kindOf at e
    dsimp only at e
    split at e
    · rename_i xs ec
      have c := sr.cells i _ a ec hb
      cases e
      cases c with
      | lst c1 c2 c3 => exact lst c1 rfl
    · rename_i xs ec
      have c := sr.cells i _ a ec hb
      cases e
      cases c with
      | dct c1 ko c2 c3 => exact dic c1 rfl
    · cases e
def fIsi (t : String) (v : RV) (st : Sto) : R RV := (ofO (kindOf st v) st).bind fun d st => .ok (.dat (.bool (subT (tyN d) t))) st
theorem pe_isi1 {a : Expr} {t : String} {p pT pos : Pos} {ev : Expr → Ev → Sto → R RV} (b : Bl X "isinstance" (.builtin "isinstance")) (bT : Bl X (Str.ofString t) (.type t)) (ht : t ∈ tyNames) (ha : PE X a (tEv X.K X.w xr E (ev a))) (hu : unstar a = true) :
    PE X (.Call (.Name "isinstance" p) [a, .Name (Str.ofString t) pT] [] pos) (tEv X.K X.w xr E fun env st => (ev a env st).bind (fIsi t)) := by
  have hT : PE X (.Name (Str.ofString t) pT) (tC (.ty t)) := pe_bltn (v := .ty t) bT.gl bT.mg bT.bt rfl bT.nn bT.db
  have hc : CallR X (.builtin "isinstance") (fun vs H Q => ∃ v E, vs = [v, .ty t] ∧ rOne X.K X.w xr (fIsi t) E v H Q) := by
    intro pins s σ H vs us Q I r ⟨v, E, e, W0, H0, W, st, x, ⟨up, sr, A, rv, fr⟩, h⟩
    subst e
    obtain ⟨u1, u2, rfl, ru1, ru2⟩ := vals2 r
    obtain rfl := ru2
    obtain ⟨d, e1, h⟩ := ofO_good h
    obtain ⟨P, Z, p, hx⟩ := kit_rv I sr rv ru1 e1
    exact PySem.W.kia_one Z I.kIn p (kit_ty (kit_tab _ (tyN_mem d) _ ht)) hx fun tk => ⟨.bl _, H, I.tok tk, rfl, h.flat up sr (.bl _)⟩
  refine PE.imp (pe_callB hc b.gl b.mg b.bt (pa_cons ha (pa_cons hT pa_nil (star_cons rfl)) (star_cons hu)) b.nn b.db (star_cons hu) (by rfl)) fun σ H Q h => ?_
  obtain ⟨W, env, st, F, h⟩ := tEv.one h
  refine ⟨W, env, st, F, ?_⟩
  cases e : ev a env st with
  | err => rw [e] at h; exact h
  | exc c xs st' => rw [e] at h; exact h
  | ok z st' =>
    rw [e] at h
    exact fun W' H' v A u s rv fr => ⟨v, E σ, rfl, h W' H' v A u s rv fr⟩
def fIsi2 (t t2 : String) (v : RV) (st : Sto) : R RV := (ofO (kindOf st v) st).bind fun d st => .ok (.dat (.bool (subT (tyN d) t || subT (tyN d) t2))) st
theorem pe_isi2 {a : Expr} {t t2 : String} {p pT pT2 pTT pos : Pos} {k : Nat} {ev : Expr → Ev → Sto → R RV} (b : Bl X "isinstance" (.builtin "isinstance")) (bT : Bl X (Str.ofString t) (.type t)) (ht : t ∈ tyNames) (bT2 : Bl X (Str.ofString t2) (.type t2)) (ht2 : t2 ∈ tyNames) (ha : PE X a (tEv X.K X.w xr E (ev a))) (hu : unstar a = true) :
    PE X (.Call (.Name "isinstance" p) [a, .Tuple [.Name (Str.ofString t) pT, .Name (Str.ofString t2) pT2] k pTT] [] pos) (tEv X.K X.w xr E fun env st => (ev a env st).bind (fIsi2 t t2)) := by
  have hT : PE X (.Name (Str.ofString t) pT) (tC (.ty t)) := pe_bltn (v := .ty t) bT.gl bT.mg bT.bt rfl bT.nn bT.db
  have hT2 : PE X (.Name (Str.ofString t2) pT2) (tC (.ty t2)) := pe_bltn (v := .ty t2) bT2.gl bT2.mg bT2.bt rfl bT2.nn bT2.db
  have hTT : PE X (.Tuple [.Name (Str.ofString t) pT, .Name (Str.ofString t2) pT2] k pTT) (tTup (tCons (tC (.ty t)) (tCons (tC (.ty t2)) tNil))) := pe_tup (pa_cons hT (pa_cons hT2 pa_nil (star_cons rfl)) (star_cons rfl))
  have hc : CallR X (.builtin "isinstance") (fun vs H Q => ∃ v E q, vs = [v, .ref q] ∧ H q = some (.tup [.ty t, .ty t2]) ∧ rOne X.K X.w xr (fIsi2 t t2) E v H Q) := by
    intro pins s σ H vs us Q I r ⟨v, E, q, e, hq, W0, H0, W, st, x, ⟨up, sr, A, rv, fr⟩, h⟩
    subst e
    obtain ⟨u1, u2, rfl, ru1, ru2⟩ := vals2 r
    obtain rfl := ru2
    obtain ⟨d, e1, h⟩ := ofO_good h
    obtain ⟨P, Z, p, hx⟩ := kit_rv I sr rv ru1 e1
    obtain ⟨_, its, rv', o, h1, h2, n, h3⟩ := (show ObjOk X.prog X.w H s.heap q (.tup [.ty t, .ty t2]) from I.hok q _ hq)
    have e3 : its = [.type t, .type t2] := ClsV.all (cs := [.ty t, .ty t2]) (us := [.type t, .type t2]) (.cons (.ty t) (.cons (.ty t2) .nil)) rv'
    subst e3
    obtain ⟨oc, od, dt, sl⟩ := o
    simp only at h2 h3
    subst h2 h3
    refine PySem.W.kia_tup (b := subT (tyN d) t || subT (tyN d) t2) Z I.kIn p h1 ?_ hx fun tk => ⟨.bl _, H, I.tok tk, rfl, h.flat up sr (.bl _)⟩
    refine kitAny_cons (kit_ty (kit_tab _ (tyN_mem d) _ ht)) (fun e => ?_) fun e => by rw [e]; rfl
    refine kitAny_cons (kit_ty (kit_tab _ (tyN_mem d) _ ht2)) (fun e2 => ?_) fun e2 => by rw [e2, Bool.or_true]
    rw [e, e2]
    rfl
  refine PE.imp (pe_callB hc b.gl b.mg b.bt (pa_cons ha (pa_cons hTT pa_nil (star_cons rfl)) (star_cons hu)) b.nn b.db (star_cons hu) (by rfl)) fun σ H Q h => ?_
  obtain ⟨W, env, st, F, h⟩ := tEv.one h
  refine ⟨W, env, st, F, ?_⟩
  have nxt : ∀ (v : V) (H1 : Hp), rOne X.K X.w xr (fIsi2 t t2) (E σ) v H1 Q → tTup (tCons (tC (.ty t)) (tCons (tC (.ty t2)) tNil)) σ H1 fun y H2 => ∃ v' E q, [v, y] = [v', .ref q] ∧ H2 q = some (.tup [.ty t, .ty t2]) ∧ rOne X.K X.w xr (fIsi2 t t2) E v' H2 Q := fun v H1 ⟨W0, H0, W, st, x, ⟨up, sr, A, rv, fr⟩, h⟩ => by
    refine ⟨by show 2 ≤ sizeLine; rw [sizeLine_eq]; omega, fun p hp => ⟨v, E σ, p, rfl, upd_same, W0, H0, W, st, x, ⟨up.new hp, sr.new hp, A, ?_, fr⟩, h⟩⟩
    exact rv.up (Up.refl.new hp) sr fun a m => (fr.no a m).2.1
  cases e : ev a env st with
  | err => rw [e] at h; exact h
  | exc c xs st' => rw [e] at h; exact h
  | ok z st' =>
    rw [e] at h
    exact fun W' H' v A u s rv fr => nxt v H' (h W' H' v A u s rv fr)
/-! ### list(range(b)) -/
theorem rangeL_ok {j : Int} {xs : List RV} (h : rangeL 0 j 1 = some xs) : RgOk 0 j ∧ xs = ((List.range (j - 0).toNat).map fun i => PyData.int (0 + (i : Nat))).map .dat := by
  unfold rangeL at h
  rw [if_neg (by decide)] at h
  simp only [show (0 : Int) < 1 by decide, if_true] at h
  split at h
  · rename_i hc
    cases h
    obtain ⟨h1, h2, h3, h4⟩ := hc
    have e1 : ((j - 0 + 1 - 1) / 1).toNat = (j - 0).toNat := by omega
    rw [e1] at h4 ⊢
    refine ⟨⟨by omega, by omega, by omega, by omega, by unfold lim at h4; omega⟩, ?_⟩
    rw [List.map_map]
    refine List.map_congr_left fun i _ => ?_
    simp
  · cases h
theorem reps_rg {K : PySem.W.Frag} {w : World} {F : Addr → Prop} {H : Hp} (a : Int) : ∀ l : List Nat, Reps K w F H (l.map fun i => PyData.int (a + (i : Nat))) (l.map fun i => V.int (a + (i : Nat)))
  | [] => .nil
  | i :: r => .cons (.int _) (reps_rg a r)
theorem pe_listRange {b : Expr} {p p2 pos pos2 : Pos} {ev : Expr → Ev → Sto → R RV} (hc : X.calm = true) (bL : Bl X "list" (.type "list")) (bR : Bl X "range" (.type "range")) (hb : PE X b (tEv X.K X.w xr E (ev b))) (hu : unstar b = true) :
    PE X (.Call (.Name "list" p) [.Call (.Name "range" p2) [b] [] pos2] [] pos) (tEv X.K X.w xr E fun env st => (evV ev b env st).bind fun d st => match d with | .int j => (ofO (rangeL 0 j 1) st).bind fun xs st => .ok (.own xs) st | _ => .err) := by
  refine PE.imp (pe_listRg hc bL.gl bL.mg (prg_1 bR.gl bR.mg hb (star_cons hu)) (star_cons rfl)) fun σ H Q ⟨W, env, st, F, h⟩ => ⟨W, env, st, F, ?_⟩
  have h' : Good X.K X.w xr (((ev b env st).bind fun v st => ofO (vw st v) st).bind fun d st => match d with | .int j => (ofO (rangeL 0 j 1) st).bind fun xs st => .ok (.own xs) st | _ => .err) W H (E σ) Q := h
  rw [R.bind_assoc] at h'
  refine Good.then h' Up.refl fun x st2 W2 H2 v A q2 u2 s2 r2 f2 => ?_
  obtain ⟨d, e1, q2⟩ := ofO_good q2
  have rd := vw_rep s2 r2 e1
  cases rd with
  | int j =>
    obtain ⟨xs, e2, q3⟩ := ofO_good (show Good X.K X.w xr ((ofO (rangeL 0 j 1) st2).bind fun xs st => .ok (.own xs) st) W H (E σ) Q from q2)
    obtain ⟨ok, rfl⟩ := rangeL_ok e2
    exact ⟨j, rfl, ok, fun q hq => q3.newl u2 s2 f2 r2.dom (reps_rg 0 _) hq⟩
  | _ => exact q2.elim
/-! ### two arguments -/
theorem Good.mono {K : PySem.W.Frag} {w : World} {xr : XR} {r : R RV} {W : Wd} {H : Hp} {E : XW} {Q Q' : VK} (h : Good K w xr r W H E Q) (k : ∀ v H', Q v H' → Q' v H') : Good K w xr r W H E Q' := by
  cases r with
  | ok x st' => exact fun W' H' v A u s rv fr => k _ _ (h W' H' v A u s rv fr)
  | exc c xs st' => exact h
  | err => exact h
def r2' (X : Cx) (xr : XR) (f : RV → RV → Sto → R RV) : List V → Hp → VK → Prop := fun vs H Q => ∃ v u, vs = [v, u] ∧ rTwo X.K X.w xr f v u H Q
theorem pe_b2 {id : String} {x : Str} {a b : Expr} {p pos : Pos} {f : RV → RV → Sto → R RV} {ev : Expr → Ev → Sto → R RV} (bl : Bl X x (.builtin id)) (hc : CallR X (.builtin id) (r2' X xr f)) (ha : PE X a (tEv X.K X.w xr E (ev a))) (hb : PE X b (tEv X.K X.w xr E (ev b))) (hu : unstar a = true) (hu2 : unstar b = true) :
    PE X (.Call (.Name x p) [a, b] [] pos) (tEv X.K X.w xr E fun env st => (ev a env st).bind fun x st => (ev b env st).bind fun y st => f x y st) := by
  refine PE.imp (pe_callB hc bl.gl bl.mg bl.bt (pa_cons ha (pa_cons hb pa_nil (star_cons hu2)) (star_cons hu)) bl.nn bl.db (star_cons hu) (by rw [star_cons hu2]; rfl)) fun σ H Q h => ?_
  have t := tEv.two h
  obtain ⟨W, env, st, F, h⟩ := t
  refine ⟨W, env, st, F, ?_⟩
  refine Good.mono h fun v H1 ⟨W1, env1, st1, F1, h1⟩ => ⟨W1, env1, st1, F1, Good.mono h1 fun u H2 h2 => ⟨v, u, rfl, h2⟩⟩
def fB2 (f : Str) (v u : RV) (st : Sto) : R RV := (ofO (vw st v) st).bind fun x st => (ofO (vw st u) st).bind fun y st => ofO (blt2 f x y) st
theorem max2_ok (hc : X.calm = true) : CallR X (.builtin "max") (r2' X xr (fB2 "max")) := by
  intro pins s σ H vs us Q I r ⟨v, u, e, h⟩
  subst e
  obtain ⟨W0, H0, W, st, E, a, b, up, sr, ra, rb, g⟩ := two_now (g := fun x y st => ofO (blt2 "max" x y) st) h
  obtain ⟨res, e1, g⟩ := ofO_end g
  cases ra with
  | int i =>
    cases rb with
    | int j =>
      cases (show some (RV.dat (.int (if j > i then j else i))) = some res from e1)
      exact call_max2 hc pins s σ H _ us Q I r ⟨i, j, rfl, g.flat up sr (.int _)⟩
    | _ => cases (show (none : Option RV) = some res from e1)
  | _ => cases (show (none : Option RV) = some res from e1)
theorem min2_ok (hc : X.calm = true) : CallR X (.builtin "min") (r2' X xr (fB2 "min")) := by
  intro pins s σ H vs us Q I r ⟨v, u, e, h⟩
  subst e
  obtain ⟨W0, H0, W, st, E, a, b, up, sr, ra, rb, g⟩ := two_now (g := fun x y st => ofO (blt2 "min" x y) st) h
  obtain ⟨res, e1, g⟩ := ofO_end g
  cases ra with
  | int i =>
    cases rb with
    | int j =>
      cases (show some (RV.dat (.int (if j < i then j else i))) = some res from e1)
      exact call_min2 hc pins s σ H _ us Q I r ⟨i, j, rfl, g.flat up sr (.int _)⟩
    | _ => cases (show (none : Option RV) = some res from e1)
  | _ => cases (show (none : Option RV) = some res from e1)
end
end Z

set_option linter.all false
set_option maxRecDepth 100000
set_option maxHeartbeats 1000000
namespace Z
open PySem PySem.Spec PyProof.Rows L2
/-- a def of plain parameters -/
structure PlainP (fd : FuncData) (ps : List Str) : Prop where
  po : fd.params.posonlyargs = []
  ar : fd.params.args.map (·.arg) = ps
  ko : fd.params.kwonlyargs = []
  va : fd.params.vararg = none
  kw : fd.params.kwarg = none
  de : fd.defaults = .none
  nd : ps.Nodup
theorem zip_lookup {β : Type} : ∀ {ps : List Str} {us : List β}, ps.Nodup → us.length = ps.length → ps.filterMap (fun n => ((ps.zip us).lookup n).map (n, ·)) = ps.zip us := by
  intro ps us nd hl
  have key : ∀ (qs : List Str) (vs : List β) (l : List (Str × β)), qs.Nodup → vs.length = qs.length → (∀ n ∈ qs, l.lookup n = none) → qs.filterMap (fun n => ((l ++ qs.zip vs).lookup n).map (n, ·)) = qs.zip vs := by
    intro qs
    induction qs with
    | nil => intro vs l _ _ _; rfl
    | cons q qs ih =>
      intro vs l nd hl hn
      cases vs with
      | nil => simp at hl
      | cons v vs =>
        rw [List.nodup_cons] at nd
        have e1 : (l ++ (q :: qs).zip (v :: vs)).lookup q = some v := by
          rw [List.lookup_append, hn q List.mem_cons_self]
          simp [List.zip_cons_cons, List.lookup_cons]
        rw [List.filterMap_cons, e1]
        dsimp only [Option.map]
        rw [List.zip_cons_cons]
        congr 1
        have := ih vs (l ++ [(q, v)]) nd.2 (by simpa using hl) fun n m => by
          rw [List.lookup_append, hn n (List.mem_cons_of_mem _ m)]
          have : (n == q) = false := by
            rw [beq_eq_false_iff_ne]
            intro e
            exact nd.1 (e ▸ m)
          simp [List.lookup_cons, this]
        refine Eq.trans ?_ this
        rw [List.append_assoc]
        rfl
  simpa using key ps us [] nd hl fun _ _ => rfl
theorem look_zip {β : Type} {ps : List Str} {us : List β} (nd : ps.Nodup) (hl : us.length = ps.length) : ∀ n ∈ ps, ((ps.zip us).lookup n).isNone = false := by
  intro n hn
  cases e : (ps.zip us).lookup n with
  | some v => rfl
  | none =>
    have h := zip_lookup nd hl
    have h2 : (ps.filterMap (fun n => ((ps.zip us).lookup n).map (n, ·))).length = ps.length := by rw [h, List.length_zip, hl, Nat.min_self]
    have h3 : ∀ (l : List Str) (f : Str → Option (Str × β)), n ∈ l → f n = none → (l.filterMap f).length < l.length := by
      intro l f
      induction l with
      | nil => intro h; cases h
      | cons a l ih =>
        intro hm hf
        have hle := List.length_filterMap_le f l
        rcases List.mem_cons.mp hm with e | hm
        · subst e
          rw [List.filterMap_cons, hf, List.length_cons]
          dsimp only
          omega
        · have := ih hm hf
          rw [List.filterMap_cons, List.length_cons]
          split
          · omega
          · rw [List.length_cons]; omega
    have := h3 ps (fun n => ((ps.zip us).lookup n).map (n, ·)) hn (by rw [e]; rfl)
    omega
theorem pbind {α β : Type} (a : α) (f : α → Sem β) : (pure a >>= f) = f a := rfl
theorem bind_pos {fd : FuncData} {ps : List Str} (P : PlainP fd ps) {us : List Value} (hl : us.length = ps.length) : bindArgs fd ⟨us, []⟩ = pure (ps.zip us) := by
  have e0 : (ps.filter fun n => ((ps.zip us).lookup n).isNone) = [] := by
    rw [List.filter_eq_nil_iff]
    intro n hn
    rw [look_zip P.nd hl n hn]
    simp
  unfold bindArgs
  simp only [P.po, P.ar, P.ko, P.va, P.kw, P.de, List.map_nil, List.nil_append, List.append_nil, List.forIn_nil]
  rw [pbind]
  rw [show seqItems? Value.none = pure none from rfl, pbind]
  simp only [hl, Nat.lt_irrefl, decide_false, Bool.false_and, Bool.false_eq_true, if_false, Option.getD_none, Array.toList, List.length_nil, List.drop_nil, Nat.sub_zero, List.take_length, e0, List.isEmpty_nil, Bool.not_true, gt_iff_lt, List.drop_length, List.zip_nil_left, List.zip_nil_right, List.forIn_nil, pbind, zip_lookup P.nd hl]
/-! ### keywords alone -/
def kwAt {β : Type} (kws : List (Str × β)) (ps : List Str) : List (Str × β) := ps.filterMap fun n => (kws.lookup n).map (n, ·)
theorem kw_loop {ps : List Str} {f : (Str × Value) → (List (Str × Value) × List (Str × Value)) → Sem (ForInStep (List (Str × Value) × List (Str × Value)))} (hf : ∀ x s, ps.contains x.1 = true → (s.1.lookup x.1).isSome = false → f x s = pure (.yield (s.1 ++ [(x.1, x.2)], s.2))) : ∀ (kws l : List (Str × Value)), (∀ p ∈ kws, p.1 ∈ ps) → ((l ++ kws).map (·.1)).Nodup →
    forIn kws (l, ([] : List (Str × Value))) f = pure (l ++ kws, [])
  | [], l, _, _ => by rw [List.forIn_nil, List.append_nil]
  | (k, v) :: r, l, hp, hn => by
    have hk : ps.contains k = true := List.contains_iff_mem.mpr (hp _ List.mem_cons_self)
    have hl : (l.lookup k).isSome = false := by
      cases e : l.lookup k with
      | none => rfl
      | some u =>
        have hm : k ∈ l.map (·.1) := by
          obtain ⟨l1, l2, h1, h2⟩ := List.lookup_eq_some_iff.mp e
          rw [h1]
          simp
        rw [List.map_append, List.nodup_append] at hn
        exact absurd rfl (hn.2.2 k hm k (by simp))
    rw [List.forIn_cons, hf _ _ hk hl, pbind]
    dsimp only
    rw [kw_loop hf r (l ++ [(k, v)]) (fun p m => hp p (List.mem_cons_of_mem _ m)) (by simpa using hn)]
    simp
theorem bind_kw {fd : FuncData} {ps : List Str} (P : PlainP fd ps) {kws : List (Str × Value)} (hp : ∀ p ∈ kws, p.1 ∈ ps) (hn : (kws.map (·.1)).Nodup) (ha : ∀ n ∈ ps, (kws.lookup n).isNone = false) : bindArgs fd ⟨[], kws⟩ = pure (kwAt kws ps) := by
  have e0 : (ps.filter fun n => (kws.lookup n).isNone) = [] := by
    rw [List.filter_eq_nil_iff]
    intro n hn
    rw [ha n hn]
    simp
  unfold bindArgs
  simp only [P.po, P.ar, P.ko, P.va, P.kw, P.de, List.map_nil, List.nil_append, List.append_nil, List.zip_nil_right, List.contains_nil, Bool.or_false]
  rw [kw_loop (ps := ps) (fun x s h1 h2 => by rw [if_pos h1, if_neg (by rw [h2]; exact Bool.false_ne_true)]) kws [] hp (by simpa using hn)]
  rw [pbind]
  rw [show seqItems? Value.none = pure none from rfl, pbind]
  simp only [List.length_nil, Nat.not_lt_zero, decide_false, Bool.false_and, Bool.false_eq_true, if_false, Option.getD_none, Array.toList, List.length_nil, List.drop_nil, Nat.sub_zero, List.take_length, e0, List.isEmpty_nil, Bool.not_true, gt_iff_lt, List.drop_length, List.zip_nil_left, List.zip_nil_right, List.forIn_nil, pbind, List.nil_append, e0]
  rfl
end Z

set_option linter.all false
set_option maxRecDepth 100000
set_option maxHeartbeats 1000000
/-! Z20: calls of own defs. -/
namespace Z
open PySem PySem.Spec PyProof.Rows L2
/-- a def, as its callers see it -/
structure DefX (X : Cx) (xr : XR) (C : Str → List RV → Sto → R RV) (f : Str) (ps : List Str) : Prop where
  ex : ∃ k a fd, FnOk X.prog X.w X.K X.mg X.base (L2.CX X.prog X.w) k a fd ps (spC X.K X.w xr ps.length (C f)) ∧ Room k X.A ∧ X.mg f = some (.ref a) ∧ PySem.W.keepIn X.K (.ref a) = true ∧ PlainP fd ps
  db : (f == ("__debug__" : Str)) = false
theorem binds_pos {K : PySem.W.Frag} {fd : FuncData} {ps : List Str} (P : PlainP fd ps) : Binds K fd ps [] := .all fun us h => bind_pos P h
section
variable {X : Cx} {xr : XR} {E : L2.St → XW} {C : Str → List RV → Sto → R RV}
/-- f() -/
theorem pe_callS0 {CX : CXT} {k : Nat} {f : Addr} {fd : FuncData} {ps : List Str} {sp : Sp} {x : Str} {p pos : Pos} (F : FnOk X.prog X.w X.K X.mg X.base CX k f fd ps sp) (hr : Room k X.A) (hg : Gl X x) (hm : X.mg x = some (.ref f)) (hk : PySem.W.keepIn X.K (.ref f) = true) (hb : Binds X.K fd ps []) (hx : ∀ σ, PassesAt CX X σ (E σ)) (hdb : (x == ("__debug__" : Str)) = false) :
    PE X (.Call (.Name x p) [] [] pos) (fun σ H Q => sp [] H Q (E σ)) := by
  refine ⟨fun pins s σ H Q I h => ?_⟩
  refine wpAny_Call_Name_kw (ld_glob I hg hm ?_ hdb)
  exact PySem.W.callWith_K0 I.kIn hk (run_fnS F hr hb (hx σ) I .nil h)
theorem callR_ok {f : Str} {n : Nat} {xs : List RV} {vs : List V} {W0 W : Wd} {H0 H : Hp} {st : Sto} {E : XW} {Q : VK} (s : SR X.K X.w W H st) (r : RVs X.K X.w W H xs vs []) (u : Up W0 H0 W H) (h : Good X.K X.w xr (if xs.length = n then callR C f xs st else .err) W0 H0 E Q) :
    spC X.K X.w xr n (C f) vs H Q E := by
  split at h
  · rename_i hl
    exact call_ok s r (r.length.symm.trans hl) u h
  · exact h.elim
theorem pe_def {ev : Expr → Ev → Sto → R RV} {f : Str} {ps : List Str} {es : List Expr} {p pos : Pos} (D : DefX X xr C f ps) (hg : Gl X f) (hx : ∀ σ, PassesAt (L2.CX X.prog X.w) X σ (E σ)) (ha : ∀ e ∈ es, PE X e (tEv X.K X.w xr E (ev e))) (hu : ∀ e ∈ es, unstar e = true)
    (hpl : (backTo pos (starEach es.tail X.env)).any (·.1) = false) :
    PE X (.Call (.Name f p) es [] pos) (tEv X.K X.w xr E fun env st => (evK ev es env st).bind fun vs st => if vs.length = ps.length then callR C f vs st else .err) := by
  obtain ⟨k, a, fd, F, hr, hm, hk, P⟩ := D.ex
  have pa := pa_evL ha hu
  cases es with
  | nil =>
    refine PE.imp (pe_callS0 F hr hg hm hk (binds_pos P) hx D.db) fun σ H Q ⟨W, env, st, FRm, h⟩ => ?_
    exact callR_ok FRm.sr .nil Up.refl h
  | cons e es =>
    refine PE.imp (pe_callS F hr hg hm hk (binds_pos P) hx pa D.db (star_cons (hu e List.mem_cons_self)) hpl) fun σ H Q ⟨W, env, st, FRm, h⟩ => ⟨W, env, st, FRm, ?_⟩
    exact evK_then h Up.refl fun ys st2 W2 H2 vs hy q2 u2 s2 r2 => callR_ok s2 r2 u2 q2
/-! ### keywords -/
theorem pk_evL {ev : Expr → Ev → Sto → R RV} : ∀ {ks : List Keyword}, (∀ e ∈ kwExprs ks, PE X e (tEv X.K X.w xr E (ev e))) → PK X ks (tL X.K X.w xr E (evL ev (kwExprs ks)))
  | [], _ => ⟨fun pos pins s σ H Q I ⟨W, env, st, F, h⟩ => pk_nil.run pos pins s σ H Q I (h W H [] [] Up.refl F.sr .nil Fresh.nil)⟩
  | ⟨nm, e, kp⟩ :: r, h => by
    have p := pk_cons (nm := nm) (kpos := kp) (h e (by simp [kwExprs])) (pk_evL (ks := r) fun x hx => h x (by simp only [kwExprs, List.map_cons]; exact List.mem_cons_of_mem _ hx))
    refine ⟨fun pos pins s σ H Q I ⟨W, env, st, F, q⟩ => p.run pos pins s σ H Q I ⟨W, env, st, F, ?_⟩⟩
    have q' : GoodL X.K X.w xr ((ev e env st).bind fun v st => (evL ev (kwExprs r) env st).bind fun vs st => .ok (v :: vs) st) W H (E σ) Q := q
    refine GoodL.then q' Up.refl fun x st2 W2 H2 v A q2 u2 s2 r2 f2 => ⟨W2, env, st2, F.up u2 s2, ?_⟩
    refine GoodL.thenL q2 u2 fun xs st3 W3 H3 vs B q3 u3 s3 r3 f3 => ?_
    exact q3 W3 H3 (v :: vs) (A ++ B) (u2.trans u3) s3 (.cons (r2.up u3 s2 fun a m => (f2.no a m).2.1) r3) (f2.both r2.dom u2 u3 f3)
theorem seq_beq (a b : Str) : seq' a b = (b == a) := by
  cases h : seq' a b with
  | true =>
    rw [seq_eq h]
    simp
  | false =>
    symm
    rw [beq_eq_false_iff_ne]
    intro e
    subst e
    unfold seq' at h
    simp at h
theorem kwGet_lookup (kws : List (Str × RV)) (x : Str) : kwGet kws x = kws.lookup x := by
  induction kws with
  | nil => rfl
  | cons p r ih =>
    obtain ⟨n, v⟩ := p
    rw [kwGet, List.lookup_cons, seq_beq, ih]
    cases x == n <;> rfl
theorem kw_at {W : Wd} {H : Hp} {x : Str} : ∀ {ns : List Str} {xs : List RV} {vs : List V} {us : List Value} {A : List Addr} {y : RV}, RVs X.K X.w W H xs vs A → A = [] → Vals vs us → (ns.zip xs).lookup x = some y → ∃ v u, (ns.zip us).lookup x = some u ∧ RelV v u ∧ RVr X.K X.w W H y v []
  | [], _, _, _, _, _, _, _, _, e => by simp at e
  | _ :: _, _, _, _, _, _, .nil, _, _, e => by simp at e
  | n :: ns, x0 :: xs, v0 :: vs, u0 :: us, _, y, .cons (A := A1) (B := A2) h hs, z, .cons r rs, e => by
    obtain ⟨z1, z2⟩ := List.append_eq_nil_iff.mp z
    rw [List.zip_cons_cons, List.lookup_cons] at e
    rw [List.zip_cons_cons, List.lookup_cons]
    cases q : x == n with
    | true =>
      rw [q] at e
      cases e
      subst z1
      exact ⟨v0, u0, rfl, r, h⟩
    | false =>
      rw [q] at e
      exact kw_at hs z2 rs e
theorem kw_all {W : Wd} {H : Hp} {ns : List Str} {xs : List RV} {vs : List V} {us : List Value} (r : RVs X.K X.w W H xs vs []) (rv : Vals vs us) : ∀ {ps : List Str} {ys : List RV}, reorder (ns.zip xs) ps = some ys →
    ∃ vs' us', kwAt (ns.zip us) ps = ps.zip us' ∧ us'.length = ps.length ∧ Vals vs' us' ∧ RVs X.K X.w W H ys vs' [] ∧ ∀ n ∈ ps, ((ns.zip us).lookup n).isNone = false
  | [], _, e => by
    cases e
    exact ⟨[], [], rfl, rfl, .nil, .nil, fun _ m => by cases m⟩
  | p :: ps, _, e => by
    rw [reorder] at e
    split at e
    · rename_i y ys e1 e2
      cases e
      rw [kwGet_lookup] at e1
      obtain ⟨v, u, h1, h2, h3⟩ := kw_at r rfl rv e1
      obtain ⟨vs', us', g1, g2, g3, g4, g5⟩ := kw_all r rv e2
      refine ⟨v :: vs', u :: us', ?_, by simp [g2], .cons h2 g3, .cons (A := []) (B := []) h3 g4, fun n m => ?_⟩
      · unfold kwAt at g1 ⊢
        rw [List.filterMap_cons, h1]
        rw [List.zip_cons_cons, ← g1]
        rfl
      · rcases List.mem_cons.mp m with rfl | m
        · rw [h1]
          rfl
        · exact g5 n m
    · cases e
theorem zip_fst_sub {α β : Type} : ∀ (l : List α) (m : List β), ((l.zip m).map (·.1)).Sublist l
  | [], _ => by simp
  | _ :: _, [] => by simp
  | a :: l, b :: m => by
    rw [List.zip_cons_cons, List.map_cons]
    exact (zip_fst_sub l m).cons₂ a
theorem pe_defK {ev : Expr → Ev → Sto → R RV} {f : Str} {ps ns : List Str} {ks : List Keyword} {p pos : Pos} (D : DefX X xr C f ps) (hg : Gl X f) (hx : ∀ σ, PassesAt (L2.CX X.prog X.w) X σ (E σ)) (ha : ∀ e ∈ kwExprs ks, PE X e (tEv X.K X.w xr E (ev e)))
    (hns : kwNames ks = some ns) (hall : (backToKw pos (keywordEach ks X.env)).all (·.1.isSome) = true) (hks : (backToKw pos (keywordEach ks X.env)).filterMap (·.1) = ns) (hpl : ((backTo pos (starEach [] X.env)).any (·.1) || (backToKw pos (keywordEach ks X.env)).any (·.1.isNone)) = false) (hnd : ns.Nodup) (hsub : ∀ n ∈ ns, n ∈ ps) :
    PE X (.Call (.Name f p) [] ks pos) (tEv X.K X.w xr E fun env st => (evK ev (kwExprs ks) env st).bind fun vs st => if vs.length = ps.length then (ofO (reorder (ns.zip vs) ps) st).bind fun vs st => callR C f vs st else .err) := by
  obtain ⟨k, a, fd, F, hr, hm, hk, P⟩ := D.ex
  have pk := pk_evL (ks := ks) ha
  refine ⟨fun pins s σ H Q I ⟨W, env, st, FRm, h⟩ => ?_⟩
  refine wpAny_Call_Name_kw (ld_glob I hg hm ?_ D.db)
  refine PySem.W.callWith_KW0 (h₀ := X.base) I.ok.mod.kin hk hall ?_ hpl
  let Q' : List V → Hp → Prop := fun vs H2 => ∃ W2 st2 ys xs', SR X.K X.w W2 H2 st2 ∧ RVs X.K X.w W2 H2 ys vs [] ∧ ys.length = ps.length ∧ reorder (ns.zip ys) ps = some xs' ∧ Up W H W2 H2 ∧ Good X.K X.w xr (callR C f xs' st2) W H (E σ) Q
  refine thn (pk.run pos pins s σ H Q' I ⟨W, env, st, FRm, ?_⟩) fun us s2 ⟨vs, H2, I2, rv, q⟩ => ⟨I2.kIn, ?_⟩
  · refine evK_then (f := fun vs st => if vs.length = ps.length then (ofO (reorder (ns.zip vs) ps) st).bind fun vs st => callR C f vs st else .err) h Up.refl fun ys st2 W2 H2 vs hy q2 u2 s2 r2 => ?_
    split at q2
    · rename_i hl
      obtain ⟨xs', e1, q2⟩ := ofO_good q2
      exact ⟨W2, st2, ys, xs', s2, r2, hl, e1, u2, q2⟩
    · exact q2.elim
  · obtain ⟨W2, st2, ys, xs', s2', r2, hl, e1, u2, g⟩ := q
    obtain ⟨vs', us', g1, g2, g3, g4, g5⟩ := kw_all r2 rv e1
    have hul : us.length = ps.length := by rw [← rv.length, ← r2.length, hl]
    have hcall := call_ok s2' g4 (by rw [g3.length, g2]) u2 g
    rw [hks]
    have hz : ∀ q ∈ ns.zip us, q.1 ∈ ps := fun q m => hsub _ (List.of_mem_zip m).1
    have hz2 : ((ns.zip us).map (·.1)).Nodup := (zip_fst_sub ns us).nodup hnd
    have b : BindsTo s2 fd ⟨[], ns.zip us⟩ (ps.zip us') := .of_eq (by rw [bind_kw P hz hz2 g5, g1])
    refine wpAny_call (codeAny_mono (F.run X.A X.stack s2 H2 ⟨[], ns.zip us⟩ us' vs' Q (E σ) hr I2.env0 b g3 hcall) fun r s' hq => ?_)
    cases r with
    | error e => exact hx σ pins H2 s2 e s' I2 hq
    | ok fl =>
      cases fl with
      | ret u => exact I2.after hq
      | next => exact False.elim hq
      | brk => exact False.elim hq
      | cont => exact False.elim hq
end
end Z

set_option linter.all false
set_option maxRecDepth 100000
set_option maxHeartbeats 1000000
/-! Z21: lists and dicts that are laid in the store. -/
namespace Z
open PySem PySem.Spec PyProof.Rows L2
section
variable {K : PySem.W.Frag} {w : World} {xr : XR} {W W0 W1 W' : Wd} {H H0 H1 H' : Hp} {st st1 : Sto}
/-- data, a thing of the store -/
def flat0 : RV → Prop
  | .dat _ => True
  | .ref _ => True
  | _ => False
theorem RVr.keepF (k : Keep K W.F H W'.F H') (b : W.β <+: W'.β) {x : RV} {v : V} {A : List Addr} (r : RVr K w W H x v A) (f : flat0 x) : RVr K w W' H' x v A := by
  cases r with
  | dat h => exact .dat (h.keep k)
  | ref h => exact .ref (pre_mem b h)
  | _ => exact f.elim
theorem RVs.keepF (k : Keep K W.F H W'.F H') (b : W.β <+: W'.β) : ∀ {x : List RV} {v : List V} {A : List Addr}, RVs K w W H x v A → (∀ y ∈ x, flat0 y) → RVs K w W' H' x v A
  | _, _, _, .nil, _ => .nil
  | _, _, _, .cons h hs, f => .cons (h.keepF k b (f _ List.mem_cons_self)) (hs.keepF k b fun y m => f y (List.mem_cons_of_mem _ m))
theorem RKv.keepF (k : Keep K W.F H W'.F H') (b : W.β <+: W'.β) : ∀ {x : List (PyData × RV)} {v : List DictEntry} {A : List Addr}, RKv K w W H x v A → (∀ y ∈ x, flat0 y.2) → RKv K w W' H' x v A
  | _, _, _, .nil, _ => .nil
  | _, _, _, .cons a l c d e h g hs, f => .cons a l c (d.keep k) e (h.keepF k b (f _ List.mem_cons_self)) g (hs.keepF k b fun y m => f y (List.mem_cons_of_mem _ m))
theorem flatC_0 {i : Nat} {x : RV} (h : flatC i x) : flat0 x := by cases x <;> first | trivial | exact h
theorem CellR.keepF (k : Keep K W.F H W'.F H') (b : W.β <+: W'.β) {i : Nat} {a : Addr} {c : Cell} (h : CellR K w W H i a c) (e : H' a = H a) : CellR K w W' H' i a c := by
  cases h with
  | lst h hs f => exact .lst (e.trans h) (hs.keepF k b fun y m => flatC_0 (f y m)) f
  | dct h ko hs f => exact .dct (e.trans h) ko (hs.keepF k b fun y m => flatC_0 (f y m)) f
def Wd.push (W : Wd) (a : Addr) : Wd := { W with β := W.β ++ [a] }
theorem SR.push (s : SR K w W H st) {a : Addr} {c : Cell} (nb : a ∉ W.β) (nf : ¬ W.F a) (hc : CellR K w W H st.length a c) : SR K w (W.push a) H (st ++ [c]) := by
  have kp : Keep K W.F H (W.push a).F H := ⟨fun _ _ h => h, fun _ _ _ h => h, fun _ f => ⟨f, rfl⟩⟩
  have bp : W.β <+: (W.push a).β := List.prefix_append _ _
  exact {
    len := by
      show (W.β ++ [a]).length = (st ++ [c]).length
      rw [List.length_append, List.length_append, s.len]
      rfl
    nd := List.nodup_append.mpr ⟨s.nd, by simp, fun x hx y hy e => by
      subst e
      obtain rfl : x = a := by simpa using hy
      exact nb hx⟩
    bf := fun x hx => by
      rcases List.mem_append.mp hx with h | h
      · exact s.bf x h
      · obtain rfl : x = a := by simpa using h
        exact nf
    pf := s.pf
    dom := s.dom
    cells := fun i c' x h1 h2 => by
      by_cases hi : i < st.length
      · rw [List.getElem?_append_left hi] at h1
        have h2' : (W.β ++ [a])[i]? = some x := h2
        rw [List.getElem?_append_left (by rw [s.len]; exact hi)] at h2'
        exact (s.cells i c' x h1 h2').keepF kp bp rfl
      · have hi' : i = st.length := by
          have := (List.getElem?_eq_some_iff.mp h1).1
          rw [List.length_append] at this
          simp at this
          omega
        subst hi'
        have h2' : (W.β ++ [a])[st.length]? = some x := h2
        rw [← s.len, List.getElem?_append_right (Nat.le_refl _)] at h2'
        rw [List.getElem?_append_right (Nat.le_refl _)] at h1
        simp at h1 h2'
        subst h1 h2'
        exact hc.keepF kp bp rfl
    fr := s.fr }
theorem Up.push (u : Up W0 H0 W H) {a : Addr} (n : H0 a = Option.none) : Up W0 H0 (W.push a) H where
  F := u.F
  O := u.O
  P := u.P
  β := u.β.trans (List.prefix_append _ _)
  ext := u.ext
  dom := u.dom
  Fn := u.Fn
  βn := fun x hx => by
    rcases List.mem_append.mp hx with h | h
    · exact u.βn x h
    · obtain rfl : x = a := by simpa using h
      exact .inr n
theorem reps_rvs' {W : Wd} {ds : List PyData} {vs : List V} (h : Reps K w W.F H ds vs) : RVs K w W H (ds.map RV.dat) vs [] := reps_rvs h
theorem repKv_rkv' {kvs : List (PyData × PyData)} {es : List DictEntry} (h : RepKv K w W.F H kvs es) : RKv K w W H (kvs.map fun p => (p.1, .dat p.2)) es [] := h.rkv
/-- a new list is laid in the store -/
theorem laid_of {x : RV} {v : V} {A : List Addr} (u : Up W0 H0 W H) (s : SR K w W H st) (r : RVr K w W H x v A) (fr : Fresh W H0 A) :
    laid x st = .err ∨ ∃ y st2 W2, laid x st = .ok y st2 ∧ Up W0 H0 W2 H ∧ SR K w W2 H st2 ∧ RVr K w W2 H y v [] ∧ flat0 y := by
  cases r with
  | dat hd => exact .inr ⟨_, _, W, rfl, u, s, .dat hd, trivial⟩
  | ref hb => exact .inr ⟨_, _, W, rfl, u, s, .ref hb, trivial⟩
  | scr _ => exact .inl rfl
  | tpl _ _ => exact .inl rfl
  | @bor d _ hd =>
    have e : laid (.bor d) st = if noL d then .ok (.dat d) st else .err := rfl
    rw [e]
    by_cases hn : noL d = true
    · rw [if_pos hn]
      exact .inr ⟨_, _, W, rfl, u, s, .dat (hd.keepN (fun _ _ q => q) hn), trivial⟩
    · rw [if_neg hn]
      exact .inl rfl
  | @own a xs vs A' hl hv =>
    have e : laid (.own xs) st = (ofO (deeps xs) st).bind fun ds st => .ok (.ref st.length) (st ++ [.lst (ds.map .dat)]) := rfl
    rw [e]
    cases e1 : deeps xs with
    | none => exact .inl rfl
    | some ds =>
      have rd := RVs.deep (A0 := A') hv e1 fun _ m => m
      have na := fr.no a List.mem_cons_self
      have frA : ∀ b ∈ A', ¬ W.F b ∧ b ∉ W.β ∧ H0 b = none := fun b m => fr.no b (List.mem_cons_of_mem _ m)
      have s1 : SR K w (W.fz A') H st := s.fz (fun b m => (frA b m).2.1) (fun b m => fr.np b (List.mem_cons_of_mem _ m)) hv.dom
      have nd := (List.nodup_cons.mp fr.nd).1
      have nf : ¬ (W.fz A').F a := fun z => z.elim na.1 nd
      refine .inr ⟨.ref st.length, _, (W.fz A').push a, rfl, (u.fz fun b m => (frA b m).2.2).push na.2.2, s1.push na.2.1 nf (.lst hl (reps_rvs rd) fun y m => ?_), ?_, trivial⟩
      · obtain ⟨d, _, rfl⟩ := List.mem_map.mp m
        trivial
      · refine .ref ?_
        show (W.β ++ [a])[st.length]? = some a
        rw [← s.len, List.getElem?_append_right (Nat.le_refl _)]
        simp
  | @odi a kvs es A' hl ko hv =>
    have e : laid (.odi kvs) st = (ofO (deepKv kvs) st).bind fun ds st => .ok (.ref st.length) (st ++ [.dct (ds.map fun p => (p.1, .dat p.2))]) := rfl
    rw [e]
    cases e1 : deepKv kvs with
    | none => exact .inl rfl
    | some ds =>
      have rd := RKv.deep (A0 := A') hv e1 fun _ m => m
      have na := fr.no a List.mem_cons_self
      have frA : ∀ b ∈ A', ¬ W.F b ∧ b ∉ W.β ∧ H0 b = none := fun b m => fr.no b (List.mem_cons_of_mem _ m)
      have s1 : SR K w (W.fz A') H st := s.fz (fun b m => (frA b m).2.1) (fun b m => fr.np b (List.mem_cons_of_mem _ m)) hv.dom
      have nd := (List.nodup_cons.mp fr.nd).1
      have nf : ¬ (W.fz A').F a := fun z => z.elim na.1 nd
      refine .inr ⟨.ref st.length, _, (W.fz A').push a, rfl, (u.fz fun b m => (frA b m).2.2).push na.2.2, s1.push na.2.1 nf (.dct hl (by rw [keys_dat, deepKv_keys e1]; exact ko) rd.rkv fun y m => ?_), ?_, trivial⟩
      · obtain ⟨d, _, rfl⟩ := List.mem_map.mp m
        trivial
      · refine .ref ?_
        show (W.β ++ [a])[st.length]? = some a
        rw [← s.len, List.getElem?_append_right (Nat.le_refl _)]
        simp
end
/-! ### a list that is laid in the store -/
section
variable {X : Cx} {xr : XR} {E : L2.St → XW}
/-- a list of flat values -/
def GoodF (K : PySem.W.Frag) (w : World) (xr : XR) (r : R (List RV)) (W : Wd) (H : Hp) (E : XW) (Q : List V → Hp → Prop) : Prop := match r with
  | .ok xs st' => ∀ W' H' vs, Up W H W' H' → SR K w W' H' st' → RVs K w W' H' xs vs [] → (∀ y ∈ xs, flat0 y) → Q vs H'
  | .exc c xs st' => ∀ W' H' cls d, Up W H W' H' → SR K w W' H' st' → xr c xs cls d W' H' → E cls d H'
  | .err => False
def tF (K : PySem.W.Frag) (w : World) (xr : XR) (E : L2.St → XW) (f : Ev → Sto → R (List RV)) : TA := fun σ H Q => ∃ W env st, FR K w W H env st σ ∧ GoodF K w xr (f env st) W H (E σ) Q
theorem R.bind2 {α β γ : Type} (r : R α) (f : α → Sto → R β) (g : β → Sto → R γ) : (r.bind f).bind g = r.bind fun a st => (f a st).bind g := R.bind_assoc r f g
theorem GoodF.then {K : PySem.W.Frag} {w : World} {W W1 : Wd} {H H1 : Hp} {r : R RV} {f : RV → Sto → R (List RV)} {E : XW} {Q : List V → Hp → Prop} {Q' : VK} (h : GoodF K w xr (r.bind f) W H E Q) (u0 : Up W H W1 H1)
    (k : ∀ x st2 W2 H2 v A, GoodF K w xr (f x st2) W H E Q → Up W1 H1 W2 H2 → SR K w W2 H2 st2 → RVr K w W2 H2 x v A → Fresh W2 H1 A → Q' v H2) : Good K w xr r W1 H1 E Q' := by
  cases r with
  | ok x st' => exact fun W' H' v A u s rv fr => k x st' W' H' v A h u s rv fr
  | exc c xs st' => exact fun W' H' cls d u s q => h W' H' cls d (u0.trans u) s q
  | err => exact h
theorem GoodF.thenF {K : PySem.W.Frag} {w : World} {W W1 : Wd} {H H1 : Hp} {r : R (List RV)} {f : List RV → Sto → R (List RV)} {E : XW} {Q Q' : List V → Hp → Prop} (h : GoodF K w xr (r.bind f) W H E Q) (u0 : Up W H W1 H1)
    (k : ∀ x st2 W2 H2 v, GoodF K w xr (f x st2) W H E Q → Up W1 H1 W2 H2 → SR K w W2 H2 st2 → RVs K w W2 H2 x v [] → (∀ y ∈ x, flat0 y) → Q' v H2) : GoodF K w xr r W1 H1 E Q' := by
  cases r with
  | ok x st' => exact fun W' H' v u s rv fr => k x st' W' H' v h u s rv fr
  | exc c xs st' => exact fun W' H' cls d u s q => h W' H' cls d (u0.trans u) s q
  | err => exact h
theorem GoodF.shift {K : PySem.W.Frag} {w : World} {W W1 : Wd} {H H1 : Hp} {r : R (List RV)} {E : XW} {Q : List V → Hp → Prop} (h : GoodF K w xr r W H E Q) (u : Up W H W1 H1) : GoodF K w xr r W1 H1 E Q := by
  cases r with
  | ok x st' => exact fun W' H' v u' s' r' f' => h W' H' v (u.trans u') s' r' f'
  | exc c xs st' => exact fun W' H' cls d u' s' q => h W' H' cls d (u.trans u') s' q
  | err => exact h
theorem pa_cells {ev : Expr → Ev → Sto → R RV} : ∀ {es : List Expr}, (∀ e ∈ es, PE X e (tEv X.K X.w xr E (ev e))) → (∀ e ∈ es, unstar e = true) → PA X es (tF X.K X.w xr E (evCells ev es))
  | [], _, _ => ⟨fun pos pins s σ H Q I ⟨W, env, st, F, h⟩ => pa_nil.run pos pins s σ H Q I (h W H [] Up.refl F.sr .nil fun _ m => by cases m)⟩
  | e :: r, h, u => by
    have p := pa_cons (h e List.mem_cons_self) (pa_cells (es := r) (fun x hx => h x (List.mem_cons_of_mem _ hx)) fun x hx => u x (List.mem_cons_of_mem _ hx)) (star_cons (u e List.mem_cons_self))
    refine ⟨fun pos pins s σ H Q I ⟨W, env, st, F, q⟩ => p.run pos pins s σ H Q I ⟨W, env, st, F, ?_⟩⟩
    have q' : GoodF X.K X.w xr (((ev e env st).bind laid).bind fun v st => (evCells ev r env st).bind fun vs st => .ok (v :: vs) st) W H (E σ) Q := q
    rw [R.bind_assoc] at q'
    refine GoodF.then q' Up.refl fun x st2 W2 H2 v A q2 u2 s2 r2 f2 => ?_
    rcases laid_of u2 s2 r2 f2 with e1 | ⟨y, st3, W3, e1, u3, s3, r3, fy⟩
    · rw [e1] at q2
      exact q2.elim
    · rw [e1] at q2
      have q3 : GoodF X.K X.w xr ((evCells ev r env st3).bind fun vs st => .ok (y :: vs) st) W H (E σ) Q := q2
      refine ⟨W3, env, st3, F.up u3 s3, GoodF.thenF q3 u3 fun xs st4 W4 H4 vs q4 u4 s4 r4 f4 => ?_⟩
      refine q4 W4 H4 (v :: vs) (u3.trans u4) s4 (.cons (A := []) (B := []) (r3.up u4 s3 fun _ m => by cases m) r4) fun z m => ?_
      rcases List.mem_cons.mp m with rfl | m
      · exact fy
      · exact f4 z m
theorem evCells_len {ev : Expr → Ev → Sto → R RV} {env : Ev} : ∀ {es : List Expr} {st st' : Sto} {vs : List RV}, evCells ev es env st = .ok vs st' → vs.length = es.length
  | [], st, st', vs, h => by cases h; rfl
  | e :: r, st, st', vs, h => by
    have h' : (((ev e env st).bind laid).bind fun v st => (evCells ev r env st).bind fun vs st => .ok (v :: vs) st) = .ok vs st' := h
    cases q : (ev e env st).bind laid with
    | ok v st1 =>
      rw [q] at h'
      have h2 : ((evCells ev r env st1).bind fun vs st => .ok (v :: vs) st) = .ok vs st' := h'
      cases q2 : evCells ev r env st1 with
      | ok us st2 =>
        rw [q2] at h2
        cases h2
        rw [List.length_cons, List.length_cons, evCells_len q2]
      | exc c xs st2 => rw [q2] at h2; cases h2
      | err => rw [q2] at h2; cases h2
    | exc c xs st1 => rw [q] at h'; cases h'
    | err => rw [q] at h'; cases h'
theorem flat_C {K : PySem.W.Frag} {w : World} {W : Wd} {H : Hp} {st : Sto} (s : SR K w W H st) {x : RV} {v : V} {A : List Addr} (r : RVr K w W H x v A) (f : flat0 x) : flatC st.length x := by
  cases r with
  | dat _ => trivial
  | ref hb =>
    show _ < st.length
    rw [← s.len]
    exact (List.getElem?_eq_some_iff.mp hb).1
  | _ => exact f.elim
theorem flats_C {K : PySem.W.Frag} {w : World} {W : Wd} {H : Hp} {st : Sto} (s : SR K w W H st) : ∀ {x : List RV} {v : List V} {A : List Addr}, RVs K w W H x v A → (∀ y ∈ x, flat0 y) → ∀ y ∈ x, flatC st.length y
  | _, _, _, .nil, _ => fun _ m => by cases m
  | _, _, _, .cons h hs, f => fun y m => by
    rcases List.mem_cons.mp m with rfl | m
    · exact flat_C s h (f _ List.mem_cons_self)
    · exact flats_C s hs (fun z mz => f z (List.mem_cons_of_mem _ mz)) y m
theorem pe_cell {ev : Expr → Ev → Sto → R RV} {es : List Expr} {pos : Pos} (h : ∀ e ∈ es, PE X e (tEv X.K X.w xr E (ev e))) (u : ∀ e ∈ es, unstar e = true) (hl : es.length ≤ 1000) :
    PE X (.List es pos) (tEv X.K X.w xr E fun env st => (evCells ev es env st).bind fun vs st => .ok (.ref st.length) (st ++ [.lst vs])) := by
  refine PE.imp (pe_lst (pa_cells h u)) fun σ H Q ⟨W, env, st, F, q⟩ => ⟨W, env, st, F, ?_⟩
  have q' : Good X.K X.w xr ((evCells ev es env st).bind fun vs st => .ok (.ref st.length) (st ++ [.lst vs])) W H (E σ) Q := q
  cases e : evCells ev es env st with
  | err => rw [e] at q'; exact q'.elim
  | exc c xs st' => rw [e] at q'; exact q'
  | ok xs st' =>
    rw [e] at q'
    intro W' H' vs up sr r fl
    have hlen := evCells_len e
    refine ⟨by rw [← r.length, hlen, sizeLine_eq]; omega, fun p hp => ?_⟩
    have un := up.new (o := .lst vs) hp
    have sn := sr.new (o := .lst vs) hp
    have rn : RVs X.K X.w W' (upd H' p (.lst vs)) xs vs [] := r.keep ((Up.refl.new hp).keepR sr) fun _ m => absurd m (by simp)
    have nb : p ∉ W'.β := fun z => by
      obtain ⟨o, e⟩ := sr.βdom z
      rw [hp] at e
      cases e
    have nf : ¬ W'.F p := fun z => by
      obtain ⟨o, e⟩ := sr.dom p z
      rw [hp] at e
      cases e
    refine q' (W'.push p) _ _ [] (un.push (up.gone hp)) (sn.push nb nf (.lst upd_same rn (flats_C sn rn fl))) (.ref ?_) Fresh.nil
    show (W'.β ++ [p])[st'.length]? = some p
    rw [← sr.len, List.getElem?_append_right (Nat.le_refl _)]
    simp
end
end Z

set_option linter.all false
set_option maxRecDepth 100000
set_option maxHeartbeats 1000000
/-! Z22: dict displays. -/
namespace Z
open PySem PySem.Spec PyProof.Rows L2
section
variable {K : PySem.W.Frag} {w : World} {xr : XR} {W W0 W1 W' : Wd} {H H0 H1 H' : Hp} {st st1 : Sto}
theorem leaf_rep {k : PyData} {v : V} {F F' : Addr → Prop} (l : leafK k = true) (h : Rep K w F H k v) : Rep K w F' H' k v := by
  cases h with
  | non => exact .non
  | bl b => exact .bl b
  | int i => exact .int i
  | str x => exact .str x
  | tup _ _ => simp [leafK] at l
  | lst _ _ _ => simp [leafK] at l
  | dct _ _ _ _ => simp [leafK] at l
theorem leaf_key {k : PyData} (l : leafK k = true) : ∃ ke, keyD k = some ke := by
  cases k <;> simp [leafK] at l <;> exact ⟨_, rfl⟩
section
variable (K : PySem.W.Frag) (w : World) (W : Wd) (H : Hp)
/-- pairs of a display -/
inductive PRr : List (PyData × RV) → List (V × V) → List Addr → Prop where
  | nil : PRr [] [] []
  | cons {k : PyData} {kv : V} {x : RV} {v : V} {kvs : List (PyData × RV)} {ps : List (V × V)} {A B : List Addr} : leafK k = true → Rep K w (fun _ => True) H k kv → RVr K w W H x v A → PRr kvs ps B → PRr ((k, x) :: kvs) ((kv, v) :: ps) (A ++ B)
end
theorem PRr.keep (k : KeepR K W H W' H') : ∀ {kvs : List (PyData × RV)} {ps : List (V × V)} {A : List Addr}, PRr K w W H kvs ps A → (∀ a ∈ A, H' a = H a) → PRr K w W' H' kvs ps A
  | _, _, _, .nil, _ => .nil
  | _, _, _, .cons l h r hs, n => .cons l (leaf_rep l h) (r.keep k fun a m => n a (List.mem_append_left _ m)) (PRr.keep k hs fun a m => n a (List.mem_append_right _ m))
theorem PRr.dom : ∀ {kvs : List (PyData × RV)} {ps : List (V × V)} {A : List Addr}, PRr K w W H kvs ps A → ∀ a ∈ A, ∃ o, H a = some o
  | _, _, _, .nil, a, m => by cases m
  | _, _, _, .cons l h r hs, a, m => (List.mem_append.mp m).elim (r.dom a) (PRr.dom hs a)
/-- the entries that come of them -/
theorem PRr.rkv : ∀ {kvs : List (PyData × RV)} {ps : List (V × V)} {ws : List (Value × Value)} {A : List Addr} {es : List DictEntry}, PRr K w W H kvs ps A → VV ps ws → VE K w H ((kvs.zip ws).map fun p => (p.1.1, p.2.2)) es → RKv K w W H kvs es A
  | _, _, _, _, _, .nil, .nil, e => by
    cases e
    exact .nil
  | _, _, _, _, _, .cons l h r hs, .cons q qs, e => by
    rw [List.zip_cons_cons, List.map_cons] at e
    cases e with
    | cons a b c d f g =>
      exact .cons a (keyD_noL a) b (leaf_rep l c) d r (by rw [f]; exact q.2) (PRr.rkv hs qs g)
theorem PRr.leaf : ∀ {kvs : List (PyData × RV)} {ps : List (V × V)} {A : List Addr}, PRr K w W H kvs ps A → ∀ p ∈ kvs, leafK p.1 = true
  | _, _, _, .nil, p, m => by cases m
  | _, _, _, .cons l h r hs, p, m => by
    rcases List.mem_cons.mp m with rfl | m
    · exact l
    · exact PRr.leaf hs p m
theorem PRr.carries {P : Program} : ∀ {kvs : List (PyData × RV)} {ps : List (V × V)} {ws : List (Value × Value)} {A : List Addr}, PRr K w W H kvs ps A → VV ps ws → Carries (plainKind P w) ws (lxs ((kvs.zip ws).map fun p => (p.1.1, p.2.2)))
  | _, _, _, _, .nil, .nil => True.intro
  | _, _, _, _, .cons l h r hs, .cons q qs => ⟨plain_of h q.1 l, rfl, PRr.carries hs qs⟩
theorem PRr.len : ∀ {kvs : List (PyData × RV)} {ps : List (V × V)} {A : List Addr}, PRr K w W H kvs ps A → kvs.length = ps.length
  | _, _, _, .nil => rfl
  | _, _, _, .cons _ _ _ hs => by rw [List.length_cons, List.length_cons, PRr.len hs]
end
theorem putAll_ok : ∀ {kvs acc res : List (PyData × RV)}, putAll acc kvs = some res → KeysOk (acc.map (·.1)) → res = acc ++ kvs ∧ KeysOk (res.map (·.1))
  | [], acc, res, e, ko => by
    cases e
    exact ⟨by simp, ko⟩
  | (k, v) :: r, acc, res, e, ko => by
    rw [putAll] at e
    split at e
    · rename_i h
      rw [Bool.and_eq_true] at h
      obtain ⟨g, _⟩ := keyOk_all h.1
      have hn : ¬ (acc.any fun p => sameKey p.1 k) = true := by
        have := h.2
        intro z
        rw [z] at this
        cases this
      have ko' := ko.put (v := v) g
      have ep : putK acc k v = acc ++ [(k, v)] := by
        unfold putK
        rw [if_neg hn]
      rw [ep] at ko'
      obtain ⟨e1, e2⟩ := putAll_ok e ko'
      exact ⟨by rw [e1, List.append_assoc]; rfl, e2⟩
    · cases e
/-- keys that differ are put one behind another -/
theorem merged_lxs {kus acc : List (PyData × Value)} (l : ∀ p ∈ acc ++ kus, leafK p.1 = true) (ko : KeysOk ((acc ++ kus).map (·.1))) : merged (lxs acc) (lxs kus) = lxs (acc ++ kus) := by
  induction kus generalizing acc with
  | nil => rw [List.append_nil]; rfl
  | cons p r ih =>
    obtain ⟨k, v⟩ := p
    have lk : leafK k = true := l (k, v) (by simp)
    obtain ⟨ke, ek⟩ := leaf_key lk
    have e1 : stored (lxs acc) (leafOf k) v = lxs (putK acc k v) := stored_lxs ek lk (fun p m => l p (List.mem_append_left _ m)) fun p m => leaf_key (l p (List.mem_append_left _ m))
    have hn : ¬ (acc.any fun p => sameKey p.1 k) = true := by
      intro h
      obtain ⟨p, hp, hs⟩ := List.any_eq_true.mp h
      obtain ⟨kp, ep⟩ := leaf_key (l p (List.mem_append_left _ hp))
      rw [sameKey_of ep ek] at hs
      have := of_decide_eq_true hs
      subst this
      have nd := ko.nd
      rw [List.map_append, List.filterMap_append, List.nodup_append] at nd
      exact nd.2.2 kp (List.mem_filterMap.mpr ⟨p.1, List.mem_map_of_mem hp, ep⟩) kp (List.mem_filterMap.mpr ⟨k, by simp, ek⟩) rfl
    have e2 : putK acc k v = acc ++ [(k, v)] := by
      unfold putK
      rw [if_neg hn]
    show merged (stored (lxs acc) (leafOf k) v) (lxs r) = _
    rw [e1, e2, ih (by simpa using l) (by simpa using ko)]
    simp
/-! ### a dict that is being made -/
section
variable {K : PySem.W.Frag} {w : World} {W W2 : Wd} {H H2 : Hp} {st st2 : Sto} {p : Addr}
theorem pend_is (s : SR K w W H st) (hp : H p = none) (u : Up W (upd H p (.dK [])) W2 H2) : H2 p = some (.dK []) ∧ p ∉ W2.β ∧ ¬ W2.F p := by
  have nb : p ∉ W.β := fun z => by
    obtain ⟨o, e⟩ := s.βdom z
    rw [hp] at e
    cases e
  refine ⟨u.ext p _ upd_same nb, fun z => ?_, fun z => ?_⟩
  · rcases u.βn p z with q | q
    · exact nb q
    · rw [upd_same] at q
      cases q
  · rcases u.Fn p z with q | q
    · obtain ⟨o, e⟩ := s.dom p q
      rw [hp] at e
      cases e
    · rw [upd_same] at q
      cases q
theorem not_dK {a : Addr} : ¬ datO a (.dK []) := by
  rintro (⟨vs, e⟩ | ⟨es, e⟩)
  · cases e
  · unfold rawO at e
    cases e
theorem pend_keep (s2 : SR K w W2 H2 st2) (e : H2 p = some (.dK [])) (nF : ¬ W2.F p) (o : HO) : KeepR K W2 H2 W2 (upd H2 p o) := by
  have tup : ∀ a vs, SqT K H2 a vs → SqT K (upd H2 p o) a vs := fun a vs h => by
    rcases h with h | h
    · rcases h with h | ⟨ob, h⟩
      · refine .inl (.inl ?_)
        rw [upd_ne (fun z => by subst z; rw [e] at h; cases h)]
        exact h
      · refine .inl (.inr ⟨ob, ?_⟩)
        rw [upd_ne (fun z => by subst z; rw [e] at h; cases h)]
        exact h
    · exact .inr h
  have fro : ∀ a ob vs, H2 a = some (.frz ob (.lst vs)) → (upd H2 p o) a = some (.frz ob (.lst vs)) := fun a ob vs h => by
    rw [upd_ne (fun z => by subst z; rw [e] at h; cases h)]
    exact h
  refine ⟨⟨tup, fro, fun a f => ⟨f, upd_ne fun z => by subst z; exact nF f⟩⟩, List.prefix_refl _, ⟨tup, fro, fun a ⟨n, np, ob, eo, dd⟩ => ?_⟩⟩
  have hne : a ≠ p := fun z => by
    subst z
    rw [e] at eo
    cases eo
    exact not_dK dd
  exact ⟨⟨n, np, ob, by rw [upd_ne hne]; exact eo, dd⟩, upd_ne hne⟩
theorem pend_sr (s2 : SR K w W2 H2 st2) (e : H2 p = some (.dK [])) (nb : p ∉ W2.β) (nF : ¬ W2.F p) (o : HO) : SR K w W2 (upd H2 p o) st2 where
  len := s2.len
  nd := s2.nd
  bf := s2.bf
  pf := fun a f => by
    obtain ⟨n, ob, eo⟩ := s2.pf a f
    refine ⟨n, ?_⟩
    by_cases z : a = p
    · exact ⟨o, by rw [z]; exact upd_same⟩
    · exact ⟨ob, by rw [upd_ne z]; exact eo⟩
  dom := fun a f => by
    obtain ⟨ob, eo⟩ := s2.dom a f
    exact ⟨ob, by rw [upd_ne (fun z => by subst z; exact nF f)]; exact eo⟩
  cells := fun i c a h1 h2 => (s2.cells i c a h1 h2).keep (pend_keep s2 e nF o) (upd_ne fun z => by subst z; exact nb (List.mem_of_getElem? h2))
  fr := fun a h => s2.fr a (by
    by_cases z : a = p
    · subst z
      rw [upd_same] at h
      cases h
    · rw [upd_ne z] at h
      exact h)
theorem pend_up (s : SR K w W H st) (hp : H p = none) (u : Up W (upd H p (.dK [])) W2 H2) (o : HO) : Up W H W2 (upd H2 p o) where
  F := u.F
  O := u.O
  P := u.P
  β := u.β
  ext := fun a ob h n => by
    have hne : a ≠ p := ne_of_none h hp
    rw [upd_ne hne]
    exact u.ext a ob (by rw [upd_ne hne]; exact h) n
  dom := fun a ob h => by
    have hne : a ≠ p := ne_of_none h hp
    rw [upd_ne hne]
    exact u.dom a ob (by rw [upd_ne hne]; exact h)
  Fn := fun a f => by
    rcases u.Fn a f with q | q
    · exact .inl q
    · refine .inr ?_
      by_cases z : a = p
      · subst z; exact hp
      · rw [upd_ne z] at q; exact q
  βn := fun a f => by
    rcases u.βn a f with q | q
    · exact .inl q
    · refine .inr ?_
      by_cases z : a = p
      · subst z; exact hp
      · rw [upd_ne z] at q; exact q
theorem pend_fresh (hp : H p = none) {A : List Addr} (f : Fresh W2 (upd H p (.dK [])) A) : Fresh W2 H A ∧ p ∉ A := by
  have np : p ∉ A := fun m => by
    have := (f.no p m).2.2
    rw [upd_same] at this
    cases this
  refine ⟨⟨f.nd, fun a m => ⟨(f.no a m).1, (f.no a m).2.1, ?_⟩, f.np⟩, np⟩
  have := (f.no a m).2.2
  rw [upd_ne (fun z => by subst z; exact np m)] at this
  exact this
end
end Z

set_option linter.all false
set_option maxRecDepth 100000
set_option maxHeartbeats 1000000
/-! Z23: dict displays, as expressions. -/
namespace Z
open PySem PySem.Spec PyProof.Rows L2
section
variable {X : Cx} {xr : XR} {E : L2.St → XW}
def trsOf (X : Cx) (xr : XR) (E : L2.St → XW) (ev : Expr → Ev → Sto → R RV) : List (Option Expr) → List Expr → List (TE × TE)
  | some k :: ks, v :: vs => (tEv X.K X.w xr E (ev k), tEv X.K X.w xr E (ev v)) :: trsOf X xr E ev ks vs
  | _, _ => []
theorem pps_of {ev : Expr → Ev → Sto → R RV} {pos : Pos} : ∀ {ks : List (Option Expr)} {vs : List Expr}, ks.all (·.isSome) = true → ks.length = vs.length → (∀ k, some k ∈ ks → PE X k (tEv X.K X.w xr E (ev k))) → (∀ v ∈ vs, PE X v (tEv X.K X.w xr E (ev v))) → PPs X pos ks vs (trsOf X xr E ev ks vs)
  | [], [], _, _, _, _ => pps_nil
  | [], _ :: _, _, h, _, _ => by simp at h
  | _ :: _, [], _, h, _, _ => by simp at h
  | none :: _, _ :: _, h, _, _, _ => by simp at h
  | some k :: ks, v :: vs, ha, hl, hk, hv => pps_cons (hk k List.mem_cons_self) (hv v List.mem_cons_self) (pps_of (by simpa using ha) (by simpa using hl) (fun x m => hk x (List.mem_cons_of_mem _ m)) fun x m => hv x (List.mem_cons_of_mem _ m))
/-- pairs of a display; fl: all values flat -/
def GoodP' (K : PySem.W.Frag) (w : World) (xr : XR) (fl : Bool) (r : R (List (PyData × RV))) (W : Wd) (H : Hp) (E : XW) (Q : List (V × V) → Hp → Prop) : Prop := match r with
  | .ok kvs st' => ∀ W' H' ps A, Up W H W' H' → SR K w W' H' st' → PRr K w W' H' kvs ps A → Fresh W' H A → (fl = true → A = [] ∧ ∀ p ∈ kvs, flat0 p.2) → Q ps H'
  | .exc c xs st' => ∀ W' H' cls d, Up W H W' H' → SR K w W' H' st' → xr c xs cls d W' H' → E cls d H'
  | .err => False
section
variable {K : PySem.W.Frag} {w : World} {W W1 : Wd} {H H1 : Hp} {fl : Bool}
theorem GoodP'.then {r : R RV} {f : RV → Sto → R (List (PyData × RV))} {E : XW} {Q : List (V × V) → Hp → Prop} {Q' : VK} (h : GoodP' K w xr fl (r.bind f) W H E Q) (u0 : Up W H W1 H1)
    (k : ∀ x st2 W2 H2 v A, GoodP' K w xr fl (f x st2) W H E Q → Up W1 H1 W2 H2 → SR K w W2 H2 st2 → RVr K w W2 H2 x v A → Fresh W2 H1 A → Q' v H2) : Good K w xr r W1 H1 E Q' := by
  cases r with
  | ok x st' => exact fun W' H' v A u s rv fr => k x st' W' H' v A h u s rv fr
  | exc c xs st' => exact fun W' H' cls d u s q => h W' H' cls d (u0.trans u) s q
  | err => exact h
theorem GoodP'.thenP {r : R (List (PyData × RV))} {f : List (PyData × RV) → Sto → R (List (PyData × RV))} {E : XW} {Q Q' : List (V × V) → Hp → Prop} (h : GoodP' K w xr fl (r.bind f) W H E Q) (u0 : Up W H W1 H1)
    (k : ∀ x st2 W2 H2 v A, GoodP' K w xr fl (f x st2) W H E Q → Up W1 H1 W2 H2 → SR K w W2 H2 st2 → PRr K w W2 H2 x v A → Fresh W2 H1 A → (fl = true → A = [] ∧ ∀ p ∈ x, flat0 p.2) → Q' v H2) : GoodP' K w xr fl r W1 H1 E Q' := by
  cases r with
  | ok x st' => exact fun W' H' v A u s rv fr ff => k x st' W' H' v A h u s rv fr ff
  | exc c xs st' => exact fun W' H' cls d u s q => h W' H' cls d (u0.trans u) s q
  | err => exact h
theorem GoodP'.ofO {α : Type} {st : Sto} {E : XW} {Q : List (V × V) → Hp → Prop} {o : Option α} {f : α → Sto → R (List (PyData × RV))} (h : GoodP' K w xr fl ((Z.ofO o st).bind f) W H E Q) : ∃ a, o = some a ∧ GoodP' K w xr fl (f a st) W H E Q := by
  cases o with
  | none => exact h.elim
  | some a => exact ⟨a, rfl, h⟩
end
theorem key_leaf {K : PySem.W.Frag} {w : World} {H : Hp} {F : Addr → Prop} {d : PyData} {v : V} (l : leafK d = true) (h : Rep K w (fun _ => True) H d v) : Rep K w F H d v := leaf_rep l h
/-- a display that nothing else holds -/
theorem pairsO_ok {ev : Expr → Ev → Sto → R RV} {σ : L2.St} {env : Ev} : ∀ {ks : List (Option Expr)} {vs : List Expr} {W : Wd} {H : Hp} {st : Sto} {Q : List (V × V) → Hp → Prop}, FR X.K X.w W H env st σ → GoodP' X.K X.w xr false (evPairsO ev ks vs env st) W H (E σ) Q → tPairs (trsOf X xr E ev ks vs) σ H Q
  | [], [], W, H, st, Q, F, h => h W H [] [] Up.refl F.sr .nil Fresh.nil fun z => by cases z
  | [], _ :: _, _, _, _, _, _, h => h.elim
  | none :: _, _, _, _, _, _, _, h => h.elim
  | some _ :: _, [], _, _, _, _, _, h => h.elim
  | some k :: ks, v :: vs, W, H, st, Q, F, h => by
    have h' : GoodP' X.K X.w xr false (((ev k env st).bind fun v st => ofO (vw st v) st).bind fun kd st => if leafK kd then ((ev v env st).bind fun v st => ofO (elem v) st).bind fun w st => (evPairsO ev ks vs env st).bind fun r st => .ok ((kd, w) :: r) st else .err) W H (E σ) Q := h
    rw [R.bind_assoc] at h'
    refine ⟨W, env, st, F, GoodP'.then h' Up.refl fun kx st1 W1 H1 kv A1 q1 u1 s1 r1 f1 => ?_⟩
    obtain ⟨kd, e1, q1⟩ := q1.ofO
    have rk := vw_rep s1 r1 e1
    split at q1
    · rename_i lk
      rw [R.bind_assoc] at q1
      refine ⟨W1, env, st1, F.up u1 s1, GoodP'.then q1 u1 fun vx st2 W2 H2 vv A2 q2 u2 s2 r2 f2 => ?_⟩
      obtain ⟨y, e2, q2⟩ := q2.ofO
      have ry := elem_ok r2 e2
      refine pairsO_ok (F.up (u1.trans u2) s2) (GoodP'.thenP q2 (u1.trans u2) fun kvs st3 W3 H3 ps A3 q3 u3 s3 r3 f3 _ => ?_)
      have nb : ∀ a ∈ A2, a ∉ W2.β := fun a m => (f2.no a m).2.1
      exact q3 W3 H3 ((kv, vv) :: ps) (A2 ++ A3) ((u1.trans u2).trans u3) s3 (.cons lk (leaf_rep lk rk) (ry.up u3 s2 nb) r3) ((f2.both r2.dom u2 u3 f3).from u1) fun z => by cases z
    · exact q1.elim
/-- .. one that is laid in the store -/
theorem pairs_ok {ev : Expr → Ev → Sto → R RV} {σ : L2.St} {env : Ev} : ∀ {ks : List (Option Expr)} {vs : List Expr} {W : Wd} {H : Hp} {st : Sto} {Q : List (V × V) → Hp → Prop}, FR X.K X.w W H env st σ → GoodP' X.K X.w xr true (evPairs ev ks vs env st) W H (E σ) Q → tPairs (trsOf X xr E ev ks vs) σ H Q
  | [], [], W, H, st, Q, F, h => h W H [] [] Up.refl F.sr .nil Fresh.nil fun _ => ⟨rfl, fun _ m => by cases m⟩
  | [], _ :: _, _, _, _, _, _, h => h.elim
  | none :: _, _, _, _, _, _, _, h => h.elim
  | some _ :: _, [], _, _, _, _, _, h => h.elim
  | some k :: ks, v :: vs, W, H, st, Q, F, h => by
    have h' : GoodP' X.K X.w xr true (((ev k env st).bind fun v st => ofO (vw st v) st).bind fun kd st => if leafK kd then ((ev v env st).bind laid).bind fun w st => (evPairs ev ks vs env st).bind fun r st => .ok ((kd, w) :: r) st else .err) W H (E σ) Q := h
    rw [R.bind_assoc] at h'
    refine ⟨W, env, st, F, GoodP'.then h' Up.refl fun kx st1 W1 H1 kv A1 q1 u1 s1 r1 f1 => ?_⟩
    obtain ⟨kd, e1, q1⟩ := q1.ofO
    have rk := vw_rep s1 r1 e1
    split at q1
    · rename_i lk
      rw [R.bind_assoc] at q1
      refine ⟨W1, env, st1, F.up u1 s1, GoodP'.then q1 u1 fun vx st2 W2 H2 vv A2 q2 u2 s2 r2 f2 => ?_⟩
      rcases laid_of u2 s2 r2 f2 with e2 | ⟨y, st3, W3, e2, u3, s3, r3, fy⟩
      · rw [e2] at q2
        exact q2.elim
      · rw [e2] at q2
        have q3 : GoodP' X.K X.w xr true ((evPairs ev ks vs env st3).bind fun r st => .ok ((kd, y) :: r) st) W H (E σ) Q := q2
        refine pairs_ok (F.up (u1.trans u3) s3) (GoodP'.thenP q3 (u1.trans u3) fun kvs st4 W4 H4 ps A4 q4 u4 s4 r4 f4 ff => ?_)
        obtain ⟨eA, ff'⟩ := ff rfl
        subst eA
        refine q4 W4 H4 ((kv, vv) :: ps) [] ((u1.trans u3).trans u4) s4 (.cons (A := []) (B := []) lk (leaf_rep lk rk) (r3.up u4 s3 fun _ m => by cases m) r4) Fresh.nil fun _ => ⟨rfl, fun p m => ?_⟩
        rcases List.mem_cons.mp m with rfl | m
        · exact fy
        · exact ff' p m
    · exact q1.elim
theorem FR.pend {W : Wd} {H : Hp} {env : Ev} {st : Sto} {σ : L2.St} (F : FR X.K X.w W H env st σ) {p : Addr} (hp : H p = none) (o : HO) : FR X.K X.w W (upd H p o) env st σ := F.up (Up.refl.new hp) (F.sr.new hp)
theorem dk_plain {pins : List (Addr × Obj)} {σ : L2.St} {H : Hp} {s : Shared} {p : Addr} (I : Inv X pins σ H s) (e : H p = some (.dK [])) : s.heap.DictOf (plainKind X.prog X.w) p [] ∧ (p == sysModules) = false := by
  obtain ⟨z, hd, vs0, r0, o, es, ep, h1, h2, h3, h4, h5, h6⟩ := dk_of I.hok e
  cases r0
  have e0 : es.toList = [] := by
    generalize es.toList = l at h5
    cases h5
    rfl
  have e1 : es = #[] := by
    apply Array.toList_inj.mp
    exact e0
  subst e1
  exact ⟨⟨o, #[], ep, h1, h2, h3, fun x m => by simp at m, .nil, List.nodup_nil⟩, hd⟩
/-- what a display's dict is, when all is known -/
theorem disp_end {pins : List (Addr × Obj)} {σ : L2.St} {s2 : Shared} {W W2 : Wd} {H H2 : Hp} {st st2 : Sto} {p : Addr} {kvs : List (PyData × RV)} {ps : List (V × V)} {ws : List (Value × Value)} {A : List Addr} (I2 : Inv X pins σ H2 s2) (sW : SR X.K X.w W H st) (hp : H p = none) (u : Up W (upd H p (.dK [])) W2 H2) (sr : SR X.K X.w W2 H2 st2) (r : PRr X.K X.w W2 H2 kvs ps A) (f : Fresh W2 (upd H p (.dK [])) A) (rel : VV ps ws) (ko : KeysOk (kvs.map (·.1))) (hz : kvs.length ≤ 15) :
    ∃ rs, Carries (plainKind X.prog X.w) ws rs ∧ s2.heap.DictOf (plainKind X.prog X.w) p [] ∧ ∀ h', h'.DictOf (plainKind X.prog X.w) p (merged [] rs) → Heap.SameBut p s2.heap h' → ∀ t, ∃ es,
      Inv X pins σ (upd H2 p (rawO p es)) { s2 with heap := h', toks := t } ∧ RKv X.K X.w W2 (upd H2 p (rawO p es)) kvs es A ∧ Up W H W2 (upd H2 p (rawO p es)) ∧ SR X.K X.w W2 (upd H2 p (rawO p es)) st2 ∧ Fresh W2 H A ∧ p ∉ A := by
  obtain ⟨e0, nb, nF⟩ := pend_is sW hp u
  obtain ⟨d0, hS⟩ := dk_plain I2 e0
  obtain ⟨fA, npA⟩ := pend_fresh hp f
  refine ⟨_, r.carries rel, d0, fun h' dd hs t => ?_⟩
  have hkus : ((kvs.zip ws).map fun p => (p.1.1, p.2.2)).map (·.1) = kvs.map (·.1) := by
    have hl : kvs.length = ws.length := r.len.trans (Paired.length rel)
    rw [List.map_map]
    have : ∀ (a : List (PyData × RV)) (b : List (Value × Value)), a.length = b.length → (a.zip b).map ((fun x : PyData × Value => x.1) ∘ fun p => (p.1.1, p.2.2)) = a.map (·.1) := by
      intro a
      induction a with
      | nil => intro b _; rfl
      | cons x a ih =>
        intro b h
        cases b with
        | nil => simp at h
        | cons y b => rw [List.zip_cons_cons, List.map_cons, List.map_cons, ih b (by simpa using h)]; rfl
    exact this kvs ws hl
  have leafs : ∀ p ∈ ((kvs.zip ws).map fun p => (p.1.1, p.2.2)), leafK p.1 = true := fun q m => by
    have hm : q.1 ∈ ((kvs.zip ws).map fun p => (p.1.1, p.2.2)).map (·.1) := List.mem_map_of_mem m
    rw [hkus] at hm
    obtain ⟨x, hx, ex⟩ := List.mem_map.mp hm
    rw [← ex]
    exact r.leaf x hx
  rw [show ([] : List (Leaf × Value)) = lxs [] from rfl, merged_lxs (acc := []) (by simpa using leafs) (by simpa [hkus] using ko)] at dd
  obtain ⟨o, arr, ep, q1, q2, q3, q4, q5, q6⟩ := dd
  have ve : VE X.K X.w H2 ((kvs.zip ws).map fun p => (p.1.1, p.2.2)) arr.toList := VE.of_pairs (P := X.prog) (by simpa using q5) (fun e m => q4 e (by simpa using m)) leafs fun q m => leaf_key (leafs q m)
  have rk := r.rkv rel ve
  have kp := pend_keep sr e0 nF (rawO p arr.toList)
  have hle : arr.toList.length ≤ sizeLine := by
    rw [rk.len, sizeLine_eq]
    omega
  refine ⟨arr.toList, d_write I2 (by rw [e0]; exact trivial) hs ⟨o, q1⟩ (raw_new q1 q2 q3 hS hle), rk.keep kp fun a m => upd_ne fun z => by subst z; exact npA m, pend_up sW hp u _, pend_sr sr e0 nb nF _, fA, npA⟩
theorem GoodP'.pend {fl : Bool} {K : PySem.W.Frag} {w : World} {W : Wd} {H : Hp} {p : Addr} {o : HO} (hp : H p = none) {r : R (List (PyData × RV))} {f : List (PyData × RV) → Sto → R RV} {E : XW} {Q : VK} {Q' : List (V × V) → Hp → Prop} (h : Good K w xr (r.bind f) W H E Q)
    (k : ∀ x st2 W2 H2 v A, r = .ok x st2 → Good K w xr (f x st2) W H E Q → Up W (upd H p o) W2 H2 → SR K w W2 H2 st2 → PRr K w W2 H2 x v A → Fresh W2 (upd H p o) A → (fl = true → A = [] ∧ ∀ p ∈ x, flat0 p.2) → Q' v H2) : GoodP' K w xr fl r W (upd H p o) E Q' := by
  cases r with
  | ok x st' => exact fun W' H' v A u s rv fr ff => k x st' W' H' v A rfl h u s rv fr ff
  | exc c xs st' => exact fun W' H' cls d u s q => h W' H' cls d ((Up.refl.new hp).trans u) s q
  | err => exact h
theorem evPairsO_len {ev : Expr → Ev → Sto → R RV} {env : Ev} : ∀ {ks : List (Option Expr)} {vs : List Expr} {st st' : Sto} {kvs : List (PyData × RV)}, evPairsO ev ks vs env st = .ok kvs st' → kvs.length = ks.length
  | [], [], st, st', kvs, h => by cases h; rfl
  | [], _ :: _, _, _, _, h => by cases h
  | none :: _, _, _, _, _, h => by cases h
  | some _ :: _, [], _, _, _, h => by cases h
  | some k :: ks, v :: vs, st, st', kvs, h => by
    have h' : ((evV ev k env st).bind fun kd st => if leafK kd then ((ev v env st).bind fun v st => ofO (elem v) st).bind fun w st => (evPairsO ev ks vs env st).bind fun r st => .ok ((kd, w) :: r) st else .err) = .ok kvs st' := h
    cases q : evV ev k env st with
    | exc c xs st1 => rw [q] at h'; cases h'
    | err => rw [q] at h'; cases h'
    | ok kd st1 =>
      rw [q] at h'
      have h2 : (if leafK kd then ((ev v env st1).bind fun v st => ofO (elem v) st).bind fun w st => (evPairsO ev ks vs env st).bind fun r st => .ok ((kd, w) :: r) st else .err) = .ok kvs st' := h'
      split at h2
      · cases q2 : (ev v env st1).bind fun v st => ofO (elem v) st with
        | exc c xs st1 => rw [q2] at h2; cases h2
        | err => rw [q2] at h2; cases h2
        | ok y st2 =>
          rw [q2] at h2
          have h3 : ((evPairsO ev ks vs env st2).bind fun r st => .ok ((kd, y) :: r) st) = .ok kvs st' := h2
          cases q3 : evPairsO ev ks vs env st2 with
          | exc c xs st1 => rw [q3] at h3; cases h3
          | err => rw [q3] at h3; cases h3
          | ok r st3 =>
            rw [q3] at h3
            cases h3
            rw [List.length_cons, List.length_cons, evPairsO_len q3]
      · cases h2
theorem evPairs_len {ev : Expr → Ev → Sto → R RV} {env : Ev} : ∀ {ks : List (Option Expr)} {vs : List Expr} {st st' : Sto} {kvs : List (PyData × RV)}, evPairs ev ks vs env st = .ok kvs st' → kvs.length = ks.length
  | [], [], st, st', kvs, h => by cases h; rfl
  | [], _ :: _, _, _, _, h => by cases h
  | none :: _, _, _, _, _, h => by cases h
  | some _ :: _, [], _, _, _, h => by cases h
  | some k :: ks, v :: vs, st, st', kvs, h => by
    have h' : ((evV ev k env st).bind fun kd st => if leafK kd then ((ev v env st).bind laid).bind fun w st => (evPairs ev ks vs env st).bind fun r st => .ok ((kd, w) :: r) st else .err) = .ok kvs st' := h
    cases q : evV ev k env st with
    | exc c xs st1 => rw [q] at h'; cases h'
    | err => rw [q] at h'; cases h'
    | ok kd st1 =>
      rw [q] at h'
      have h2 : (if leafK kd then ((ev v env st1).bind laid).bind fun w st => (evPairs ev ks vs env st).bind fun r st => .ok ((kd, w) :: r) st else .err) = .ok kvs st' := h'
      split at h2
      · cases q2 : (ev v env st1).bind laid with
        | exc c xs st1 => rw [q2] at h2; cases h2
        | err => rw [q2] at h2; cases h2
        | ok y st2 =>
          rw [q2] at h2
          have h3 : ((evPairs ev ks vs env st2).bind fun r st => .ok ((kd, y) :: r) st) = .ok kvs st' := h2
          cases q3 : evPairs ev ks vs env st2 with
          | exc c xs st1 => rw [q3] at h3; cases h3
          | err => rw [q3] at h3; cases h3
          | ok r st3 =>
            rw [q3] at h3
            cases h3
            rw [List.length_cons, List.length_cons, evPairs_len q3]
      · cases h2
theorem keysNil : KeysOk [] := ⟨(fun _ m => by cases m), List.nodup_nil⟩
theorem raw_empty {P : Program} {w : World} {H : Hp} (h : Heap) (hb : sysModules < h.objs.size) : ObjOk P w H (h.push { cls := .type "dict", data := .dict #[] }) h.objs.size (rawO h.objs.size []) :=
  raw_new (arr := #[]) (Heap.get?_push_size _ rfl) ⟨rfl, rfl, rfl⟩ rfl (beq_eq_false_iff_ne.mpr (Ne.symm (Nat.ne_of_lt hb))) (by simp)
/-- {}: a new raw dict -/
theorem pe_rawNew {pos : Pos} : PE X (.Dict [] [] pos) (fun _ H Q => ∀ p, H p = none → Q (.ref p) (upd H p (rawO p []))) := ⟨fun pins s σ H Q I h =>
  wpAny_Dict_empty ⟨.ref s.heap.objs.size, _, I.laid (a := s.heap.objs.size) (o := rawO s.heap.objs.size []) (t' := s.toks) (fun _ _ q => Heap.get?_push_of_some _ q) (Nat.le_refl _) (raw_empty s.heap I.big), rfl, h _ (I.hok.fresh (Nat.le_refl _))⟩⟩
theorem new_no {K : PySem.W.Frag} {w : World} {W : Wd} {H : Hp} {st : Sto} (s : SR K w W H st) {p : Addr} (hp : H p = none) : p ∉ W.β ∧ ¬ W.F p :=
  ⟨(fun z => by
    obtain ⟨o, e⟩ := s.βdom z
    rw [hp] at e
    cases e), (fun z => by
    obtain ⟨o, e⟩ := s.dom p z
    rw [hp] at e
    cases e)⟩
theorem pe_dictO {ev : Expr → Ev → Sto → R RV} {ks : List (Option Expr)} {vs : List Expr} {pos : Pos} (hall : ks.all (·.isSome) = true) (hl : ks.length = vs.length) (h15 : ks.length ≤ 15) (hk : ∀ k, some k ∈ ks → PE X k (tEv X.K X.w xr E (ev k))) (hv : ∀ v ∈ vs, PE X v (tEv X.K X.w xr E (ev v))) :
    PE X (.Dict ks vs pos) (tEv X.K X.w xr E fun env st => (evPairsO ev ks vs env st).bind fun kvs st => (ofO (putAll [] kvs) st).bind fun kvs st => .ok (.odi kvs) st) := by
  by_cases h0 : ks = []
  · subst h0
    obtain rfl : vs = [] := List.length_eq_zero_iff.mp hl.symm
    refine PE.imp pe_rawNew fun σ H Q ⟨W, env, st, F, h⟩ p hp => ?_
    have h' : Good X.K X.w xr (.ok (.odi []) st) W H (E σ) Q := h
    obtain ⟨nb, nF⟩ := new_no F.sr hp
    refine h' W _ _ [p] (Up.refl.new hp) (F.sr.new hp) (.odi upd_same keysNil .nil) ⟨by simp, fun a m => ?_, fun a m => (List.mem_singleton.mp m) ▸ F.sr.npP hp⟩
    obtain rfl : a = p := by simpa using m
    exact ⟨nF, nb, hp⟩
  refine ⟨fun pins s σ H Q I ⟨W, env, st, F, h⟩ => ?_⟩
  have hn := I.hok.fresh (Nat.le_refl s.heap.objs.size)
  have I1 := I.laid (a := s.heap.objs.size) (o := .dK []) (h' := s.heap.push { cls := .type "dict", data := .dict #[] }) (t' := s.toks) (fun _ _ q => Heap.get?_push_of_some _ q) (Nat.le_refl _) (dk_empty s.heap I.big)
  let P : List (V × V) → Hp → Prop := fun ps H2 => ∃ W2 st2 kvs A, Up W (upd H s.heap.objs.size (.dK [])) W2 H2 ∧ SR X.K X.w W2 H2 st2 ∧ PRr X.K X.w W2 H2 kvs ps A ∧ Fresh W2 (upd H s.heap.objs.size (.dK [])) A ∧ kvs.length = ks.length ∧ Good X.K X.w xr ((ofO (putAll [] kvs) st2).bind fun kvs st => .ok (.odi kvs) st) W H (E σ) Q
  have hP : GoodP' X.K X.w xr false (evPairsO ev ks vs env st) W (upd H s.heap.objs.size (.dK [])) (E σ) P := GoodP'.pend hn h fun x st2 W2 H2 v A er g u s r f _ => ⟨W2, st2, x, A, u, s, r, f, evPairsO_len er, g⟩
  refine wpAny_Dict_walk (knd := plainKind X.prog X.w) hall hl h0 h15 (thn ((pps_of (pos := pos) hall hl hk hv).run pins _ σ _ P I1 (pairsO_ok (F.pend hn _) hP)) fun ws s2 ⟨ps, H2, I2, rel, W2, st2, kvs, A, u, sr, r, f, hz, g⟩ => ?_)
  obtain ⟨kvs', e1, g2⟩ := ofO_good g
  obtain ⟨e2, ko⟩ := putAll_ok e1 keysNil
  rw [List.nil_append] at e2
  subst e2
  obtain ⟨rs, c, d0, nxt⟩ := disp_end I2 F.sr hn u sr r f rel ko (by omega)
  refine ⟨rs, c, d0, fun h' dd hs => ?_⟩
  obtain ⟨es, I3, rk, u3, s3, f3, np⟩ := nxt h' dd hs (s2.toks + ws.length)
  obtain ⟨e0, nb, nF⟩ := pend_is F.sr hn u
  refine ⟨.ref s.heap.objs.size, _, I3, rfl, g2 W2 _ _ (s.heap.objs.size :: A) u3 s3 (.odi upd_same ko rk) ⟨List.nodup_cons.mpr ⟨np, f3.nd⟩, fun a m => ?_, fun a m => (List.mem_cons.mp m).elim (fun e => by rw [e, u.P]; exact F.sr.npP hn) (f3.np a)⟩⟩
  rcases List.mem_cons.mp m with rfl | m
  · exact ⟨nF, nb, hn⟩
  · exact f3.no a m
theorem pe_dictC {ev : Expr → Ev → Sto → R RV} {ks : List (Option Expr)} {vs : List Expr} {pos : Pos} (hall : ks.all (·.isSome) = true) (hl : ks.length = vs.length) (h15 : ks.length ≤ 15) (hk : ∀ k, some k ∈ ks → PE X k (tEv X.K X.w xr E (ev k))) (hv : ∀ v ∈ vs, PE X v (tEv X.K X.w xr E (ev v))) :
    PE X (.Dict ks vs pos) (tEv X.K X.w xr E fun env st => (evPairs ev ks vs env st).bind fun kvs st => (ofO (putAll [] kvs) st).bind fun kvs st => .ok (.ref st.length) (st ++ [.dct kvs])) := by
  by_cases h0 : ks = []
  · subst h0
    obtain rfl : vs = [] := List.length_eq_zero_iff.mp hl.symm
    refine PE.imp pe_rawNew fun σ H Q ⟨W, env, st, F, h⟩ p hp => ?_
    have h' : Good X.K X.w xr (.ok (.ref st.length) (st ++ [.dct []])) W H (E σ) Q := h
    obtain ⟨nb, nF⟩ := new_no F.sr hp
    have sn := F.sr.new (o := rawO p []) hp
    refine h' (W.push p) _ _ [] ((Up.refl.new hp).push hp) (sn.push nb nF (.dct upd_same keysNil .nil fun _ m => by cases m)) (.ref ?_) Fresh.nil
    show (W.β ++ [p])[st.length]? = some p
    rw [← F.sr.len, List.getElem?_append_right (Nat.le_refl _)]
    simp
  refine ⟨fun pins s σ H Q I ⟨W, env, st, F, h⟩ => ?_⟩
  have hn := I.hok.fresh (Nat.le_refl s.heap.objs.size)
  have I1 := I.laid (a := s.heap.objs.size) (o := .dK []) (h' := s.heap.push { cls := .type "dict", data := .dict #[] }) (t' := s.toks) (fun _ _ q => Heap.get?_push_of_some _ q) (Nat.le_refl _) (dk_empty s.heap I.big)
  let P : List (V × V) → Hp → Prop := fun ps H2 => ∃ W2 st2 kvs A, Up W (upd H s.heap.objs.size (.dK [])) W2 H2 ∧ SR X.K X.w W2 H2 st2 ∧ PRr X.K X.w W2 H2 kvs ps A ∧ Fresh W2 (upd H s.heap.objs.size (.dK [])) A ∧ kvs.length = ks.length ∧ (A = [] ∧ ∀ p ∈ kvs, flat0 p.2) ∧ Good X.K X.w xr ((ofO (putAll [] kvs) st2).bind fun kvs st => .ok (.ref st.length) (st ++ [.dct kvs])) W H (E σ) Q
  have hP : GoodP' X.K X.w xr true (evPairs ev ks vs env st) W (upd H s.heap.objs.size (.dK [])) (E σ) P := GoodP'.pend hn h fun x st2 W2 H2 v A er g u s r f ff => ⟨W2, st2, x, A, u, s, r, f, evPairs_len er, ff rfl, g⟩
  refine wpAny_Dict_walk (knd := plainKind X.prog X.w) hall hl h0 h15 (thn ((pps_of (pos := pos) hall hl hk hv).run pins _ σ _ P I1 (pairs_ok (F.pend hn _) hP)) fun ws s2 ⟨ps, H2, I2, rel, W2, st2, kvs, A, u, sr, r, f, hz, ⟨eA, ff⟩, g⟩ => ?_)
  subst eA
  obtain ⟨kvs', e1, g2⟩ := ofO_good g
  obtain ⟨e2, ko⟩ := putAll_ok e1 keysNil
  rw [List.nil_append] at e2
  subst e2
  obtain ⟨rs, c, d0, nxt⟩ := disp_end I2 F.sr hn u sr r f rel ko (by omega)
  refine ⟨rs, c, d0, fun h' dd hs => ?_⟩
  obtain ⟨es, I3, rk, u3, s3, f3, np⟩ := nxt h' dd hs (s2.toks + ws.length)
  obtain ⟨e0, nb, nF⟩ := pend_is F.sr hn u
  have fc : ∀ q ∈ kvs', flatC st2.length q.2 := by
    have : ∀ {kvs : List (PyData × RV)} {es : List DictEntry} {A : List Addr}, RKv X.K X.w W2 (upd H2 s.heap.objs.size (rawO s.heap.objs.size es)) kvs es A → True := fun _ => trivial
    intro q hq
    have hb : ∀ {kvs : List (PyData × RV)} {ds : List DictEntry} {A : List Addr} {H' : Hp}, RKv X.K X.w W2 H' kvs ds A → ∀ q ∈ kvs, ∃ v B, RVr X.K X.w W2 H' q.2 v B := by
      intro kvs ds A H' h
      induction kvs generalizing ds A with
      | nil => intro q m; cases m
      | cons y r ih =>
        cases h with
        | cons a l b c d e f g =>
          intro q m
          rcases List.mem_cons.mp m with rfl | m
          · exact ⟨_, _, e⟩
          · exact ih g q m
    obtain ⟨v, B, rv⟩ := hb rk q hq
    exact flat_C s3 rv (ff q hq)
  refine ⟨.ref s.heap.objs.size, _, I3, rfl, g2 (W2.push s.heap.objs.size) _ _ [] (u3.push hn) (s3.push nb nF (.dct upd_same ko rk fc)) (.ref ?_) Fresh.nil⟩
  show (W2.β ++ [s.heap.objs.size])[st2.length]? = some _
  rw [← sr.len, List.getElem?_append_right (Nat.le_refl _)]
  simp
end
end Z

set_option linter.all false
set_option maxRecDepth 100000
set_option maxHeartbeats 1000000
/-! Z24: things of the store are changed. -/
namespace Z
open PySem PySem.Spec PyProof.Rows L2
section
variable {K : PySem.W.Frag} {w : World} {xr : XR} {W W0 : Wd} {H H0 : Hp} {st : Sto}
theorem cell_not (s : SR K w W H st) {a : Addr} (m : a ∈ W.β) : (∀ vs, ¬ Rd H a (.tup vs)) ∧ ∀ o vs, H a ≠ some (.frz o (.lst vs)) := by
  rcases s.cell m with ⟨us, e⟩ | ⟨es, e⟩
  · exact ⟨fun vs h => by rcases h with h | ⟨o, h⟩ <;> (rw [e] at h; cases h), fun o vs h => by rw [e] at h; cases h⟩
  · refine ⟨fun vs h => ?_, fun o vs h => ?_⟩
    · rcases h with h | ⟨o, h⟩ <;> rw [e] at h
      · exact raw_ne_tup (Option.some.inj h)
      · exact raw_ne_frz (Option.some.inj h)
    · rw [e] at h
      exact raw_ne_frz (Option.some.inj h)
theorem setc_keep (s : SR K w W H st) {a : Addr} (m : a ∈ W.β) (o : HO) : KeepR K W H W (upd H a o) := by
  obtain ⟨n1, n2⟩ := cell_not s m
  have tup : ∀ b vs, SqT K H b vs → SqT K (upd H a o) b vs := fun b vs h => by
    rcases h with h | h
    · have hne : b ≠ a := fun z => by subst z; exact n1 _ h
      rcases h with h | ⟨ob, h⟩
      · exact .inl (.inl ((upd_ne hne).trans h))
      · exact .inl (.inr ⟨ob, (upd_ne hne).trans h⟩)
    · exact .inr h
  have fro : ∀ b ob vs, H b = some (.frz ob (.lst vs)) → (upd H a o) b = some (.frz ob (.lst vs)) := fun b ob vs h => by
    rw [upd_ne (fun z => by subst z; exact n2 _ _ h)]
    exact h
  refine ⟨⟨tup, fro, fun b f => ⟨f, upd_ne fun z => by subst z; exact s.bf b m f⟩⟩, List.prefix_refl _, ⟨tup, fro, fun b ⟨n, np, ob, eo, dd⟩ => ?_⟩⟩
  have hne : b ≠ a := fun z => by subst z; exact n m
  exact ⟨⟨n, np, ob, by rw [upd_ne hne]; exact eo, dd⟩, upd_ne hne⟩
theorem setc_up (u : Up W0 H0 W H) {a : Addr} (m : a ∈ W.β) (o : HO) : Up W0 H0 W (upd H a o) where
  F := u.F
  O := u.O
  P := u.P
  β := u.β
  ext := fun b ob h n => by
    have hne : b ≠ a := fun z => by
      subst z
      rcases u.βn b m with q | q
      · exact n q
      · rw [h] at q
        cases q
    rw [upd_ne hne]
    exact u.ext b ob h n
  dom := fun b ob h => by
    by_cases z : b = a
    · subst z
      exact ⟨o, upd_same⟩
    · rw [upd_ne z]
      exact u.dom b ob h
  Fn := u.Fn
  βn := u.βn
theorem setc_sr (s : SR K w W H st) {i : Nat} {a : Addr} (hb : W.β[i]? = some a) {o : HO} {c : Cell} (hc : CellR K w W (upd H a o) i a c) : SR K w W (upd H a o) (st.set i c) where
  len := by rw [List.length_set]; exact s.len
  nd := s.nd
  bf := s.bf
  pf := fun b f => by
    obtain ⟨n, ob, eo⟩ := s.pf b f
    refine ⟨n, ?_⟩
    by_cases z : b = a
    · exact ⟨o, by rw [z]; exact upd_same⟩
    · exact ⟨ob, by rw [upd_ne z]; exact eo⟩
  dom := fun b f => by
    obtain ⟨ob, eo⟩ := s.dom b f
    exact ⟨ob, by rw [upd_ne (fun z => by subst z; exact s.bf b (List.mem_of_getElem? hb) f)]; exact eo⟩
  cells := fun j c' b h1 h2 => by
    by_cases hj : j = i
    · subst hj
      have hl : j < st.length := by
        rw [← s.len]
        exact (List.getElem?_eq_some_iff.mp hb).1
      rw [List.getElem?_set_self hl] at h1
      cases h1
      rw [hb] at h2
      cases h2
      exact hc
    · rw [List.getElem?_set_ne (Ne.symm hj)] at h1
      have hne : b ≠ a := fun z => by
        subst z
        have h4 := (List.getElem?_eq_some_iff.mp h2)
        exact hj ((List.getElem?_inj h4.1 s.nd).mp (h2.trans hb.symm))
      exact (s.cells j c' b h1 h2).keep (setc_keep s (List.mem_of_getElem? hb) o) (upd_ne hne)
  fr := fun b h => s.fr b (by
    by_cases z : b = a
    · subst z
      rw [upd_same] at h
      cases h
    · rw [upd_ne z] at h
      exact h)
theorem RVs.app {xs ys : List RV} {vs us : List V} {A B : List Addr} (h : RVs K w W H xs vs A) (h2 : RVs K w W H ys us B) : ∃ D, RVs K w W H (xs ++ ys) (vs ++ us) D ∧ D = A ++ B := by
  induction xs generalizing vs A with
  | nil =>
    cases h
    exact ⟨_, h2, rfl⟩
  | cons x xs ih =>
    cases h with
    | cons h1 hs =>
      obtain ⟨D, q1, rfl⟩ := ih hs
      exact ⟨_, .cons h1 q1, by simp⟩
theorem RVs.single {x : RV} {vs : List V} (h : RVs K w W H [x] vs []) : ∃ u, vs = [u] ∧ RVr K w W H x u [] := by
  obtain ⟨u, e1, e2⟩ := h.getN (i := 0) rfl rfl
  have hl := h.length
  cases vs with
  | nil => simp at e1
  | cons v r =>
    cases r with
    | nil =>
      simp at e1
      subst e1
      exact ⟨_, rfl, e2⟩
    | cons _ _ => simp at hl
theorem RVs.erase : ∀ {xs : List RV} {vs : List V} {A : List Addr} (i : Nat), RVs K w W H xs vs A → A = [] → RVs K w W H (xs.eraseIdx i) (vs.eraseIdx i) []
  | _, _, _, _, .nil, _ => .nil
  | _, _, _, 0, .cons _ t, z => by
    obtain ⟨_, z2⟩ := List.append_eq_nil_iff.mp z
    subst z2
    exact t
  | _, _, _, i + 1, .cons (A := A1) (B := B1) r t, z => by
    obtain ⟨z1, z2⟩ := List.append_eq_nil_iff.mp z
    subst z1
    exact .cons (A := []) (B := []) r (RVs.erase i t z2)
theorem RVs.setD : ∀ {xs : List RV} {vs : List V} {A : List Addr} (i : Nat) {x : RV} {v : V}, RVs K w W H xs vs A → A = [] → RVr K w W H x v [] → RVs K w W H (xs.set i x) (vs.set i v) []
  | _, _, _, _, _, _, .nil, _, _ => .nil
  | _, _, _, 0, _, _, .cons _ t, z, r => by
    obtain ⟨_, z2⟩ := List.append_eq_nil_iff.mp z
    subst z2
    exact .cons (A := []) (B := []) r t
  | _, _, _, i + 1, _, _, .cons (A := A1) (B := B1) r t, z, q => by
    obtain ⟨z1, z2⟩ := List.append_eq_nil_iff.mp z
    subst z1
    exact .cons (A := []) (B := []) r (RVs.setD i t z2 q)
end
section
variable {X : Cx} {xr : XR} {E : L2.St → XW}
/-- a receiver's type -/
def TyQ (X : Cx) (T : String) (x : V) (H : Hp) : Prop := ∀ (pins : List (Addr × Obj)) (σ : L2.St) (s : Shared) (v : Value), Inv X pins σ H s → RelV x v → s.TypeIs v T ∧ ∀ a, v = .ref a → ∃ ob, s.heap.get? a = some ob ∧ ob.dict = none
def tBMQ (X : Cx) (T : String) (r : V → List V → Hp → VK → Prop) (to : TE) (t : TA) : TE := fun σ H Q => to σ H fun x H1 => TyQ X T x H1 ∧ t σ H1 fun xs H2 => r x xs H2 Q
theorem pe_bmQ {o e : Expr} {es : List Expr} {to : TE} {t : TA} {name : Str} {apos cpos : Pos} {T id : String} {r : V → List V → Hp → VK → Prop} (pa : PlainAttrs T) (slot : Slot T name id) (hty : typeOf (.builtin id) = pure (.type "method_descriptor")) (hm : MtM X id r) (ho : PE X o to) (ha : PA X (e :: es) t)
    (hbase : attributeBase o name X.env (eval o X.env) = eval o X.env)
    (hfew : ((backTo cpos (starEach (e :: es) X.env)).all (fun x => !x.1) && (backToKw cpos (keywordEach [] X.env)).all (fun x => x.1.isSome)
      && decide ((e :: es).length + ([] : List Keyword).length + (if ([] : List Keyword).isEmpty then 0 else 1) < 30)) = true)
    (hline : (apos.endLine == cpos.line) = true) (hs : starEach (e :: es) X.env = (false, eval e X.env) :: starEach es X.env) (hplain : (backTo cpos (starEach es X.env)).any (·.1) = false) :
    PE X (.Call (.Attribute o name apos) (e :: es) [] cpos) (tBMQ X T r to t) := by
  refine ⟨fun pins s σ H Q I h => ?_⟩
  refine wpAny_Call_method_late hbase hfew hline rfl (thn (ho.run pins s σ H _ I h) fun v s1 ⟨x, H1, I1, r1, ty, q1⟩ => ?_)
  obtain ⟨h1, h2⟩ := ty pins σ s1 v I1 r1
  refine ⟨T, id, pa, slot, hty, h1, h2, ?_⟩
  have hA := ha.run cpos pins s1 σ H1 _ I1 q1
  rw [hs] at hA ⊢
  refine Calls.callWith_builtin (by show (false || (backTo cpos (starEach es X.env)).any (·.1)) = false; rw [hplain] <;> rfl) (Calls.evalArgs_plain ?_)
  exact thn hA fun us s2 ⟨vs, H2, I2, r2, q2⟩ => hm pins s2 σ H2 x vs v us Q I2 r1 r2 q2
theorem ty_lst {a : Addr} {vs : List V} {H : Hp} (h : H a = some (.lst vs)) : TyQ X "list" (.ref a) H := fun pins σ s v I r => by
  obtain rfl := r
  obtain ⟨_, its, n, _, e⟩ := I.hok a _ h
  exact ⟨⟨_, e, rfl⟩, fun b z => by cases z; exact ⟨_, e, rfl⟩⟩
theorem ty_raw {a : Addr} {es : List DictEntry} {H : Hp} (h : H a = some (rawO a es)) : TyQ X "dict" (.ref a) H := fun pins σ s v I r => by
  obtain rfl := r
  obtain ⟨⟨arr, ep, ⟨o, q1, q2, q3⟩, _⟩, _⟩ := raw_of I h
  exact ⟨⟨o, q1, q2.1⟩, fun b z => by cases z; exact ⟨o, q1, q2.2.1⟩⟩
/-- a method of a thing of the store, by values -/
def rMeth (X : Cx) (xr : XR) (m : Str) : V → List V → Hp → VK → Prop := fun x vs H Q => ∃ W0 H0 W st y ys E, Up W0 H0 W H ∧ SR X.K X.w W H st ∧ RVr X.K X.w W H y x [] ∧ RVs X.K X.w W H ys vs [] ∧ Good X.K X.w xr (methR m y ys st) W0 H0 E Q
theorem mt_app : MtM X "list.append" (rMeth X xr "append") := by
  intro pins s σ H x vs v us Q I rx rv ⟨W0, H0, W, st, y, ys, E, up, sr, ry, rys, h⟩
  cases ry <;> (try exact h.elim)
  rename_i i a hb
  have h' : Good X.K X.w xr (cellMeth "append" i ys st) W0 H0 E Q := h
  unfold cellMeth at h'
  split at h'
  · rename_i xs ec
    rw [if_pos (by decide +kernel)] at h'
    split at h'
    · rename_i d
      have c := sr.cells i _ a ec hb
      cases c with
      | @lst _ ws c1 c2 c3 =>
        split at h'
        · rename_i hl
          obtain ⟨u, rfl, r1⟩ := rys.single
          · cases r1 with
            | dat rd =>
              have mem : a ∈ W.β := List.mem_of_getElem? hb
              refine mt_append pins s σ H _ _ v us Q I rx rv ⟨a, ws, u, rfl, rfl, c1, by rw [← c2.length, ← lim_eq]; exact hl, ?_⟩
              have kp := setc_keep sr mem (.lst (ws ++ [u]))
              have rd' : RVr X.K X.w W (upd H a (.lst (ws ++ [u]))) (.dat d) u [] := .dat (rd.keep kp.k)
              obtain ⟨D, q1, q2⟩ := (c2.keep kp fun _ m => by cases m).app (.cons (A := []) (B := []) rd' .nil)
              subst q2
              refine h' W _ _ [] (setc_up up mem _) (setc_sr sr hb (.lst upd_same q1 fun z m => ?_)) (.dat .non) Fresh.nil
              rcases List.mem_append.mp m with m | m
              · exact c3 z m
              · obtain rfl : z = .dat d := by simpa using m
                trivial
        · exact h'.elim
    · exact h'.elim
  · rename_i kvs ec
    rw [if_neg (by decide +kernel)] at h'
    exact h'.elim
  · exact h'.elim
theorem mt_popc : MtM X "list.pop" (rMeth X xr "pop") := by
  intro pins s σ H x vs v us Q I rx rv ⟨W0, H0, W, st, y, ys, E, up, sr, ry, rys, h⟩
  cases ry <;> (try exact h.elim)
  rename_i i a hb
  have h' : Good X.K X.w xr (cellMeth "pop" i ys st) W0 H0 E Q := h
  unfold cellMeth at h'
  split at h'
  · rename_i xs ec
    rw [if_neg (by decide +kernel), if_pos (by decide +kernel)] at h'
    split at h'
    · rename_i z
      have c := sr.cells i _ a ec hb
      cases c with
      | @lst _ ws c1 c2 c3 =>
        split at h'
        · rename_i j ej
          split at h'
          · rename_i e0 ee
            obtain ⟨u, rfl, r1⟩ := rys.single
            · cases r1 with
              | dat rd =>
                cases rd
                have mem : a ∈ W.β := List.mem_of_getElem? hb
                obtain ⟨yv, e5, e6⟩ := c2.getN rfl ee
                rw [place_ixN] at ej
                obtain ⟨g1, g2, g3, g4⟩ := ixN_seq ej
                have hz : xs.length ≤ sizeLine := by
                  rw [c2.length]
                  obtain ⟨z, _⟩ := I.hok a _ c1
                  exact z
                have ln := line63
                refine mt_popAt pins s σ H _ _ v us Q I rx rv ⟨a, ws, z, j, yv, rfl, rfl, c1, by omega, by omega, by rw [← c2.length]; exact g1, e5, ?_⟩
                have kp := setc_keep sr mem (.lst (ws.eraseIdx j))
                have q1 := (c2.keep kp fun _ m => by cases m).erase j rfl
                have fe := c3 e0 (List.mem_of_getElem? ee)
                refine h' W _ _ [] (setc_up up mem _) (setc_sr sr hb (.lst upd_same q1 fun z m => c3 z (List.mem_of_mem_eraseIdx m))) (e6.keep kp fun _ m => by cases m) Fresh.nil
          · exact h'.elim
        · exact h'.elim
    · exact h'.elim
  · rename_i kvs ec
    rw [if_neg (by decide +kernel)] at h'
    exact h'.elim
  · exact h'.elim
end
end Z

set_option linter.all false
set_option maxRecDepth 100000
set_option maxHeartbeats 1000000
/-! Z25: methods of things of the store, as expressions; operators, comparisons. -/
namespace Z
open PySem PySem.Spec PyProof.Rows L2
section
variable {X : Cx} {xr : XR} {E : L2.St → XW}
theorem attrBase {o : Expr} {m : Str} {env : Env} {whole : Sem Value} (h : (match o with | .Call (.Name _ _) [] [] _ => false | _ => true) = true) : attributeBase o m env whole = whole := by
  unfold attributeBase
  split
  · cases h
  · rfl
/-- what must be seen of a method's call -/
structure MCall (X : Cx) (o : Expr) (e : Expr) (es : List Expr) (apos cpos : Pos) : Prop where
  base : (match o with | .Call (.Name _ _) [] [] _ => false | _ => true) = true
  few : ((backTo cpos (starEach (e :: es) X.env)).all (fun x => !x.1) && (backToKw cpos (keywordEach [] X.env)).all (fun x => x.1.isSome)
      && decide ((e :: es).length + ([] : List Keyword).length + (if ([] : List Keyword).isEmpty then 0 else 1) < 30)) = true
  line : (apos.endLine == cpos.line) = true
  plain : (backTo cpos (starEach es X.env)).any (·.1) = false
theorem evK_thenM {K : PySem.W.Frag} {w : World} {W0 W : Wd} {H0 H : Hp} {st : Sto} {env : Ev} {Q : VK} {ev : Expr → Ev → Sto → R RV} {es : List Expr} {f : List RV → Sto → R RV} {E : XW} {Q' : List V → Hp → Prop} (h : Good K w xr ((evK ev es env st).bind f) W0 H0 E Q) (u0 : Up W0 H0 W H)
    (k : ∀ ys st2 W2 H2 vs, ys.length = es.length → Good K w xr (f ys st2) W0 H0 E Q → Up W H W2 H2 → SR K w W2 H2 st2 → RVs K w W2 H2 ys vs [] → Q' vs H2) : GoodL K w xr (evL ev es env st) W H E Q' := by
  have h' : Good K w xr (((evL ev es env st).bind fun vs st => ofO (keeps vs) st).bind f) W0 H0 E Q := h
  rw [R.bind_assoc] at h'
  cases e : evL ev es env st with
  | err => rw [e] at h'; exact h'
  | exc c xs st' =>
    rw [e] at h'
    exact fun W' H' cls d u s q => h' W' H' cls d (u0.trans u) s q
  | ok xs st' =>
    rw [e] at h'
    intro W' H' vs A u s r fr
    obtain ⟨ys, ek, h2⟩ := ofO_good (show Good K w xr ((ofO (keeps xs) st').bind f) W0 H0 E Q from h')
    obtain ⟨u1, s1⟩ := fz_all u s fr r.dom
    exact k ys st' _ _ vs ((keeps_len ek).trans (evL_len e)) h2 u1 s1 (keeps_ok s r ek fun a m => m)
theorem methOk_lst {K : PySem.W.Frag} {w : World} {W : Wd} {H : Hp} {st : Sto} {y : RV} {v : V} {A : List Addr} (s : SR K w W H st) (r : RVr K w W H y v A) (h : methOk true y st = true) : ∃ i a vs, y = .ref i ∧ v = .ref a ∧ W.β[i]? = some a ∧ H a = some (.lst vs) := by
  cases r with
  | @ref i a hb =>
    have h' : (match st[i]? with | some (.lst _) => true | some (.dct _) => !true | none => false) = true := h
    cases ec : st[i]? with
    | none => rw [ec] at h'; cases h'
    | some c =>
      rw [ec] at h'
      have cc := s.cells i _ a ec hb
      cases cc with
      | lst c1 c2 c3 => exact ⟨i, a, _, rfl, rfl, hb, c1⟩
      | dct _ _ _ _ => cases h'
  | dat _ => cases h
  | bor _ => cases h
  | own _ _ => cases h
  | odi _ _ _ => cases h
  | tpl _ _ => cases h
  | scr _ => cases h
theorem pe_meth' {ev : Expr → Ev → Sto → R RV} {o e : Expr} {es : List Expr} {m : Str} {id : String} {apos cpos : Pos} (slot : Slot "list" m id) (hty : typeOf (.builtin id) = pure (.type "method_descriptor")) (hm : MtM X id (rMeth X xr m)) (M : MCall X o e es apos cpos)
    (ho : PE X o (tEv X.K X.w xr E (ev o))) (ha : ∀ x ∈ e :: es, PE X x (tEv X.K X.w xr E (ev x))) (hu : ∀ x ∈ e :: es, unstar x = true) :
    PE X (.Call (.Attribute o m apos) (e :: es) [] cpos) (tEv X.K X.w xr E fun env st => (ev o env st).bind fun v st => if methOk true v st then (evK ev (e :: es) env st).bind fun vs st => methR m v vs st else .err) := by
  refine PE.imp (pe_bmQ PySem.F.plainAttrs_list slot hty hm ho (pa_evL ha hu) (attrBase M.base) M.few M.line (star_cons (hu e List.mem_cons_self)) M.plain) fun σ H Q ⟨W, env, st, F, h⟩ => ⟨W, env, st, F, ?_⟩
  refine Good.then h Up.refl fun y st1 W1 H1 v A q1 u1 s1 r1 f1 => ?_
  split at q1
  · rename_i hk
    obtain ⟨i, a, vs0, rfl, rfl, hb, hl⟩ := methOk_lst s1 r1 hk
    refine ⟨ty_lst hl, W1, env, st1, F.up u1 s1, ?_⟩
    exact evK_thenM q1 u1 fun ys st2 W2 H2 vs hy q2 u2 s2 r2 => ⟨W, H, W2, st2, .ref i, ys, E σ, u1.trans u2, s2, .ref (pre_mem u2.β hb), r2, q2⟩
  · exact q1.elim
/-! ### arithmetic, comparisons -/
theorem pe_bin {ev : Expr → Ev → Sto → R RV} {a b : Expr} {op : Operator} {pos : Pos} (ha : PE X a (tEv X.K X.w xr E (ev a))) (hb : PE X b (tEv X.K X.w xr E (ev b))) :
    PE X (.BinOp a op b pos) (tEv X.K X.w xr E fun env st => (ev a env st).bind fun v st => (ev b env st).bind fun u st => (ofO (solid st v) st).bind fun x st => (ofO (solid st u) st).bind fun y st => ofO (binD op x y) st) :=
  PE.imp (pe_op (op_bin (xr := xr) op) ha hb) fun σ H Q h => tEv.two (f := fBin op) h
theorem pe_neg' {ev : Expr → Ev → Sto → R RV} {a : Expr} {pos : Pos} (ha : PE X a (tEv X.K X.w xr E (ev a))) :
    PE X (.UnaryOp .USub a pos) (tEv X.K X.w xr E fun env st => (evV ev a env st).bind fun d st => match d with | .int i => .ok (.dat (.int (-i))) st | _ => .err) := by
  refine PE.imp (pe_un un_neg ha) fun σ H Q ⟨W, env, st, F, h⟩ => ⟨W, env, st, F, ?_⟩
  have h' : Good X.K X.w xr (((ev a env st).bind fun v st => ofO (vw st v) st).bind fun d st => match d with | .int i => .ok (.dat (.int (-i))) st | _ => .err) W H (E σ) Q := h
  rw [R.bind_assoc] at h'
  refine Good.then h' Up.refl fun x st1 W1 H1 v A q1 u1 s1 r1 f1 => ?_
  obtain ⟨d, e1, q1⟩ := ofO_good q1
  have rd := vw_rep s1 r1 e1
  cases rd with
  | int i => exact ⟨i, rfl, Good.flat q1 u1 s1 (.int _)⟩
  | _ => exact q1.elim
/-- a comparison tells a bool -/
theorem cmpR_bool {op : CmpOp} {x y : RV} {st : Sto} : cmpR op x y st = .err ∨ ∃ b, cmpR op x y st = .ok (.dat (.bool b)) st := by
  have plain : ∀ op, ((ofO (vw st x) st).bind fun x st => (ofO (vw st y) st).bind fun y st => (ofO (cmpD op x y) st).bind fun c st => R.ok (RV.dat (.bool c)) st) = R.err ∨ ∃ b, ((ofO (vw st x) st).bind fun x st => (ofO (vw st y) st).bind fun y st => (ofO (cmpD op x y) st).bind fun c st => R.ok (RV.dat (.bool c)) st) = R.ok (RV.dat (.bool b)) st := fun op => by
    cases vw st x with
    | none => exact .inl rfl
    | some dx =>
      show ((ofO (vw st y) st).bind fun y st => (ofO (cmpD op dx y) st).bind fun c st => R.ok (RV.dat (.bool c)) st) = R.err ∨ ∃ b, ((ofO (vw st y) st).bind fun y st => (ofO (cmpD op dx y) st).bind fun c st => R.ok (RV.dat (.bool c)) st) = R.ok (RV.dat (.bool b)) st
      cases vw st y with
      | none => exact .inl rfl
      | some dy =>
        show ((ofO (cmpD op dx dy) st).bind fun c st => R.ok (RV.dat (.bool c)) st) = R.err ∨ ∃ b, ((ofO (cmpD op dx dy) st).bind fun c st => R.ok (RV.dat (.bool c)) st) = _
        cases cmpD op dx dy with
        | none => exact .inl rfl
        | some c => exact .inr ⟨c, rfl⟩
  have inn : ∀ neg k, inR neg k y st = .err ∨ ∃ b, inR neg k y st = .ok (.dat (.bool b)) st := fun neg k => by
    have other : ((ofO (vw st y) st).bind fun d st => match d with
      | .dict kvs => if keyOk k kvs then R.ok (RV.dat (.bool (if neg then !(getK kvs k).isSome else (getK kvs k).isSome))) st else .err
      | d => (ofO (cmpD (if neg then .NotIn else .In) k d) st).bind fun b st => .ok (.dat (.bool b)) st) = .err ∨ ∃ b, ((ofO (vw st y) st).bind fun d st => match d with
      | .dict kvs => if keyOk k kvs then R.ok (RV.dat (.bool (if neg then !(getK kvs k).isSome else (getK kvs k).isSome))) st else .err
      | d => (ofO (cmpD (if neg then .NotIn else .In) k d) st).bind fun b st => .ok (.dat (.bool b)) st) = .ok (.dat (.bool b)) st := by
      cases vw st y with
      | none => exact .inl rfl
      | some d =>
        have sq : ∀ d, (((ofO (cmpD (if neg then .NotIn else .In) k d) st).bind fun b st => R.ok (RV.dat (.bool b)) st) = .err) ∨ ∃ b, ((ofO (cmpD (if neg then .NotIn else .In) k d) st).bind fun b st => R.ok (RV.dat (.bool b)) st) = .ok (.dat (.bool b)) st := fun d => by
          cases cmpD (if neg then .NotIn else .In) k d with
          | none => exact .inl rfl
          | some c => exact .inr ⟨c, rfl⟩
        cases d with
        | dict kvs =>
          show (if keyOk k kvs then R.ok (RV.dat (.bool (if neg then !(getK kvs k).isSome else (getK kvs k).isSome))) st else .err) = .err ∨ ∃ b, (if keyOk k kvs then R.ok (RV.dat (.bool (if neg then !(getK kvs k).isSome else (getK kvs k).isSome))) st else .err) = _
          split
          · exact .inr ⟨_, rfl⟩
          · exact .inl rfl
        | _ => exact sq _
    unfold inR
    dsimp only
    split
    · split
      · split
        · exact .inr ⟨_, rfl⟩
        · exact .inl rfl
      · exact other
    · exact other
  have two : ∀ neg, ((ofO (vw st x) st).bind fun k st => inR neg k y st) = .err ∨ ∃ b, ((ofO (vw st x) st).bind fun k st => inR neg k y st) = .ok (.dat (.bool b)) st := fun neg => by
    cases vw st x with
    | none => exact .inl rfl
    | some k => exact inn neg k
  cases op with
  | In => exact two false
  | NotIn => exact two true
  | _ => exact plain _
theorem op_cmpR (op : CmpOp) (hu : X.A.units + 66 < cLine) : OpR X (compareOp op) (rTwo X.K X.w xr (cmpR op)) := by
  intro pins s σ H x y v u Q I rx ry ⟨W0, H0, W, st, xv, yv, E, ⟨up, sr, A, B, r1, r2, f⟩, h⟩
  rcases cmpR_bool (op := op) (x := xv) (y := yv) (st := st) with e | ⟨b, e⟩
  · rw [e] at h
    exact h.elim
  · rw [e] at h
    exact op_cmpX op hu pins s σ H x y v u Q I rx ry ⟨W, st, xv, yv, A, B, b, sr, r1, r2, e, h.flat up sr (.bl b)⟩
theorem pe_cmp1 {ev : Expr → Ev → Sto → R RV} {a b : Expr} {op : CmpOp} {pos : Pos} (hu : X.A.units + 66 < cLine) (ha : PE X a (tEv X.K X.w xr E (ev a))) (hb : PE X b (tEv X.K X.w xr E (ev b))) (hm : behindInMarks op b = false) :
    PE X (.Compare a [op] [b] pos) (tEv X.K X.w xr E fun env st => (ev a env st).bind fun x st => (ev b env st).bind fun y st => cmpR op x y st) :=
  PE.imp (pe_cmpR (op_cmpR (xr := xr) op hu) ha hb hm) fun σ H Q h => tEv.two (f := cmpR op) h
theorem cmp_good {K : PySem.W.Frag} {w : World} {op : CmpOp} {x y : RV} {st : Sto} {W : Wd} {H : Hp} {E : XW} {Q : VK} (h : Good K w xr (cmpR op x y st) W H E Q) : Good K w xr (cmpR op x y st) W H E fun v H' => ∃ k, v = .bl k ∧ Q v H' := by
  rcases cmpR_bool (op := op) (x := x) (y := y) (st := st) with e | ⟨b, e⟩
  · rw [e] at h
    exact h.elim
  · rw [e] at h ⊢
    intro W' H' v A u s r f
    cases r with
    | dat rd =>
      cases rd with
      | bl b => exact ⟨b, rfl, h W' H' _ _ u s (.dat (.bl b)) f⟩
theorem pt_cmp1 {ev : Expr → Ev → Sto → R RV} {a b : Expr} {op : CmpOp} {pos : Pos} (hu : X.A.units + 66 < cLine) (ha : PE X a (tEv X.K X.w xr E (ev a))) (hb : PE X b (tEv X.K X.w xr E (ev b))) (hm : behindInMarks op b = false) :
    PT X (.Compare a [op] [b] pos) (tT X.K X.w xr E fun env st => (((ev a env st).bind fun x st => (ev b env st).bind fun y st => cmpR op x y st).bind truthOf)) := by
  refine PT.imp (pt_cmpR (op_cmpR (xr := xr) op hu) ha hb hm) fun σ H Q ⟨W, env, st, F, h⟩ => ?_
  refine tEv.two (f := cmpR op) ⟨W, env, st, F, ?_⟩
  dsimp only at h ⊢
  cases e : (ev a env st).bind fun x st => (ev b env st).bind fun y st => cmpR op x y st with
  | err => rw [e] at h; exact h
  | exc c xs st' => rw [e] at h; exact h
  | ok z st' =>
    rw [e] at h
    have hz : ∃ k, z = .dat (.bool k) := by
      cases e1 : ev a env st with
      | err => rw [e1] at e; cases e
      | exc c xs st' => rw [e1] at e; cases e
      | ok x st1 =>
        rw [e1] at e
        have e' : ((ev b env st1).bind fun y st => cmpR op x y st) = .ok z st' := e
        cases e2 : ev b env st1 with
        | err => rw [e2] at e'; cases e'
        | exc c xs st' => rw [e2] at e'; cases e'
        | ok y st2 =>
          rw [e2] at e'
          have e'' : cmpR op x y st2 = .ok z st' := e'
          rcases cmpR_bool (op := op) (x := x) (y := y) (st := st2) with q | ⟨k, q⟩
          · rw [q] at e''; cases e''
          · rw [q] at e''; cases e''; exact ⟨k, rfl⟩
    obtain ⟨k, rfl⟩ := hz
    intro W' H' v A u s r f
    have h' : GoodB X.K X.w xr (.ok k st') W H (E σ) Q := h
    cases r with
    | dat rd => cases rd; exact ⟨k, rfl, h' W' H' u s⟩
/-- two comparisons, one behind another -/
def chainR (ev : Expr → Ev → Sto → R RV) (a b c : Expr) (op op' : CmpOp) (env : Ev) (st : Sto) : R RV := (ev a env st).bind fun x st => (ev b env st).bind fun y st => (cmpR op x y st).bind fun t st => match t with
  | .dat (.bool true) => (ev c env st).bind fun z st => cmpR op' y z st
  | t => .ok t st
theorem chain_ok {ev : Expr → Ev → Sto → R RV} {a b c : Expr} {op op' : CmpOp} {σ : L2.St} {H : Hp} {Q : VK} (h : tEv X.K X.w xr E (chainR ev a b c op op') σ H Q) : tChain (rCmpX X.K X.w op) (rCmpX X.K X.w op') (tEv X.K X.w xr E (ev a)) (tEv X.K X.w xr E (ev b)) (tEv X.K X.w xr E (ev c)) σ H Q := by
  obtain ⟨W, env, st, F, h⟩ := h
  refine ⟨W, env, st, F, Good.then h Up.refl fun x st1 W1 H1 v A h1 u1 s1 r1 f1 => ⟨W1, env, st1, F.up u1 s1, Good.then h1 u1 fun y st2 W2 H2 u B h2 u2 s2 r2 f2 => ?_⟩⟩
  have rx := r1.up u2 s1 fun a m => (f1.no a m).2.1
  have F2 := F.up (u1.trans u2) s2
  rcases cmpR_bool (op := op) (x := x) (y := y) (st := st2) with e | ⟨k, e⟩
  · rw [e] at h2
    exact h2.elim
  · rw [e] at h2
    refine ⟨W2, st2, x, y, A, B, k, s2, rx, r2, e, k, rfl, ?_⟩
    cases k with
    | false =>
      have h3 : Good X.K X.w xr (.ok (.dat (.bool false)) st2) W H (E σ) Q := h2
      exact h3.flat (u1.trans u2) s2 (.bl false)
    | true =>
      have h3 : Good X.K X.w xr ((ev c env st2).bind fun z st => cmpR op' y z st) W H (E σ) Q := h2
      refine ⟨W2, env, st2, F2, Good.then h3 (u1.trans u2) fun z st3 W3 H3 vz C h4 u3 s3 r3 f3 => ?_⟩
      rcases cmpR_bool (op := op') (x := y) (y := z) (st := st3) with e' | ⟨k', e'⟩
      · rw [e'] at h4
        exact h4.elim
      · rw [e'] at h4
        exact ⟨W3, st3, y, z, B, C, k', s3, r2.up u3 s2 fun a m => (f2.no a m).2.1, r3, e', Good.flat h4 ((u1.trans u2).trans u3) s3 (.bl k')⟩
theorem pe_chain2 {ev : Expr → Ev → Sto → R RV} {a b c : Expr} {op op' : CmpOp} {pos : Pos} (hu : X.A.units + 66 < cLine) (ha : PE X a (tEv X.K X.w xr E (ev a))) (hb : PE X b (tEv X.K X.w xr E (ev b))) (hc : PE X c (tEv X.K X.w xr E (ev c))) (hm : lastMarks [op, op'] [b, c] = false) :
    PE X (.Compare a [op, op'] [b, c] pos) (tEv X.K X.w xr E (chainR ev a b c op op')) :=
  PE.imp (pe_chain (op_cmpX op hu) (op_cmpX op' hu) ha hb hc hm) fun σ H Q h => chain_ok h
theorem chain_bool {ev : Expr → Ev → Sto → R RV} {a b c : Expr} {op op' : CmpOp} {env : Ev} {st st' : Sto} {z : RV} (e : chainR ev a b c op op' env st = .ok z st') : ∃ k, z = .dat (.bool k) := by
  unfold chainR at e
  cases e1 : ev a env st with
  | err => rw [e1] at e; cases e
  | exc c xs st' => rw [e1] at e; cases e
  | ok x st1 =>
    rw [e1] at e
    have e' : ((ev b env st1).bind fun y st => (cmpR op x y st).bind fun t st => match t with
      | .dat (.bool true) => (ev c env st).bind fun z st => cmpR op' y z st
      | t => .ok t st) = .ok z st' := e
    cases e2 : ev b env st1 with
    | err => rw [e2] at e'; cases e'
    | exc c xs st' => rw [e2] at e'; cases e'
    | ok y st2 =>
      rw [e2] at e'
      have e'' : ((cmpR op x y st2).bind fun t st => match t with
        | .dat (.bool true) => (ev c env st).bind fun z st => cmpR op' y z st
        | t => .ok t st) = .ok z st' := e'
      rcases cmpR_bool (op := op) (x := x) (y := y) (st := st2) with q | ⟨k, q⟩
      · rw [q] at e''; cases e''
      · rw [q] at e''
        cases k with
        | false => cases (show R.ok (RV.dat (.bool false)) st2 = .ok z st' from e''); exact ⟨_, rfl⟩
        | true =>
          have e3 : ((ev c env st2).bind fun z st => cmpR op' y z st) = .ok z st' := e''
          cases e4 : ev c env st2 with
          | err => rw [e4] at e3; cases e3
          | exc c xs st' => rw [e4] at e3; cases e3
          | ok w st3 =>
            rw [e4] at e3
            have e5 : cmpR op' y w st3 = .ok z st' := e3
            rcases cmpR_bool (op := op') (x := y) (y := w) (st := st3) with q | ⟨k, q⟩
            · rw [q] at e5; cases e5
            · rw [q] at e5; cases e5; exact ⟨k, rfl⟩
theorem pt_chain2 {ev : Expr → Ev → Sto → R RV} {a b c : Expr} {op op' : CmpOp} {pos : Pos} (hu : X.A.units + 66 < cLine) (ha : PE X a (tEv X.K X.w xr E (ev a))) (hb : PE X b (tEv X.K X.w xr E (ev b))) (hc : PE X c (tEv X.K X.w xr E (ev c))) (hm : lastMarks [op, op'] [b, c] = false) :
    PT X (.Compare a [op, op'] [b, c] pos) (tT X.K X.w xr E fun env st => (chainR ev a b c op op' env st).bind truthOf) := by
  refine PT.imp (pt_chain (op_cmpX op hu) (op_cmpX op' hu) ha hb hc hm) fun σ H Q ⟨W, env, st, F, h⟩ => ?_
  refine chain_ok (xr := xr) (E := E) ⟨W, env, st, F, ?_⟩
  dsimp only at h
  cases e : chainR ev a b c op op' env st with
  | err => rw [e] at h; exact h
  | exc c xs st' => rw [e] at h; exact h
  | ok z st' =>
    rw [e] at h
    obtain ⟨k, rfl⟩ := chain_bool e
    intro W' H' v A u s r f
    have h' : GoodB X.K X.w xr (.ok k st') W H (E σ) Q := h
    cases r with
    | dat rd => cases rd; exact ⟨k, rfl, h' W' H' u s⟩
end
end Z

set_option linter.all false
set_option maxRecDepth 100000
set_option maxHeartbeats 1000000
/-! Z26: what is walked. -/
namespace Z
open PySem PySem.Spec PyProof.Rows L2
section
variable (K : PySem.W.Frag) (w : World)
/-- what J yields while T stands -/
structure WalkS (fs : Bool) (W : Wd) (H : Hp) (J : It) (xs : List RV) (T : Hp → Prop) : Prop where
  up : ∀ (W' : Wd) (H' : Hp), Up W H W' H' → T H'
  kp : fs = true → ∀ (W' : Wd) (H' : Hp), Keep K W.F H W'.F H' → T H'
  go : ∀ i H', T H' → i < xs.length → J.go i H'
  stop : ∀ i H', T H' → xs.length ≤ i → J.stop i H'
  yld : ∀ i H' x H'' y, T H' → xs[i]? = some y → J.yld i H' x H'' → (H'' = H' ∧ RVr K w W H y x []) ∨ (∃ p ds us, H' p = none ∧ x = .ref p ∧ H'' = upd H' p (.tup us) ∧ y = .dat (.tuple ds) ∧ Reps K w W.F H ds us)
def Walk (fs : Bool) (W : Wd) (H : Hp) (J : It) (xs : List RV) : Prop := ∃ T, WalkS K w fs W H J xs T
def GoodI (xr : XR) (fs : Bool) (r : R (List RV)) (W : Wd) (H : Hp) (E : XW) (Q : It → Hp → Prop) : Prop := match r with
  | .ok xs st' => ∀ W' H' J, Up W H W' H' → SR K w W' H' st' → Walk K w fs W' H' J xs → Q J H'
  | .exc c xs st' => ∀ W' H' cls d, Up W H W' H' → SR K w W' H' st' → xr c xs cls d W' H' → E cls d H'
  | .err => False
def tI (xr : XR) (fs : Bool) (E : L2.St → XW) (f : Ev → Sto → R (List RV)) : TI := fun σ H Q => ∃ W env st, FR K w W H env st σ ∧ GoodI K w xr fs (f env st) W H (E σ) Q
end
section
variable {K : PySem.W.Frag} {w : World} {xr : XR} {W W1 : Wd} {H H1 : Hp} {fs : Bool}
theorem GoodI.then {r : R RV} {f : RV → Sto → R (List RV)} {E : XW} {Q : It → Hp → Prop} {Q' : VK} (h : GoodI K w xr fs (r.bind f) W H E Q) (u0 : Up W H W1 H1)
    (k : ∀ x st2 W2 H2 v A, GoodI K w xr fs (f x st2) W H E Q → Up W1 H1 W2 H2 → SR K w W2 H2 st2 → RVr K w W2 H2 x v A → Fresh W2 H1 A → Q' v H2) : Good K w xr r W1 H1 E Q' := by
  cases r with
  | ok x st' => exact fun W' H' v A u s rv fr => k x st' W' H' v A h u s rv fr
  | exc c xs st' => exact fun W' H' cls d u s q => h W' H' cls d (u0.trans u) s q
  | err => exact h
theorem GoodI.end_ {st : Sto} {o : Option (List RV)} {E : XW} {Q : It → Hp → Prop} (h : GoodI K w xr fs (ofO o st) W H E Q) : ∃ xs, o = some xs ∧ GoodI K w xr fs (.ok xs st) W H E Q := by
  cases o with
  | none => exact h.elim
  | some a => exact ⟨a, rfl, h⟩
theorem GoodI.ofO {α : Type} {st : Sto} {o : Option α} {f : α → Sto → R (List RV)} {E : XW} {Q : It → Hp → Prop} (h : GoodI K w xr fs ((Z.ofO o st).bind f) W H E Q) : ∃ a, o = some a ∧ GoodI K w xr fs (f a st) W H E Q := by
  cases o with
  | none => exact h.elim
  | some a => exact ⟨a, rfl, h⟩
theorem RVs.getA : ∀ {xs : List RV} {vs : List V} {i : Nat} {y : RV}, RVs K w W H xs vs [] → xs[i]? = some y → ∃ v, vs[i]? = some v ∧ RVr K w W H y v [] := fun h e => h.getN rfl e
/-- a list, walked -/
theorem walk_list {a : Addr} {vs : List V} {xs : List RV} (hl : H a = some (.lst vs)) (nb : a ∉ W.β) (hf : fs = true → W.F a) (r : RVs K w W H xs vs []) : WalkS K w fs W H (Itl K a) xs (fun H' => H' a = some (.lst vs)) where
  up := fun W' H' u => u.ext a _ hl nb
  kp := fun h W' H' k => ((k.stay a (hf h)).2).trans hl
  go := fun i H' e hi => by
    have hi' : i < vs.length := by rw [← r.length]; exact hi
    exact ⟨vs, vs[i], SqL.of e, List.getElem?_eq_getElem hi'⟩
  stop := fun i H' e hi => ⟨vs, SqL.of e, by rw [← r.length]; exact hi⟩
  yld := fun i H' x H'' y e hy hx => by
    obtain ⟨rfl, q⟩ := hx
    obtain ⟨v, e1, e2⟩ := r.getA hy
    have := q vs (SqL.of e)
    rw [e1] at this
    cases this
    exact .inl ⟨rfl, e2⟩
/-- a tuple, walked -/
theorem walk_tup {st : Sto} {a : Addr} {vs : List V} {xs : List RV} (s : SR K w W H st) (ht : SqT K H a vs) (r : RVs K w W H xs vs []) : WalkS K w fs W H (Itt K a) xs (fun H' => SqT K H' a vs) where
  up := fun W' H' u => u.tup s a vs ht
  kp := fun _ W' H' k => k.tup a vs ht
  go := fun i H' e hi => by
    have hi' : i < vs.length := by rw [← r.length]; exact hi
    exact ⟨vs, vs[i], e, List.getElem?_eq_getElem hi'⟩
  stop := fun i H' e hi => ⟨vs, e, by rw [← r.length]; exact hi⟩
  yld := fun i H' x H'' y e hy hx => by
    obtain ⟨rfl, q⟩ := hx
    obtain ⟨v, e1, e2⟩ := r.getA hy
    have := q vs e
    rw [e1] at this
    cases this
    exact .inl ⟨rfl, e2⟩
theorem reps_part {ds : List PyData} {vs : List V} (h : Reps K w (bF W H) H ds vs) : RVs K w W H (ds.map part) vs [] := by
  induction ds generalizing vs with
  | nil =>
    cases h
    exact .nil
  | cons d ds ih =>
    cases h with
    | cons h hs => exact .cons (A := []) (B := []) (part_ok h) (ih hs)
end
section
variable {X : Cx} {xr : XR} {E : L2.St → XW} {tg : Expr}
/-- a value is walked: a list, a tuple -/
def iSeq (K : PySem.W.Frag) (tl : TE) : TI := fun σ H R => tl σ H fun x H1 => ∃ a, x = .ref a ∧ ((∃ xs, SqL K H1 a xs ∧ R (Itl K a) H1) ∨ ∃ xs, SqT K H1 a xs ∧ R (Itt K a) H1)
theorem pi_seq {l : Expr} {tl : TE} (hl : PE X l tl) : PI X tg l (iSeq X.K tl) := by
  refine ⟨fun pins s σ H R I h => ?_⟩
  refine thn (hl.run pins s σ H _ I h) fun v s1 ⟨x, H1, I1, r1, q1⟩ => ?_
  obtain ⟨a, e, q⟩ := q1
  subst e
  cases r1
  rcases q with ⟨xs, hq, q⟩ | ⟨xs, hq, q⟩
  · obtain ⟨its, rv, p, hz⟩ := I1.list hq
    refine wpAny_pyIter_list p.isList ?_
    refine ⟨s1.heap.objs.size, [s1.heap.objs.size], _, _, H1, rfl, I1.kept (t' := s1.toks) fun b o e => Heap.get?_push_of_some _ e, turn_list a _, ⟨_, Heap.get?_push_size _ rfl, rfl, rfl⟩, fun b hb => ?_, q⟩
    obtain rfl : b = s1.heap.objs.size := by simpa using hb
    exact I1.fpOk (Nat.le_refl _) (I1.hok.fresh (Nat.le_refl _))
  · obtain ⟨its, rv, p, hz⟩ := I1.tuple hq
    refine wpAny_pyIter_tuple p ?_
    refine ⟨s1.heap.objs.size, [s1.heap.objs.size], _, _, H1, rfl, I1.kept (t' := s1.toks) fun b o e => Heap.get?_push_of_some _ e, turn_tuple a _, ⟨_, Heap.get?_push_size _ rfl, rfl, rfl⟩, fun b hb => ?_, q⟩
    obtain rfl : b = s1.heap.objs.size := by simpa using hb
    exact I1.fpOk (Nat.le_refl _) (I1.hok.fresh (Nat.le_refl _))
theorem Reps.toRVs {K : PySem.W.Frag} {w : World} {W : Wd} {H : Hp} {ds : List PyData} {vs : List V} (h : Reps K w W.F H ds vs) : RVs K w W H (ds.map RV.dat) vs [] := reps_rvs h
theorem items_walk {K : PySem.W.Frag} {w : World} {fs : Bool} {W : Wd} {H : Hp} {st : Sto} {x : RV} {v : V} {A : List Addr} {xs : List RV} (s : SR K w W H st) (r : RVr K w W H x v A) (nA : ∀ a ∈ A, ¬ W.F a ∧ a ∉ W.β) (e : itemsV fs st x = some xs) :
    ∃ a, v = .ref a ∧ ((∃ zs, H a = some (.lst zs) ∧ a ∉ W.β ∧ (fs = true → (W.fz A).F a) ∧ RVs K w (W.fz A) H xs zs []) ∨ ∃ zs, SqT K H a zs ∧ RVs K w (W.fz A) H xs zs []) := by
  have fz0 : ∀ {ys : List RV} {zs : List V}, RVs K w W H ys zs [] → RVs K w (W.fz A) H ys zs [] := fun h => h.keep (KeepR.fz A) fun _ _ => rfl
  cases r with
  | @dat d _ hd =>
    obtain ⟨ds, e1, rfl⟩ := Option.map_eq_some_iff.mp (show (seqL d).map (·.map .dat) = some xs from e)
    cases hd with
    | @lst a ds' zs f h hs => cases e1; exact ⟨a, rfl, .inl ⟨zs, h, fun m => s.bf a m f, fun _ => .inl f, fz0 hs.toRVs⟩⟩
    | @tup a ds' zs h hs => cases e1; exact ⟨a, rfl, .inr ⟨zs, h, fz0 hs.toRVs⟩⟩
    | _ => cases e1
  | @bor d _ hd =>
    have e' : (if fs then none else (seqL d).map (·.map part)) = some xs := e
    split at e'
    · cases e'
    · rename_i hfs
      obtain ⟨ds, e1, rfl⟩ := Option.map_eq_some_iff.mp e'
      cases hd with
      | @lst a ds' zs f h hs => cases e1; exact ⟨a, rfl, .inl ⟨zs, h, f.1, fun z => absurd z hfs, fz0 (reps_part hs)⟩⟩
      | @tup a ds' zs h hs => cases e1; exact ⟨a, rfl, .inr ⟨zs, h, fz0 (reps_part hs)⟩⟩
      | _ => cases e1
  | ref _ => cases e
  | scr _ => cases e
  | odi _ _ _ => cases e
  | @tpl a ys zs h hs => cases e; exact ⟨a, rfl, .inr ⟨zs, h, fz0 hs⟩⟩
  | @own a ys zs A' h hs =>
    obtain ⟨ds, e1, rfl⟩ := Option.map_eq_some_iff.mp (show (deeps ys).map (·.map .dat) = some xs from e)
    exact ⟨a, rfl, .inl ⟨zs, h, (nA a List.mem_cons_self).2, fun _ => .inr List.mem_cons_self, (RVs.deep (A0 := a :: A') hs e1 fun b m => List.mem_cons_of_mem _ m).toRVs⟩⟩
theorem pi_val {fs : Bool} {ev : Expr → Ev → Sto → R RV} {l : Expr} (hl : PE X l (tEv X.K X.w xr E (ev l))) : PI X tg l (tI X.K X.w xr fs E fun env st => (ev l env st).bind fun v st => ofO (itemsV fs st v) st) := by
  refine ⟨fun pins s σ H R I ⟨W, env, st, F, h⟩ => (pi_seq hl).run pins s σ H R I ⟨W, env, st, F, GoodI.then h Up.refl fun x st1 W1 H1 v A q1 u1 s1 r1 f1 => ?_⟩⟩
  obtain ⟨xs, e1, q1⟩ := q1.end_
  obtain ⟨u2, s2⟩ := u1.fzC s1 f1 r1.dom
  obtain ⟨a, rfl, hh⟩ := items_walk s1 r1 (fun b m => ⟨(f1.no b m).1, (f1.no b m).2.1⟩) e1
  refine ⟨a, rfl, ?_⟩
  rcases hh with ⟨zs, h1, nb, hf, rv⟩ | ⟨zs, h1, rv⟩
  · exact .inl ⟨zs, SqL.of h1, q1 (W1.fz A) H1 _ u2 s2 ⟨_, walk_list h1 nb hf rv⟩⟩
  · exact .inr ⟨zs, h1, q1 (W1.fz A) H1 _ u2 s2 ⟨_, walk_tup s2 h1 rv⟩⟩
/-! ### range, enumerate, zip -/
theorem star1 {e : Expr} {env : Env} (h : unstar e = true) : starEach [e] env = [(false, eval e env)] := star_cons h
theorem walk_range {K : PySem.W.Frag} {w : World} {fs : Bool} {W : Wd} {H : Hp} {a b : Int} {xs : List RV} (e : rangeL a b 1 = some xs) : Walk K w fs W H (Itr a (b - a).toNat) xs ∧ (-(2 ^ 62) ≤ a ∧ a < 2 ^ 62 ∧ -(2 ^ 62) ≤ b ∧ b < 2 ^ 62) := by
  unfold rangeL at e
  rw [if_neg (by decide)] at e
  simp only [show (0 : Int) < 1 by decide, if_true] at e
  split at e
  · rename_i hc
    cases e
    obtain ⟨h1, h2, h3, h4⟩ := hc
    have e1 : ((b - a + 1 - 1) / 1).toNat = (b - a).toNat := by omega
    rw [e1]
    refine ⟨⟨fun _ => True, ⟨fun _ _ _ => trivial, fun _ _ _ _ => trivial, fun i H' _ hi => ?_, fun i H' _ hi => ?_, fun i H' x H'' y _ hy hx => ?_⟩⟩, by omega, by omega, by omega, by omega⟩
    · rw [List.length_map, List.length_range] at hi
      exact hi
    · rw [List.length_map, List.length_range] at hi
      exact hi
    · obtain ⟨rfl, rfl⟩ := hx
      rw [List.getElem?_map] at hy
      obtain ⟨j, hj, rfl⟩ := Option.map_eq_some_iff.mp hy
      obtain ⟨hl, ej⟩ := List.getElem?_eq_some_iff.mp hj
      rw [List.getElem_range] at ej
      subst ej
      refine .inl ⟨rfl, .dat ?_⟩
      rw [Int.one_mul]
      exact .int _
  · cases e
theorem pi_r1 {fs : Bool} {ev : Expr → Ev → Sto → R RV} {a : Expr} {p pos : Pos} (bl : Bl X "range" (.type "range")) (ha : PE X a (tEv X.K X.w xr E (ev a))) (hu : unstar a = true) :
    PI X tg (.Call (.Name "range" p) [a] [] pos) (tI X.K X.w xr fs E fun env st => (ev a env st).bind fun v st => (ofO (vw st v) st).bind fun d st => ofO (range1 d) st) := by
  refine ⟨fun pins s σ H R I ⟨W, env, st, F, h⟩ => (pi_range1 bl.gl bl.mg (pa_cons ha pa_nil (star_cons hu)) (star1 hu)).run pins s σ H R I ⟨W, env, st, F, GoodI.then h Up.refl fun x st1 W1 H1 v A q1 u1 s1 r1 f1 => ?_⟩⟩
  obtain ⟨d, e1, q1⟩ := q1.ofO
  have rd := vw_rep s1 r1 e1
  obtain ⟨xs, e2, q3⟩ := q1.end_
  cases rd with
  | int j =>
    obtain ⟨wk, g1, g2, g3, g4⟩ := walk_range (K := X.K) (w := X.w) (W := W1) (H := H1) (show rangeL 0 j 1 = some xs from e2)
    rw [Int.sub_zero] at wk
    exact ⟨j, rfl, g3, g4, q3 W1 H1 _ u1 s1 wk⟩
  | _ => cases e2
theorem pi_r2 {fs : Bool} {ev : Expr → Ev → Sto → R RV} {a b : Expr} {p pos : Pos} (bl : Bl X "range" (.type "range")) (ha : PE X a (tEv X.K X.w xr E (ev a))) (hb : PE X b (tEv X.K X.w xr E (ev b))) (hu : unstar a = true) (hu2 : unstar b = true) :
    PI X tg (.Call (.Name "range" p) [a, b] [] pos) (tI X.K X.w xr fs E fun env st => (ev a env st).bind fun v st => (ev b env st).bind fun u st => (ofO (vw st v) st).bind fun x st => (ofO (vw st u) st).bind fun y st => ofO (range2 x y) st) := by
  refine ⟨fun pins s σ H R I ⟨W, env, st, F, h⟩ => (pi_range2 bl.gl bl.mg (pa_cons ha (pa_cons hb pa_nil (star_cons hu2)) (star_cons hu)) (by rw [star_cons hu, star1 hu2]) (star1 hu2)).run pins s σ H R I ⟨W, env, st, F, GoodI.then h Up.refl fun x st1 W1 H1 v A q1 u1 s1 r1 f1 => ⟨W1, env, st1, F.up u1 s1, GoodI.then q1 u1 fun y st2 W2 H2 u B q2 u2 s2 r2 f2 => ?_⟩⟩⟩
  have rx := r1.up u2 s1 fun a m => (f1.no a m).2.1
  obtain ⟨d, e1, q2⟩ := q2.ofO
  obtain ⟨d2, e2, q2⟩ := q2.ofO
  have rd := vw_rep s2 rx e1
  have rd2 := vw_rep s2 r2 e2
  obtain ⟨xs, e3, q3⟩ := q2.end_
  cases rd with
  | int i =>
    cases rd2 with
    | int j =>
      obtain ⟨wk, g1⟩ := walk_range (K := X.K) (w := X.w) (W := W2) (H := H2) (show rangeL i j 1 = some xs from e3)
      exact ⟨i, j, rfl, g1, q3 W2 H2 _ (u1.trans u2) s2 wk⟩
    | _ => cases e3
  | _ => cases e3
theorem numb_get : ∀ {ds : List PyData} {k : Int} {i : Nat} {y : RV}, (numb k ds)[i]? = some y → ∃ d, ds[i]? = some d ∧ y = .dat (.tuple [.int (k + i), d])
  | [], _, _, _, e => by simp [numb] at e
  | d :: ds, k, 0, y, e => by
    simp [numb] at e
    exact ⟨d, rfl, by rw [← e]; simp⟩
  | d :: ds, k, i + 1, y, e => by
    rw [numb, List.getElem?_cons_succ] at e
    obtain ⟨d', e1, e2⟩ := numb_get e
    refine ⟨d', by simpa using e1, ?_⟩
    rw [e2]
    have : k + 1 + (i : Int) = k + ((i + 1 : Nat) : Int) := by omega
    rw [this]
theorem numb_len : ∀ (ds : List PyData) (k : Int), (numb k ds).length = ds.length
  | [], _ => rfl
  | d :: ds, k => by rw [numb, List.length_cons, List.length_cons, numb_len ds]
theorem zip2_get : ∀ {xs ys : List PyData} {i : Nat} {y : RV}, (zip2 xs ys)[i]? = some y → ∃ a b, xs[i]? = some a ∧ ys[i]? = some b ∧ y = .dat (.tuple [a, b])
  | [], _, _, _, e => by simp [zip2] at e
  | _ :: _, [], _, _, e => by simp [zip2] at e
  | a :: xs, b :: ys, 0, y, e => by
    simp [zip2] at e
    exact ⟨a, b, rfl, rfl, e.symm⟩
  | a :: xs, b :: ys, i + 1, y, e => by
    rw [zip2, List.getElem?_cons_succ] at e
    obtain ⟨a', b', e1, e2, e3⟩ := zip2_get e
    exact ⟨a', b', by simpa using e1, by simpa using e2, e3⟩
theorem zip2_len : ∀ (xs ys : List PyData), (zip2 xs ys).length = min xs.length ys.length
  | [], _ => by simp [zip2]
  | _ :: _, [] => by simp [zip2]
  | a :: xs, b :: ys => by rw [zip2, List.length_cons, zip2_len xs ys, List.length_cons, List.length_cons]; omega
theorem walk_enum {K : PySem.W.Frag} {w : World} {fs : Bool} {W : Wd} {H : Hp} {a : Addr} {vs : List V} {ds : List PyData} (hl : H a = some (.lst vs)) (nb : a ∉ W.β) (hf : fs = true → W.F a) (r : Reps K w W.F H ds vs) : WalkS K w fs W H (Ite K a) (numb 0 ds) (fun H' => H' a = some (.lst vs)) where
  up := fun W' H' u => u.ext a _ hl nb
  kp := fun h W' H' k => ((k.stay a (hf h)).2).trans hl
  go := fun i H' e hi => by
    rw [numb_len, r.length] at hi
    exact ⟨vs, vs[i], SqL.of e, List.getElem?_eq_getElem hi⟩
  stop := fun i H' e hi => by
    rw [numb_len, r.length] at hi
    exact ⟨vs, SqL.of e, hi⟩
  yld := fun i H' x H'' y e hy hx => by
    obtain ⟨T, v, rfl, hT, rfl, q⟩ := hx
    obtain ⟨d, e1, rfl⟩ := numb_get hy
    obtain ⟨v', e2, e3⟩ := r.get e1
    have := q vs (SqL.of e)
    rw [e2] at this
    cases this
    refine .inr ⟨T, _, _, hT, rfl, rfl, rfl, .cons ?_ (.cons e3 .nil)⟩
    rw [Int.zero_add]
    exact .int _
theorem walk_zipL {K : PySem.W.Frag} {w : World} {fs : Bool} {W : Wd} {H : Hp} {a b : Addr} {vs us : List V} {ds es : List PyData} (hl : H a = some (.lst vs)) (nb : a ∉ W.β) (hf : fs = true → W.F a) (r : Reps K w W.F H ds vs) (hl2 : H b = some (.lst us)) (nb2 : b ∉ W.β) (hf2 : fs = true → W.F b) (r2 : Reps K w W.F H es us) : WalkS K w fs W H (Itz K a b) (zip2 ds es) (fun H' => H' a = some (.lst vs) ∧ H' b = some (.lst us)) where
  up := fun W' H' u => ⟨u.ext a _ hl nb, u.ext b _ hl2 nb2⟩
  kp := fun h W' H' k => ⟨((k.stay a (hf h)).2).trans hl, ((k.stay b (hf2 h)).2).trans hl2⟩
  go := fun i H' ⟨e, e'⟩ hi => by
    rw [zip2_len, r.length, r2.length] at hi
    have i1 : i < vs.length := by omega
    have i2 : i < us.length := by omega
    exact ⟨vs, us, vs[i], us[i], SqL.of e, SqL.of e', List.getElem?_eq_getElem i1, List.getElem?_eq_getElem i2⟩
  stop := fun i H' ⟨e, e'⟩ hi => by
    rw [zip2_len, r.length, r2.length] at hi
    exact ⟨vs, us, SqL.of e, SqL.of e', by omega⟩
  yld := fun i H' x H'' y ⟨e, e'⟩ hy hx => by
    obtain ⟨T, v, u, rfl, hT, rfl, q1, q2⟩ := hx
    obtain ⟨d, d2, e1, e2, rfl⟩ := zip2_get hy
    obtain ⟨v', g1, g2⟩ := r.get e1
    obtain ⟨u', g3, g4⟩ := r2.get e2
    have h1 := q1 vs (SqL.of e)
    have h2 := q2 us (SqL.of e')
    rw [g1] at h1
    rw [g3] at h2
    cases h1
    cases h2
    exact .inr ⟨T, _, _, hT, rfl, rfl, rfl, .cons g2 (.cons g4 .nil)⟩
theorem walk_zipT {K : PySem.W.Frag} {w : World} {fs : Bool} {W : Wd} {H : Hp} {st : Sto} {a b : Addr} {vs us : List V} {ds es : List PyData} (s : SR K w W H st) (ht : SqT K H a vs) (r : Reps K w W.F H ds vs) (ht2 : SqT K H b us) (r2 : Reps K w W.F H es us) : WalkS K w fs W H (RZ.ItzT K a b) (zip2 ds es) (fun H' => SqT K H' a vs ∧ SqT K H' b us) where
  up := fun W' H' u => ⟨u.tup s a vs ht, u.tup s b us ht2⟩
  kp := fun h W' H' k => ⟨k.tup a vs ht, k.tup b us ht2⟩
  go := fun i H' ⟨e, e'⟩ hi => by
    rw [zip2_len, r.length, r2.length] at hi
    have i1 : i < vs.length := by omega
    have i2 : i < us.length := by omega
    exact ⟨vs, us, vs[i], us[i], e, e', List.getElem?_eq_getElem i1, List.getElem?_eq_getElem i2⟩
  stop := fun i H' ⟨e, e'⟩ hi => by
    rw [zip2_len, r.length, r2.length] at hi
    exact ⟨vs, us, e, e', by omega⟩
  yld := fun i H' x H'' y ⟨e, e'⟩ hy hx => by
    obtain ⟨T, v, u, rfl, hT, rfl, q1, q2⟩ := hx
    obtain ⟨d, d2, e1, e2, rfl⟩ := zip2_get hy
    obtain ⟨v', g1, g2⟩ := r.get e1
    obtain ⟨u', g3, g4⟩ := r2.get e2
    have h1 := q1 vs e
    have h2 := q2 us e'
    rw [g1] at h1
    rw [g3] at h2
    cases h1
    cases h2
    exact .inr ⟨T, _, _, hT, rfl, rfl, rfl, .cons g2 (.cons g4 .nil)⟩
/-- a list that is seen through stands apart from the store, or is a cell: then it is not walked here -/
theorem solid_not {K : PySem.W.Frag} {w : World} {fs : Bool} {W : Wd} {H : Hp} {st : Sto} {x : RV} {v : V} {A : List Addr} {ds : List PyData} (s : SR K w W H st) (r : RVr K w W H x v A) (nA : ∀ a ∈ A, a ∉ W.β) (e : solid' fs st x = some (.list ds)) : ∀ a, v = .ref a → a ∉ W.β ∧ (fs = true → (W.fz A).F a) := by
  intro a ev
  subst ev
  cases r with
  | dat hd =>
    cases hd with
    | lst f _ _ => exact ⟨fun m => s.bf a m f, fun _ => .inl f⟩
    | dct f _ _ _ => exact ⟨fun m => s.bf a m f, fun _ => .inl f⟩
    | tup h _ => simp [solid', solid, vw] at e
  | @bor d _ hd =>
    have e' : (if fs then none else solid st (.bor d)) = some (.list ds) := e
    split at e'
    · cases e'
    · rename_i hfs
      cases hd with
      | lst f _ _ => exact ⟨f.1, fun z => absurd z hfs⟩
      | dct f _ _ _ => exact ⟨f.1, fun z => absurd z hfs⟩
      | tup h _ =>
        exfalso
        rw [solid] at e'
        · split at e' <;> cases e'
        · intro _ h
          cases h
  | ref _ => cases e
  | scr _ => simp [solid', solid] at e
  | tpl _ _ => simp [solid', solid] at e
  | own _ _ => exact ⟨nA a List.mem_cons_self, fun _ => .inr List.mem_cons_self⟩
  | odi _ _ _ => exact ⟨nA a List.mem_cons_self, fun _ => .inr List.mem_cons_self⟩
theorem solid'_of {fs : Bool} {st : Sto} {x : RV} {d : PyData} (e : solid' fs st x = some d) : solid st x = some d := by
  cases x with
  | ref i => cases e
  | bor d' =>
    have e' : (if fs then none else solid st (.bor d')) = some d := e
    split at e'
    · cases e'
    · exact e'
  | _ => exact e
theorem pi_en {fs : Bool} {ev : Expr → Ev → Sto → R RV} {elts : List Expr} {kk : Nat} {tpos : Pos} {a : Expr} {p pos : Pos} (bl : Bl X "enumerate" (.type "enumerate")) (ha : PE X a (tEv X.K X.w xr E (ev a))) (hu : unstar a = true) :
    PI X (.Tuple elts kk tpos) (.Call (.Name "enumerate" p) [a] [] pos) (tI X.K X.w xr fs E fun env st => (ev a env st).bind fun v st => (ofO (solid' fs st v) st).bind fun d st => ofO (enumD d) st) := by
  refine ⟨fun pins s σ H R I ⟨W, env, st, F, h⟩ => (pi_enum bl.gl bl.mg (pa_cons ha pa_nil (star_cons hu)) (star1 hu)).run pins s σ H R I ⟨W, env, st, F, GoodI.then h Up.refl fun x st1 W1 H1 v A q1 u1 s1 r1 f1 => ?_⟩⟩
  obtain ⟨d, e1, q2⟩ := q1.ofO
  have e0 := e1
  have e1 := solid'_of e1
  obtain ⟨xs, e2, q3⟩ := q2.end_
  have sd := solid_rep s1 r1 e1 (A0 := A) fun _ m => m
  obtain ⟨u2, s2⟩ := u1.fzC s1 f1 r1.dom
  cases d with
  | list ds =>
    cases e2
    have nb := solid_not s1 r1 (fun b m => (f1.no b m).2.1) e0
    obtain ⟨a0, vs, rfl, h1, h2⟩ := sd
    exact ⟨a0, vs, rfl, SqL.of h1, q3 (W1.fz A) H1 _ u2 s2 ⟨_, walk_enum h1 (nb a0 rfl).1 (nb a0 rfl).2 h2⟩⟩
  | _ => cases e2
theorem pi_zp {fs : Bool} {ev : Expr → Ev → Sto → R RV} {elts : List Expr} {kk : Nat} {tpos : Pos} {a b : Expr} {p pos : Pos} (bl : Bl X "zip" (.type "zip")) (ha : PE X a (tEv X.K X.w xr E (ev a))) (hb : PE X b (tEv X.K X.w xr E (ev b))) (hu : unstar a = true) (hu2 : unstar b = true) :
    PI X (.Tuple elts kk tpos) (.Call (.Name "zip" p) [a, b] [] pos) (tI X.K X.w xr fs E fun env st => (ev a env st).bind fun v st => (ev b env st).bind fun u st => (ofO (solid' fs st v) st).bind fun x st => (ofO (solid' fs st u) st).bind fun y st => ofO (zipD x y) st) := by
  refine ⟨fun pins s σ H R I ⟨W, env, st, F, h⟩ => (RZ.pi_zipA bl.gl bl.mg (pa_cons ha (pa_cons hb pa_nil (star_cons hu2)) (star_cons hu)) (star_cons hu) (by rw [star_cons hu2]; rfl)).run pins s σ H R I ⟨W, env, st, F, GoodI.then h Up.refl fun x st1 W1 H1 v A q1 u1 s1 r1 f1 => ⟨W1, env, st1, F.up u1 s1, GoodI.then q1 u1 fun y st2 W2 H2 u B q2 u2 s2 r2 f2 => ?_⟩⟩⟩
  have rx := r1.up u2 s1 fun a m => (f1.no a m).2.1
  have fA := f1.up u2 r1.dom
  have fAB : Fresh W2 H (A ++ B) := f1.both r1.dom u1 u2 f2
  have dAB : ∀ c ∈ A ++ B, ∃ o, H2 c = some o := fun c m => (List.mem_append.mp m).elim (rx.dom c) (r2.dom c)
  obtain ⟨d, e1, q3⟩ := q2.ofO
  obtain ⟨d2, e2, q3⟩ := q3.ofO
  have e10 := e1
  have e20 := e2
  have e1 := solid'_of e1
  have e2 := solid'_of e2
  obtain ⟨xs, e3, q4⟩ := q3.end_
  have sd := solid_rep s2 rx e1 (A0 := A ++ B) fun _ m => List.mem_append_left _ m
  have sd2 := solid_rep s2 r2 e2 (A0 := A ++ B) fun _ m => List.mem_append_right _ m
  obtain ⟨u3, s3⟩ := (u1.trans u2).fzC s2 fAB dAB
  cases d with
  | list ds =>
    cases d2 with
    | list es =>
      cases e3
      have nb := solid_not s2 rx (fun b m => (fA.no b m).2.1) e10
      have nb2 := solid_not s2 r2 (fun b m => (f2.no b m).2.1) e20
      obtain ⟨a0, vs, rfl, h1, h2⟩ := sd
      obtain ⟨b0, us, rfl, h3, h4⟩ := sd2
      exact ⟨a0, b0, vs, us, rfl, .inl ⟨SqL.of h1, SqL.of h3, q4 (W2.fz (A ++ B)) H2 _ u3 s3 ⟨_, walk_zipL h1 (nb a0 rfl).1 (fun z => ((nb a0 rfl).2 z).elim .inl fun m => .inr (List.mem_append_left _ m)) h2 h3 (nb2 b0 rfl).1 (fun z => ((nb2 b0 rfl).2 z).elim .inl fun m => .inr (List.mem_append_right _ m)) h4⟩⟩⟩
    | _ => cases e3
  | tuple ds =>
    cases d2 with
    | tuple es =>
      cases e3
      obtain ⟨a0, vs, rfl, h1, h2⟩ := sd.tuple
      obtain ⟨b0, us, rfl, h3, h4⟩ := sd2.tuple
      exact ⟨a0, b0, vs, us, rfl, .inr ⟨h1, h3, q4 (W2.fz (A ++ B)) H2 _ u3 s3 ⟨_, walk_zipT s3 h1 h2 h3 h4⟩⟩⟩
    | _ => cases e3
  | _ => cases e3
end
end Z

set_option linter.all false
set_option maxRecDepth 100000
set_option maxHeartbeats 1000000
/-! Z27: targets. -/
namespace Z
open PySem PySem.Spec PyProof.Rows L2
section
variable (N : List Str)
def gsOf : List Expr → TGs
  | [] => gNil
  | .Name x _ :: r => match ix N x with
    | some i => gCons (gName i) (gsOf r)
    | none => fun _ _ _ _ => False
  | _ :: _ => fun _ _ _ _ => False
def gOf (K : PySem.W.Frag) : Expr → TG
  | .Name x _ => match ix N x with
    | some i => gName i
    | none => fun _ _ _ _ => False
  | .Tuple es _ _ => gTup K es.length (gsOf N es)
  | _ => fun _ _ _ _ => False
/-- the slots of a target -/
def tgIxs : List Expr → List Nat
  | [] => []
  | .Name x _ :: r => match ix N x with
    | some i => i :: tgIxs r
    | none => tgIxs r
  | _ :: r => tgIxs r
def tgIx : Expr → List Nat
  | .Name x _ => match ix N x with
    | some i => [i]
    | none => []
  | .Tuple es _ _ => tgIxs N es
  | _ => []
end
/-- a name that is stored, where it stands -/
def locB (sc : Scope) (cells : Bool) (x : Str) : Bool := match sc.names.lookup x with
  | some .local => true
  | some .cell => cells
  | _ => false
def tgsC (N : List Str) (sc : Scope) : List Expr → Bool
  | [] => true
  | .Name x _ :: r => (ix N x).isSome && locB sc true x && tgsC N sc r
  | _ :: _ => false
def tgC (N : List Str) (sc : Scope) : Expr → Bool
  | .Name x _ => (ix N x).isSome && locB sc true x
  | .Tuple es _ _ => tgsC N sc es
  | _ => false
section
variable {X : Cx} {sc : Scope}
theorem locB_ok {x : Str} (hs : X.env.scope = sc) (hf : ∀ x, sc.names.lookup x = some .cell → X.fn x = true) (h : locB sc true x = true) : Loc X.env.scope x ∧ (X.fn x = true ∨ X.env.scope.names.lookup x = some .local) := by
  unfold locB at h
  rw [hs]
  split at h
  · rename_i e
    exact ⟨.inl e, .inr e⟩
  · rename_i e
    exact ⟨.inr e, .inl (hf _ e)⟩
  · cases h
theorem pg_nm {x : Str} {pos : Pos} (hN : X.N.Nodup) (hs : X.env.scope = sc) (hf : ∀ x, sc.names.lookup x = some .cell → X.fn x = true) (h : ((ix X.N x).isSome && locB sc true x) = true) : ∃ i, ix X.N x = some i ∧ PG X (.Name x pos) (gName i) := by
  rw [Bool.and_eq_true] at h
  obtain ⟨i, e⟩ := Option.isSome_iff_exists.mp h.1
  obtain ⟨h1, h2⟩ := locB_ok hs hf h.2
  exact ⟨i, e, pg_name hN (ix_at e) h1 h2⟩
theorem assign_len (es : List Expr) (env : Env) : (assignEach es env).length = es.length := by
  induction es with
  | nil => rfl
  | cons e es ih =>
    cases e <;> (show ((_ :: assignEach es env)).length = _; rw [List.length_cons, ih]; rfl)
theorem assign_cons {x : Str} {p : Pos} {es : List Expr} {env : Env} : assignEach (.Name x p :: es) env = (false, assign (.Name x p) env) :: assignEach es env := rfl
theorem pgs_of (hN : X.N.Nodup) (hs : X.env.scope = sc) (hf : ∀ x, sc.names.lookup x = some .cell → X.fn x = true) : ∀ {es : List Expr}, tgsC X.N sc es = true → PGs X es (gsOf X.N es) ∧ (assignEach es X.env).findIdx? (·.1) = none
  | [], _ => ⟨pgs_nil, rfl⟩
  | .Name x p :: r, h => by
    rw [tgsC, Bool.and_eq_true] at h
    obtain ⟨i, e, hg⟩ := pg_nm (pos := p) hN hs hf h.1
    obtain ⟨h1, h2⟩ := pgs_of hN hs hf h.2
    refine ⟨?_, ?_⟩
    · rw [gsOf, e]
      exact pgs_cons hg h1
    · rw [assign_cons, List.findIdx?_cons, h2]
      rfl
theorem pg_of (hc : X.calm = true) (hN : X.N.Nodup) (hs : X.env.scope = sc) (hf : ∀ x, sc.names.lookup x = some .cell → X.fn x = true) : ∀ {t : Expr}, tgC X.N sc t = true → PG X t (gOf X.N X.K t) := by
  intro t h
  cases t with
  | Name x p =>
    obtain ⟨i, e, hg⟩ := pg_nm (pos := p) hN hs hf h
    rw [gOf, e]
    exact hg
  | Tuple es k p =>
    obtain ⟨h1, h2⟩ := pgs_of hN hs hf h
    exact pg_tup hc h1 (assign_len es X.env) h2
  | _ => cases h
end
/-! ### what is stored -/
section
variable {K : PySem.W.Frag} {w : World} {W : Wd} {H : Hp} {env env' : Ev} {σ : L2.St} {A : Nat → List Addr} {N : List Str}
def clr (A : Nat → List Addr) (i : Nat) : Nat → List Addr := fun j => if j = i then [] else A j
theorem EnvR.set {i : Nat} {x : RV} {v : V} (e : EnvR K w W H env σ A) (r : RVr K w W H x v []) : EnvR K w W H (setE env i x) (σ.set i (some v)) (clr A i) where
  len := by
    unfold setE
    rw [List.length_set, List.length_set, e.len]
  at_ := fun j y h => by
    unfold setE at h
    by_cases hj : j = i
    · subst hj
      have hl : j < env.length := by
        have := (List.getElem?_eq_some_iff.mp h).1
        rwa [List.length_set] at this
      rw [List.getElem?_set_self hl] at h
      cases h
      refine ⟨v, List.getElem?_set_self (by rw [← e.len]; exact hl), ?_⟩
      unfold clr
      rw [if_pos rfl]
      exact r
    · rw [List.getElem?_set_ne (Ne.symm hj)] at h
      obtain ⟨u, h1, h2⟩ := e.at_ j y h
      refine ⟨u, by rw [List.getElem?_set_ne (Ne.symm hj)]; exact h1, ?_⟩
      unfold clr
      rw [if_neg hj]
      exact h2
  none_ := fun j h => by
    unfold clr
    split
    · rfl
    · rename_i hj
      refine e.none_ j fun y hy => h y ?_
      unfold setE
      rw [List.getElem?_set_ne (Ne.symm hj)]
      exact hy
  nd := fun j => by
    unfold clr
    split
    · exact List.nodup_nil
    · exact e.nd j
  no := fun j a m => by
    unfold clr at m
    split at m
    · cases m
    · exact e.no j a m
  np := fun j a m => by
    unfold clr at m
    split at m
    · cases m
    · exact e.np j a m
  dj := fun i' j' hij a m m2 => by
    unfold clr at m m2
    split at m
    · cases m
    · split at m2
      · cases m2
      · exact e.dj i' j' hij a m m2
/-- behind a store: what the slots hold -/
def Stored (K : PySem.W.Frag) (w : World) (W : Wd) (H : Hp) (env' : Ev) (σ : L2.St) (is : List Nat) (σ' : L2.St) : Prop := (∃ A, EnvR K w W H env' σ' A) ∧ σ'.length = σ.length ∧ ∀ j, j ∉ is → σ'[j]? = σ[j]?
theorem asgNs_ok : ∀ {es : List Expr} {xs : List RV} {vs : List V} {env : Ev} {σ : L2.St} {A : Nat → List Addr} {B : List Addr} {Q : L2.St → Hp → Prop}, asgNs N es xs env = some env' → EnvR K w W H env σ A → RVs K w W H xs vs B → B = [] → (∀ σ', Stored K w W H env' σ (tgIxs N es) σ' → Q σ' H) → gsOf N es vs σ H Q
  | [], [], _, env, σ, A, _, Q, e, er, .nil, _, k => by
    cases e
    exact ⟨rfl, k σ ⟨⟨A, er⟩, rfl, fun _ _ => rfl⟩⟩
  | .Name x p :: es, y :: xs, v :: vs, env, σ, A, _, Q, e, er, .cons (A := A1) (B := B1) r rs, z, k => by
    obtain ⟨z1, z2⟩ := List.append_eq_nil_iff.mp z
    subst z1
    have e' : (asgN N x y env).bind (asgNs N es xs) = some env' := e
    obtain ⟨e1, h1, h2⟩ := Option.bind_eq_some_iff.mp e'
    unfold asgN at h1
    obtain ⟨i, hi, rfl⟩ := Option.map_eq_some_iff.mp h1
    rw [gsOf, hi]
    refine ⟨v, vs, rfl, ?_⟩
    refine asgNs_ok h2 (er.set r) rs z2 fun σ' ⟨h3, h4, h5⟩ => k σ' ⟨h3, by rw [h4, List.length_set], fun j hj => ?_⟩
    rw [tgIxs, hi] at hj
    simp only [List.mem_cons, not_or] at hj
    rw [h5 j hj.2, List.getElem?_set_ne (Ne.symm hj.1)]
  | [], _ :: _, _, _, _, _, _, _, e, _, _, _, _ => by cases e
  | .Name _ _ :: _, [], _, _, _, _, _, _, e, _, _, _, _ => by cases e
theorem asgT_ok {t : Expr} {x : RV} {v : V} {Q : L2.St → Hp → Prop} (e : asgT N t x env = some env') (er : EnvR K w W H env σ A) (r : RVr K w W H x v []) (k : ∀ σ', Stored K w W H env' σ (tgIx N t) σ' → Q σ' H) : gOf N K t v σ H Q := by
  cases t with
  | Name y p =>
    have h1 : asgN N y x env = some env' := e
    unfold asgN at h1
    obtain ⟨i, hi, rfl⟩ := Option.map_eq_some_iff.mp h1
    rw [gOf, hi]
    refine k _ ⟨⟨_, er.set r⟩, by rw [List.length_set], fun j hj => ?_⟩
    rw [tgIx, hi] at hj
    rw [List.getElem?_set_ne (fun z => hj (by simp [z]))]
  | Tuple es kk p =>
    have len : ∀ {es : List Expr} {xs : List RV} {env : Ev}, asgNs N es xs env = some env' → xs.length = es.length := by
      intro es
      induction es with
      | nil =>
        intro xs env h
        cases xs with
        | nil => rfl
        | cons _ _ => cases h
      | cons e es ih =>
        intro xs env h
        cases e with
        | Name y p =>
          cases xs with
          | nil => cases h
          | cons y xs =>
            have h' : (asgN N _ y env).bind (asgNs N es xs) = some env' := h
            obtain ⟨e1, h1, h2⟩ := Option.bind_eq_some_iff.mp h'
            rw [List.length_cons, List.length_cons, ih h2]
        | _ => cases xs <;> cases h
    cases r with
    | @dat d _ rd =>
      cases rd with
      | @tup a ds vs h hs =>
        have e' : asgNs N es (ds.map .dat) env = some env' := e
        refine ⟨a, vs, rfl, h, ?_, asgNs_ok e' er hs.toRVs rfl k⟩
        rw [← hs.length, ← len e', List.length_map]
      | _ => cases e
    | @tpl a xs vs h hs =>
      have e' : asgNs N es xs env = some env' := e
      refine ⟨a, vs, rfl, h, ?_, asgNs_ok e' er hs rfl k⟩
      rw [← hs.length, ← len e']
    | _ => cases e
  | _ => cases e
end
end Z

set_option linter.all false
set_option maxRecDepth 100000
set_option maxHeartbeats 1000000
/-! Z28: list comprehensions. -/
namespace Z
open PySem PySem.Spec PyProof.Rows L2
/-- D is being made -/
def Wd.pend (W : Wd) (D : Addr) : Wd := { W with P := fun a => W.P a ∨ a = D }
section
variable {K : PySem.W.Frag} {w : World} {W W1 W' : Wd} {H H1 H' : Hp} {st st1 : Sto} {env : Ev} {σ : L2.St} {A : Nat → List Addr} {D : Addr}
theorem KeepR.trans {W2 : Wd} {H2 : Hp} (k : KeepR K W H W1 H1) (k2 : KeepR K W1 H1 W2 H2) : KeepR K W H W2 H2 :=
  ⟨⟨fun a vs h => k2.k.tup a vs (k.k.tup a vs h), fun a o vs h => k2.k.fro a o vs (k.k.fro a o vs h), fun a f => ⟨(k2.k.stay a (k.k.stay a f).1).1, ((k2.k.stay a (k.k.stay a f).1).2).trans (k.k.stay a f).2⟩⟩, k.β.trans k2.β,
   ⟨fun a vs h => k2.b.tup a vs (k.b.tup a vs h), fun a o vs h => k2.b.fro a o vs (k.b.fro a o vs h), fun a f => ⟨(k2.b.stay a (k.b.stay a f).1).1, ((k2.b.stay a (k.b.stay a f).1).2).trans (k.b.stay a f).2⟩⟩⟩
/-- into the block: D was not there -/
theorem pend_in (u : Up W1 H1 W' H') (s : SR K w W1 H1 st) (hD : H1 D = none) : KeepR K W1 H1 (W'.pend D) H' := by
  have k := u.keepR s
  refine ⟨⟨k.k.tup, k.k.fro, k.k.stay⟩, k.β, ⟨k.b.tup, k.b.fro, fun a f => ?_⟩⟩
  obtain ⟨⟨n, np, r⟩, e⟩ := k.b.stay a f
  refine ⟨⟨n, fun z => ?_, r⟩, e⟩
  rcases z with z | z
  · exact np z
  · subst z
    obtain ⟨_, _, o, eo, _⟩ := f
    rw [hD] at eo
    cases eo
/-- out of the block -/
theorem pend_out : KeepR K (W.pend D) H W H := ⟨⟨fun _ _ h => h, fun _ _ _ h => h, fun _ f => ⟨f, rfl⟩⟩, List.prefix_refl _, ⟨fun _ _ h => h, fun _ _ _ h => h, fun a ⟨n, np, r⟩ => ⟨⟨n, fun z => np (.inl z), r⟩, rfl⟩⟩⟩
theorem SR.unpend (s : SR K w (W.pend D) H st) : SR K w W H st where
  len := s.len
  nd := s.nd
  bf := s.bf
  pf := fun a h => s.pf a (.inl h)
  dom := s.dom
  cells := fun i c a h1 h2 => (s.cells i c a h1 h2).keep pend_out rfl
  fr := s.fr
/-- D's list is laid -/
theorem SR.pend (s : SR K w W H st) (hD : H D = none) (vs : List V) : SR K w (W.pend D) (upd H D (.lst vs)) st := by
  have kp : KeepR K W H (W.pend D) (upd H D (.lst vs)) := pend_in (Up.refl.new hD) s hD
  exact {
    len := s.len
    nd := s.nd
    bf := s.bf
    pf := fun a h => by
      rcases h with h | h
      · obtain ⟨n, o, e⟩ := s.pf a h
        exact ⟨n, o, by rw [upd_ne (ne_of_none e hD)]; exact e⟩
      · subst h
        exact ⟨(fun z => by
          obtain ⟨o, e⟩ := s.dom a z
          rw [hD] at e
          cases e), _, upd_same⟩
    dom := fun a f => by
      obtain ⟨o, e⟩ := s.dom a f
      exact ⟨o, by rw [upd_ne (ne_of_none e hD)]; exact e⟩
    cells := fun i c a h1 h2 => (s.cells i c a h1 h2).keep kp (upd_ne fun z => by
      obtain ⟨o, e⟩ := s.βdom (List.mem_of_getElem? h2)
      rw [z, hD] at e
      cases e)
    fr := fun a h => s.fr a (by
      by_cases z : a = D
      · rw [z]; exact hD
      · rw [upd_ne z] at h; exact h) }
/-- D's list grows -/
theorem acc_keep (s : SR K w W H st) (hP : W.P D) (nb : D ∉ W.β) {vs us : List V} (hD : H D = some (.lst vs)) : KeepR K W H W (upd H D (.lst us)) := by
  have tup : ∀ b zs, SqT K H b zs → SqT K (upd H D (.lst us)) b zs := fun b zs h => by
    rcases h with h | h
    · have hne : b ≠ D := fun z => by
        subst z
        rcases h with h | ⟨o, h⟩ <;> (rw [hD] at h; cases h)
      rcases h with h | ⟨ob, h⟩
      · exact .inl (.inl ((upd_ne hne).trans h))
      · exact .inl (.inr ⟨ob, (upd_ne hne).trans h⟩)
    · exact .inr h
  have fro : ∀ b ob zs, H b = some (.frz ob (.lst zs)) → (upd H D (.lst us)) b = some (.frz ob (.lst zs)) := fun b ob zs h => by
    rw [upd_ne (fun z => by subst z; rw [hD] at h; cases h)]
    exact h
  refine ⟨⟨tup, fro, fun b f => ⟨f, upd_ne fun z => by subst z; exact (s.pf b hP).1 f⟩⟩, List.prefix_refl _, ⟨tup, fro, fun b ⟨n, np, ob, eo, dd⟩ => ?_⟩⟩
  have hne : b ≠ D := fun z => by subst z; exact np hP
  exact ⟨⟨n, np, ob, by rw [upd_ne hne]; exact eo, dd⟩, upd_ne hne⟩
theorem SR.acc (s : SR K w W H st) (hP : W.P D) (nb : D ∉ W.β) {vs us : List V} (hD : H D = some (.lst vs)) : SR K w W (upd H D (.lst us)) st where
  len := s.len
  nd := s.nd
  bf := s.bf
  pf := fun a h => by
    obtain ⟨n, o, e⟩ := s.pf a h
    refine ⟨n, ?_⟩
    by_cases z : a = D
    · exact ⟨_, by rw [z]; exact upd_same⟩
    · exact ⟨o, by rw [upd_ne z]; exact e⟩
  dom := fun a f => by
    obtain ⟨o, e⟩ := s.dom a f
    exact ⟨o, by rw [upd_ne (fun z => by subst z; exact (s.pf a hP).1 f)]; exact e⟩
  cells := fun i c a h1 h2 => (s.cells i c a h1 h2).keep (acc_keep s hP nb hD) (upd_ne fun z => by subst z; exact nb (List.mem_of_getElem? h2))
  fr := fun a h => s.fr a (by
    by_cases z : a = D
    · rw [z, upd_same] at h; cases h
    · rw [upd_ne z] at h; exact h)
theorem EnvR.keepW (e : EnvR K w W H env σ A) (k : KeepR K W H W' H') (hA : ∀ i, ∀ a ∈ A i, H' a = H a ∧ ¬ W'.F a ∧ a ∉ W'.β ∧ W'.O a ∧ ¬ W'.P a) : EnvR K w W' H' env σ A where
  len := e.len
  at_ := fun i x h => by
    obtain ⟨v, h1, h2⟩ := e.at_ i x h
    exact ⟨v, h1, h2.keep k fun a m => (hA i a m).1⟩
  none_ := e.none_
  nd := e.nd
  no := fun i a m => ⟨(hA i a m).2.1, (hA i a m).2.2.1, (hA i a m).2.2.2.1⟩
  np := fun i a m => (hA i a m).2.2.2.2
  dj := e.dj
theorem EnvR.dom (e : EnvR K w W H env σ A) (i : Nat) : ∀ a ∈ A i, ∃ o, H a = some o := fun a m => by
  by_cases hx : ∃ x, env[i]? = some (some x)
  · obtain ⟨x, hx⟩ := hx
    obtain ⟨v, _, h2⟩ := e.at_ i x hx
    exact h2.dom a m
  · have z := e.none_ i fun x q => hx ⟨x, q⟩
    rw [z] at m
    cases m
theorem EnvR.pend (e : EnvR K w W1 H1 env σ A) (u : Up W1 H1 W' H') (s : SR K w W1 H1 st) (hD : H1 D = none) : EnvR K w (W'.pend D) H' env σ A := by
  have e' := e.up u s
  refine e.keepW (pend_in u s hD) fun i a m => ?_
  obtain ⟨n1, n2, n3⟩ := e'.no i a m
  obtain ⟨o, ho⟩ := e.dom i a m
  refine ⟨?_, n1, n2, n3, fun z => ?_⟩
  · rw [u.ext a o ho (e.no i a m).2.1, ho]
  · rcases z with z | z
    · exact e'.np i a m z
    · rw [z, hD] at ho
      cases ho
/-- the block's own slots are empty at first -/
def clrs (A : Nat → List Addr) (is : List Nat) : Nat → List Addr := fun j => if j ∈ is then [] else A j
theorem wipeE_get (env : Ev) : ∀ (is : List Nat) (i : Nat) (x : RV), (wipeE env is)[i]? = some (some x) → env[i]? = some (some x) ∧ i ∉ is
  | [], i, x, h => ⟨h, by simp⟩
  | v :: vs, i, x, h => by
    unfold wipeE at h
    by_cases hi : v = i
    · subst hi
      by_cases hv : v < (wipeE env vs).length
      · rw [List.getElem?_set_self hv] at h; cases h
      · rw [List.getElem?_eq_none (by simpa using hv)] at h; cases h
    · rw [List.getElem?_set_ne hi] at h
      obtain ⟨h1, h2⟩ := wipeE_get env vs i x h
      exact ⟨h1, by simp only [List.mem_cons, not_or]; exact ⟨fun e => hi e.symm, h2⟩⟩
theorem wipeE_len (env : Ev) : ∀ is : List Nat, (wipeE env is).length = env.length
  | [] => rfl
  | v :: vs => by unfold wipeE; rw [List.length_set, wipeE_len env vs]
theorem wipe_get (σ : L2.St) : ∀ (is : List Nat) (i : Nat), i ∉ is → (wipe σ is)[i]? = σ[i]?
  | [], i, _ => rfl
  | v :: vs, i, h => by
    simp only [List.mem_cons, not_or] at h
    unfold wipe
    rw [List.getElem?_set_ne (fun z => h.1 z.symm), wipe_get σ vs i h.2]
theorem wipe_in (σ : L2.St) : ∀ (is : List Nat) (i : Nat), i ∈ is → (wipe σ is)[i]? = if i < σ.length then some none else none
  | v :: vs, i, h => by
    unfold wipe
    by_cases hi : v = i
    · subst hi
      by_cases hl : v < σ.length
      · rw [List.getElem?_set_self (by rw [wipe_length]; exact hl), if_pos hl]
      · rw [List.getElem?_eq_none (by rw [List.length_set, wipe_length]; omega), if_neg hl]
    · rw [List.getElem?_set_ne hi]
      rcases List.mem_cons.mp h with e | h
      · exact absurd e.symm hi
      · exact wipe_in σ vs i h
theorem wipe_same {σ σ2 : L2.St} {is : List Nat} (hl : σ2.length = σ.length) (h : ∀ j, j ∉ is → σ2[j]? = σ[j]?) : wipe σ2 is = wipe σ is := by
  apply List.ext_getElem?
  intro i
  by_cases hi : i ∈ is
  · rw [wipe_in _ _ _ hi, wipe_in _ _ _ hi, hl]
  · rw [wipe_get _ _ _ hi, wipe_get _ _ _ hi, h i hi]
theorem wipe_wipe (σ : L2.St) (is : List Nat) : wipe (wipe σ is) is = wipe σ is := wipe_same (wipe_length σ is) fun j hj => wipe_get σ is j hj
theorem EnvR.wipe (e : EnvR K w W H env σ A) (is : List Nat) : EnvR K w W H (wipeE env is) (wipe σ is) (clrs A is) where
  len := by rw [wipeE_len, wipe_length, e.len]
  at_ := fun i x h => by
    obtain ⟨h1, h2⟩ := wipeE_get env is i x h
    obtain ⟨v, q1, q2⟩ := e.at_ i x h1
    refine ⟨v, by rw [wipe_get _ _ _ h2]; exact q1, ?_⟩
    unfold clrs
    rw [if_neg h2]
    exact q2
  none_ := fun i h => by
    unfold clrs
    split
    · rfl
    · rename_i hi
      refine e.none_ i fun x hx => h x ?_
      have : ∀ is : List Nat, i ∉ is → (wipeE env is)[i]? = env[i]? := by
        intro is
        induction is with
        | nil => intro _; rfl
        | cons v vs ih =>
          intro hn
          simp only [List.mem_cons, not_or] at hn
          unfold wipeE
          rw [List.getElem?_set_ne (fun z => hn.1 z.symm), ih hn.2]
      rw [this is hi]
      exact hx
  nd := fun i => by
    unfold clrs
    split
    · exact List.nodup_nil
    · exact e.nd i
  no := fun i a m => by
    unfold clrs at m
    split at m
    · cases m
    · exact e.no i a m
  np := fun i a m => by
    unfold clrs at m
    split at m
    · cases m
    · exact e.np i a m
  dj := fun i j hij a m m2 => by
    unfold clrs at m m2
    split at m
    · cases m
    · split at m2
      · cases m2
      · exact e.dj i j hij a m m2
end
end Z

set_option linter.all false
set_option maxRecDepth 100000
set_option maxHeartbeats 1000000
/-! Z29: list comprehensions of one clause. -/
namespace Z
open PySem PySem.Spec PyProof.Rows L2
/-- .. that lets nothing out -/
abbrev E0 : L2.St → XW := fun _ _ _ _ => False
section
variable {X : Cx} {xr : XR} {E : L2.St → XW} {ev : Expr → Ev → Sto → R RV}
theorem bind_ok {α β : Type} {r : R α} {f : α → Sto → R β} {b : β} {st' : Sto} (h : r.bind f = .ok b st') : ∃ a st1, r = .ok a st1 ∧ f a st1 = .ok b st' := by
  cases r with
  | ok a st1 => exact ⟨a, st1, rfl, h⟩
  | exc c xs st1 => cases h
  | err => cases h
theorem ofO_ok {α : Type} {o : Option α} {st st' : Sto} {a : α} (h : ofO o st = .ok a st') : o = some a ∧ st = st' := by
  cases o with
  | none => cases h
  | some b => cases h; exact ⟨rfl, rfl⟩
/-- one turn -/
theorem lcF_cons {N : List Str} {tg : Expr} {ifs : List Expr} {elt : Ev → Sto → R (List RV)} {env : Ev} {x : RV} {r : List RV} {st st' : Sto} {ds : List RV} (h : lcF N ev tg ifs elt env (x :: r) st = .ok ds st') :
    ∃ env' b st1 ds0 st2 es, asgT N tg x env = some env' ∧ tests ev ifs env' st = .ok b st1 ∧ (if b then elt env' st1 else .ok [] st1) = .ok ds0 st2 ∧ lcF N ev tg ifs elt env r st2 = .ok es st' ∧ ds = ds0 ++ es := by
  have h' : ((ofO (asgT N tg x env) st).bind fun env' st => (tests ev ifs env' st).bind fun b st =>
    (if b then elt env' st else .ok [] st).bind fun ds st => (lcF N ev tg ifs elt env r st).bind fun es st => .ok (ds ++ es) st) = .ok ds st' := h
  obtain ⟨env', sa, h1, h2⟩ := bind_ok h'
  obtain ⟨e1, rfl⟩ := ofO_ok h1
  obtain ⟨b, sb, h3, h4⟩ := bind_ok h2
  obtain ⟨ds0, sc, h5, h6⟩ := bind_ok h4
  obtain ⟨es, sd, h7, h8⟩ := bind_ok h6
  cases h8
  exact ⟨env', b, sb, ds0, sc, es, e1, h3, h5, h7, rfl⟩
theorem tests_ok {X' : Cx} {ifs : List Expr} (hl : ifs.length ≤ 1) (h : ∀ c ∈ ifs, PT X' c (tT X'.K X'.w xr E0 (evT ev c))) : PTs X' ifs (tT X'.K X'.w xr E0 (tests ev ifs)) := by
  match ifs, hl, h with
  | [], _, _ => exact ⟨fun pins s σ H Q I ⟨W, env, st, F, q⟩ => pts_nil.run pins s σ H Q I (q W H Up.refl F.sr)⟩
  | [c], _, h =>
    refine ⟨fun pins s σ H Q I ⟨W, env, st, F, q⟩ => (pts_one (h c (by simp))).run pins s σ H Q I ⟨W, env, st, F, ?_⟩⟩
    have q' : GoodB X'.K X'.w xr ((evT ev c env st).bind fun b st => if b then .ok true st else .ok false st) W H (E0 σ) Q := q
    cases e : evT ev c env st with
    | err => rw [e] at q'; exact q'
    | exc c xs st' => rw [e] at q'; exact q'
    | ok b st' =>
      rw [e] at q'
      cases b with
      | true => exact fun W' H' u s => q' W' H' u s
      | false => exact fun W' H' u s => q' W' H' u s
/-- the list so far, at a turn -/
structure LcAt (K : PySem.W.Frag) (w : World) (W1 : Wd) (H1 : Hp) (D : Addr) (W' : Wd) (H' : Hp) (st' : Sto) (acc : List RV) (accV : List V) (A : List Addr) : Prop where
  up : Up W1 H1 W' H'
  sr : SR K w (W'.pend D) H' st'
  at_ : H' D = some (.lst accV)
  rv : RVs K w (W'.pend D) H' acc accV A
  nd : A.Nodup
  no : ∀ a ∈ A, ¬ W'.F a ∧ a ∉ W'.β ∧ H1 a = none ∧ a ≠ D ∧ ¬ W'.P a
  nb : D ∉ W'.β
theorem lc_ok {N : List Str} {elt tg : Expr} {ifs : List Expr} {own : List Nat} {J : It} {W1 : Wd} {H1 : Hp} {st1 stE : Sto} {xs ds : List RV} {env : Ev} {σ : L2.St} {Q : VK} (F : FR X.K X.w W1 H1 env st1 σ) (wk : Walk X.K X.w false W1 H1 J xs) (hown : ∀ j ∈ tgIx N tg, j ∈ own)
    (hr : lcF N ev tg ifs (lcE ev elt) (wipeE env own) xs st1 = .ok ds stE) (hz : ds.length ≤ lim)
    (fin : ∀ W' H' v A, Up W1 H1 W' H' → SR X.K X.w W' H' stE → RVr X.K X.w W' H' (.own ds) v A → Fresh W' H1 A → Q v H') :
    ∀ D, H1 D = none → ∃ Wm : Nat → Nat → Hp → Prop, (∃ m, Wm 0 m (upd H1 D (.lst []))) ∧ ∀ i m H, Wm i m H →
      (J.stop i H ∧ Q (.ref D) H) ∨ (J.go i H ∧ ∃ Nx : Hp → Prop, (∀ H', Nx H' → ∃ m', m' < m ∧ Wm (i + 1) m' H') ∧ ∀ x H', J.yld i H x H' → gOf N X.K tg x (wipe σ own) H' fun σ2 H2 => wipe σ2 own = wipe σ own ∧ tT X.K X.w xr E0 (tests ev ifs) σ2 H2 fun b H3 =>
        if b = true then tEv X.K X.w xr E0 (ev elt) σ2 H3 fun y H4 => ∃ acc, H4 D = some (.lst acc) ∧ acc.length < sizeLine ∧ Nx (upd H4 D (.lst (acc ++ [y]))) else Nx H3) := by
  intro D hD
  obtain ⟨S, wk⟩ := wk
  obtain ⟨A0, e0⟩ := F.env
  have ew := e0.wipe own
  let Wm : Nat → Nat → Hp → Prop := fun i m H => m = xs.length - i ∧ i ≤ xs.length ∧ ∃ W' st' acc accV A rest, LcAt X.K X.w W1 H1 D W' H st' acc accV A ∧ lcF N ev tg ifs (lcE ev elt) (wipeE env own) (xs.drop i) st' = .ok rest stE ∧ acc ++ rest = ds
  refine ⟨Wm, ⟨xs.length, rfl, Nat.zero_le _, W1, st1, [], [], [], ds, ⟨Up.refl.new hD, F.sr.pend hD [], upd_same, .nil, List.nodup_nil, (fun _ m => by cases m), fun z => ?_⟩, hr, rfl⟩, ?_⟩
  · obtain ⟨o, e⟩ := F.sr.βdom z
    rw [hD] at e
    cases e
  rintro i m H ⟨rfl, hi, W', st', acc, accV, A, rest, L, hrun, hacc⟩
  have stS : S H := wk.up W' H L.up
  by_cases hlt : i < xs.length
  · refine .inr ⟨wk.go i H stS hlt, fun H' => Wm (i + 1) (xs.length - (i + 1)) H', fun H' h => ⟨_, by omega, h⟩, fun x H' hy => ?_⟩
    have hdrop : xs.drop i = xs[i] :: xs.drop (i + 1) := List.drop_eq_getElem_cons hlt
    rw [hdrop] at hrun
    obtain ⟨env', b, sa, ds0, sb, es, ea, et, ee, er, ers⟩ := lcF_cons hrun
    -- the item
    have item : ∃ H'', H'' = H' ∧ LcAt X.K X.w W1 H1 D W' H'' st' acc accV A ∧ RVr X.K X.w (W'.pend D) H'' xs[i] x [] := by
      rcases wk.yld i H x H' xs[i] stS (List.getElem?_eq_getElem hlt) hy with ⟨rfl, r⟩ | ⟨p, ps, us, hp, rfl, rfl, ey, rp⟩
      · exact ⟨_, rfl, L, r.keep (pend_in L.up F.sr hD) fun _ m => by cases m⟩
      · refine ⟨_, rfl, ⟨L.up.new hp, L.sr.new hp, ?_, L.rv.keep ((Up.refl.new hp).keepR L.sr) fun a m => ?_, L.nd, L.no, L.nb⟩, ?_⟩
        · rw [upd_ne (ne_of_none L.at_ hp)]
          exact L.at_
        · obtain ⟨o, e⟩ := L.rv.dom a m
          rw [upd_ne (ne_of_none e hp)]
        · rw [ey]
          have k := pend_in (K := X.K) (L.up.new (o := .tup us) hp) F.sr hD
          exact .dat (.tup (SqT.of upd_same) (rp.keep k.k))
    obtain ⟨H'', eH, L, rx⟩ := item
    subst eH
    have er0 := ew.pend L.up F.sr hD
    refine asgT_ok ea er0 rx fun σ2 ⟨⟨A2, e2⟩, hl2, h2⟩ => ⟨?_, ?_⟩
    · rw [← wipe_wipe σ own]
      exact wipe_same (by rw [hl2]) fun j hj => h2 j fun m => hj (hown j m)
    -- the tests
    refine ⟨W'.pend D, env', st', ⟨L.sr, A2, e2⟩, ?_⟩
    rw [et]
    intro W3 H3 u3 s3
    -- the world behind the tests
    have worlds : ∀ {W3 : Wd} {H3 : Hp} {s3 : Sto}, Up (W'.pend D) H'' W3 H3 → SR X.K X.w W3 H3 s3 → ∃ V : Wd, W3 = V.pend D ∧ LcAt X.K X.w W1 H1 D V H3 s3 acc accV A := fun {W3 H3 s3} u s => by
      have e3 : W3 = ({ W3 with P := W'.P } : Wd).pend D := by
        have := u.P
        cases W3
        dsimp only at this
        subst this
        rfl
      refine ⟨{ W3 with P := W'.P }, e3, ?_⟩
      have uu : Up W' H'' { W3 with P := W'.P } H3 := ⟨u.F, u.O, rfl, u.β, u.ext, u.dom, u.Fn, u.βn⟩
      have dA := L.rv.dom
      refine ⟨L.up.trans uu, e3 ▸ s, u.ext D _ L.at_ L.nb, ?_, L.nd, fun a m => ?_, fun z => ?_⟩
      · rw [← e3]
        exact L.rv.up u L.sr fun a m => (L.no a m).2.1
      · obtain ⟨n1, n2, n3, n4, n5⟩ := L.no a m
        obtain ⟨o, eo⟩ := dA a m
        refine ⟨fun z => ?_, fun z => ?_, n3, n4, n5⟩
        · rcases u.Fn a z with q | q
          · exact n1 q
          · rw [eo] at q; cases q
        · rcases u.βn a z with q | q
          · exact n2 q
          · rw [eo] at q; cases q
      · rcases u.βn D z with q | q
        · exact L.nb q
        · rw [L.at_] at q; cases q
    obtain ⟨V, rfl, L3⟩ := worlds u3 s3
    cases b with
    | false =>
      rw [if_neg Bool.false_ne_true] at ee ⊢
      cases ee
      refine ⟨rfl, hlt, V, _, acc, accV, A, es, L3, er, ?_⟩
      rw [← hacc, ers]
      rfl
    | true =>
      rw [if_pos rfl] at ee ⊢
      have F3 : FR X.K X.w (V.pend D) H3 env' sa σ2 := FR.up ⟨L.sr, A2, e2⟩ u3 s3
      have ee' : ((ev elt env' sa).bind fun v st => (ofO (elem v) st).bind fun w st => .ok [w] st) = .ok ds0 sb := ee
      obtain ⟨v, sc, h1, h2'⟩ := bind_ok ee'
      obtain ⟨y, sd, h3, h4⟩ := bind_ok h2'
      obtain ⟨h5, rfl⟩ := ofO_ok h3
      cases h4
      refine ⟨V.pend D, env', sa, F3, ?_⟩
      rw [h1]
      intro W4 H4 u A4 u4 s4 r4 f4
      obtain ⟨V4, e4, L4⟩ := (show ∃ V' : Wd, W4 = V'.pend D ∧ LcAt X.K X.w W1 H1 D V' H4 _ acc accV A from by
        have e3 : W4 = ({ W4 with P := V.P } : Wd).pend D := by
          have := u4.P
          cases W4
          dsimp only at this
          subst this
          rfl
        refine ⟨{ W4 with P := V.P }, e3, ?_⟩
        have uu : Up V H3 { W4 with P := V.P } H4 := ⟨u4.F, u4.O, rfl, u4.β, u4.ext, u4.dom, u4.Fn, u4.βn⟩
        have dA := L3.rv.dom
        refine ⟨L3.up.trans uu, e3 ▸ s4, u4.ext D _ L3.at_ L3.nb, ?_, L3.nd, fun a m => ?_, fun z => ?_⟩
        · rw [← e3]
          exact L3.rv.up u4 L3.sr fun a m => (L3.no a m).2.1
        · obtain ⟨n1, n2, n3, n4, n5⟩ := L3.no a m
          obtain ⟨o, eo⟩ := dA a m
          refine ⟨fun z => ?_, fun z => ?_, n3, n4, n5⟩
          · rcases u4.Fn a z with q | q
            · exact n1 q
            · rw [eo] at q; cases q
          · rcases u4.βn a z with q | q
            · exact n2 q
            · rw [eo] at q; cases q
        · rcases u4.βn D z with q | q
          · exact L3.nb q
          · rw [L3.at_] at q; cases q)
      subst e4
      have ry := elem_ok r4 h5
      have hlen : acc.length < lim := by
        have : acc.length + (1 + es.length) ≤ lim := by
          rw [← hacc, ers] at hz
          simp only [List.length_append, List.length_cons, List.length_nil] at hz
          omega
        omega
      have hPD : (V4.pend D).P D := .inr rfl
      have kp := acc_keep (K := X.K) (us := accV ++ [u]) L4.sr hPD L4.nb L4.at_
      have nA4 : ∀ a ∈ A4, a ≠ D := fun a m z => by
        have := (f4.no a m).2.2
        rw [z, L3.at_] at this
        cases this
      have kA : ∀ a ∈ A, upd H4 D (.lst (accV ++ [u])) a = H4 a := fun a m => upd_ne (L4.no a m).2.2.2.1
      obtain ⟨B, q1, q2⟩ := (L4.rv.keep kp kA).app (.cons (ry.keep kp fun a m => upd_ne (nA4 a m)) .nil)
      subst q2
      refine ⟨accV, L4.at_, by rw [← L4.rv.length, ← lim_eq]; exact hlen, rfl, hlt, V4, _, acc ++ [y], accV ++ [u], A ++ (A4 ++ []), es, ⟨?_, L4.sr.acc hPD L4.nb L4.at_, upd_same, q1, ?_, fun a m => ?_, L4.nb⟩, er, ?_⟩
      · -- Up
        have u' := L4.up
        exact {
          F := u'.F
          O := u'.O
          P := u'.P
          β := u'.β
          ext := fun a o e n => by
            have hne : a ≠ D := fun z => by rw [z, hD] at e; cases e
            rw [upd_ne hne]
            exact u'.ext a o e n
          dom := fun a o e => by
            have hne : a ≠ D := fun z => by rw [z, hD] at e; cases e
            rw [upd_ne hne]
            exact u'.dom a o e
          Fn := u'.Fn
          βn := u'.βn }
      · rw [List.append_nil]
        refine List.nodup_append.mpr ⟨L4.nd, f4.nd, fun a ha b hb e => ?_⟩
        subst e
        obtain ⟨o, eo⟩ := L3.rv.dom a ha
        rw [(f4.no a hb).2.2] at eo
        cases eo
      · rw [List.append_nil] at m
        rcases List.mem_append.mp m with m | m
        · exact L4.no a m
        · obtain ⟨n1, n2, n3⟩ := f4.no a m
          exact ⟨n1, n2, L3.up.gone n3, nA4 a m, fun z => f4.np a m (.inl z)⟩
      · rw [← hacc, ers]
        simp
  · have e : i = xs.length := by omega
    subst e
    refine .inl ⟨wk.stop _ H stS (Nat.le_refl _), ?_⟩
    rw [List.drop_length] at hrun
    have hrest : rest = [] ∧ st' = stE := by
      have h' : (.ok [] st' : R (List RV)) = .ok rest stE := hrun
      cases h'
      exact ⟨rfl, rfl⟩
    obtain ⟨rfl, rfl⟩ := hrest
    rw [List.append_nil] at hacc
    subst hacc
    have rv := L.rv.keep (pend_out (K := X.K)) fun _ _ => rfl
    refine fin W' H (.ref D) (D :: A) L.up L.sr.unpend (.own L.at_ rv) ⟨List.nodup_cons.mpr ⟨fun m => (L.no D m).2.2.2.1 rfl, L.nd⟩, fun a m => ?_, fun a m => ?_⟩
    · rcases List.mem_cons.mp m with rfl | m
      · exact ⟨(L.sr.pf a (.inr rfl)).1, L.nb, hD⟩
      · exact ⟨(L.no a m).1, (L.no a m).2.1, (L.no a m).2.2.1⟩
    · rcases List.mem_cons.mp m with rfl | m
      · intro z
        rw [L.up.P] at z
        exact F.sr.npP hD z
      · exact (L.no a m).2.2.2.2
end
end Z

set_option linter.all false
set_option maxRecDepth 100000
set_option maxHeartbeats 1000000
/-! Z30: list comprehensions, as expressions. -/
namespace Z
open PySem PySem.Spec PyProof.Rows L2
section
variable {X : Cx} {xr : XR} {E : L2.St → XW} {ev : Expr → Ev → Sto → R RV}
def ownL (N : List Str) (sc : Scope) : List (Str × Nat) := sc.names.filterMap fun y => match y.2 with
  | .local => (ix N y.1).map (y.1, ·)
  | .cell => (ix N y.1).map (y.1, ·)
  | _ => none
theorem ownL_ix (N : List Str) (sc : Scope) : (ownL N sc).map (·.2) = ownIx N sc := by
  unfold ownL ownIx
  rw [List.map_filterMap]
  congr 1
  funext y
  cases y.2 <;> first | rfl | (cases ix N y.1 <;> rfl)
theorem lc_good {N : List Str} {elt tg : Expr} {ifs : List Expr} {sc : Scope} {W : Wd} {H : Hp} {st : Sto} {env : Ev} {σ : L2.St} {Q : VK} {r : R (List RV)} (F : FR X.K X.w W H env st σ) (hown : ∀ j ∈ tgIx N tg, j ∈ ownIx N sc)
    (h : Good X.K X.w xr ((r.bind fun xs st => (noExc (lcF N ev tg ifs (lcG N ev elt []) (wipeE env (ownIx N sc)) xs st)).bind fun ds st => if ds.length ≤ lim then .ok ds st else .err).bind fun ds st => .ok (.own ds) st) W H (E σ) Q) :
    GoodI X.K X.w xr false r W H (E σ) fun J H1 => ∀ D, H1 D = none → ∃ Wm : Nat → Nat → Hp → Prop, (∃ m, Wm 0 m (upd H1 D (.lst []))) ∧ ∀ i m H, Wm i m H →
      (J.stop i H ∧ Q (.ref D) H) ∨ (J.go i H ∧ ∃ Nx : Hp → Prop, (∀ H', Nx H' → ∃ m', m' < m ∧ Wm (i + 1) m' H') ∧ ∀ x H', J.yld i H x H' → gOf N X.K tg x (wipe σ (ownIx N sc)) H' fun σ2 H2 => wipe σ2 (ownIx N sc) = wipe σ (ownIx N sc) ∧ tT X.K X.w xr E0 (tests ev ifs) σ2 H2 fun b H3 =>
        if b = true then tEv X.K X.w xr E0 (ev elt) σ2 H3 fun y H4 => ∃ acc, H4 D = some (.lst acc) ∧ acc.length < sizeLine ∧ Nx (upd H4 D (.lst (acc ++ [y]))) else Nx H3) := by
  cases r with
  | err => exact h
  | exc c xs st' => exact h
  | ok xs st1 =>
    intro W1 H1 J u1 s1 wk
    have h1 : Good X.K X.w xr (((noExc (lcF N ev tg ifs (lcE ev elt) (wipeE env (ownIx N sc)) xs st1)).bind fun ds st => if ds.length ≤ lim then .ok ds st else .err).bind fun ds st => .ok (.own ds) st) W H (E σ) Q := h
    cases e : lcF N ev tg ifs (lcE ev elt) (wipeE env (ownIx N sc)) xs st1 with
    | err => rw [e] at h1; exact h1.elim
    | exc c ys st' => rw [e] at h1; exact h1.elim
    | ok ds stE =>
      rw [e] at h1
      have h2 : Good X.K X.w xr ((if ds.length ≤ lim then R.ok ds stE else .err).bind fun ds st => .ok (.own ds) st) W H (E σ) Q := h1
      split at h2
      · rename_i hz
        exact lc_ok (F.up u1 s1) wk hown e hz fun W' H' v A u s r f => h2 W' H' v A (u1.trans u) s r (f.from u1)
      · exact h2.elim
theorem pe_lcomp {elt tg iter : Expr} {ifs : List Expr} {sc : Scope} {pos : Pos} (hc : X.calm = true) (hN : X.N.Nodup) (hi : PI X tg iter (tI X.K X.w xr false E (evI ev false iter))) (ok : BlkOk X.N X.env.scope sc (ownL X.N sc)) (hown : ∀ j ∈ tgIx X.N tg, j ∈ ownIx X.N sc) (hl : ifs.length ≤ 1)
    (hg : ∀ (s : Shared) (H : Hp) (C : Addr) (cl : List (Str × Addr)) (fp : List Addr), PG (X.blk s H sc (compEnvC sc cl C X.env) fp) tg (gOf X.N X.K tg))
    (ht : ∀ (s : Shared) (H : Hp) (C : Addr) (cl : List (Str × Addr)) (fp : List Addr), ∀ c ∈ ifs, PT (X.blk s H sc (compEnvC sc cl C X.env) fp) c (tT X.K X.w xr E0 (evT ev c)))
    (he : ∀ (s : Shared) (H : Hp) (C : Addr) (cl : List (Str × Addr)) (fp : List Addr), PE (X.blk s H sc (compEnvC sc cl C X.env) fp) elt (tEv X.K X.w xr E0 (ev elt))) (hs : ∀ x, foldedSetIterable iter X.env x = pure x) :
    PE X (.ListComp elt [⟨tg, iter, ifs, 0⟩] sc pos) (tEv X.K X.w xr E fun env st => (lcTop X.N ev elt [⟨tg, iter, ifs, 0⟩] sc env st).bind fun ds st => .ok (.own ds) st) := by
  refine PE.imp (pe_lc (tt := tT X.K X.w xr E0 (tests ev ifs)) hc hN hi ok hg (fun s H C cl fp => tests_ok (X' := X.blk s H sc (compEnvC sc cl C X.env) fp) hl (ht s H C cl fp)) he hs) fun σ H Q ⟨W, env, st, F, h⟩ => ⟨W, env, st, F, ?_⟩
  have := lc_good (ev := ev) (tg := tg) (ifs := ifs) (r := evI ev false iter env st) F hown h
  rw [← ownL_ix] at this
  exact this
end
end Z

set_option linter.all false
set_option maxRecDepth 100000
set_option maxHeartbeats 1000000
/-! Z31: statements. -/
namespace Z
open PySem PySem.Spec PyProof.Rows L2
/-- what a slot may hold -/
def okS (x : RV) : Bool := okT x || okV x
section
variable {K : PySem.W.Frag} {w : World} {W W' : Wd} {H H' : Hp}
/-- what stays from a statement's start to its end -/
structure KS (K : PySem.W.Frag) (W : Wd) (H : Hp) (W' : Wd) (H' : Hp) : Prop where
  k : Keep K W.F H W'.F H'
  β : W.β <+: W'.β
theorem KS.refl : KS K W H W H := ⟨⟨fun _ _ h => h, fun _ _ _ h => h, fun _ f => ⟨f, rfl⟩⟩, List.prefix_refl _⟩
theorem KS.trans {W2 : Wd} {H2 : Hp} (k : KS K W H W' H') (k2 : KS K W' H' W2 H2) : KS K W H W2 H2 :=
  ⟨⟨fun a vs h => k2.k.tup a vs (k.k.tup a vs h), fun a o vs h => k2.k.fro a o vs (k.k.fro a o vs h), fun a f => ⟨(k2.k.stay a (k.k.stay a f).1).1, ((k2.k.stay a (k.k.stay a f).1).2).trans (k.k.stay a f).2⟩⟩, k.β.trans k2.β⟩
theorem KeepR.ks (k : KeepR K W H W' H') : KS K W H W' H' := ⟨k.k, k.β⟩
mutual
theorem RVr.okT (k : KS K W H W' H') : ∀ {x : RV} {v : V} {A : List Addr}, RVr K w W H x v A → Z.okT x = true → RVr K w W' H' x v A
  | _, _, _, .dat h, _ => .dat (h.keep k.k)
  | _, _, _, .ref h, _ => .ref (pre_mem k.β h)
  | _, _, _, .scr h, _ => .scr (h.imp (fun ⟨o, e⟩ => ⟨o, k.k.fro _ _ _ e⟩) fun q => q)
  | _, _, _, .tpl h hs, e => .tpl (k.k.tup _ _ h) (RVs.okT k hs (by simpa [Z.okT] using e))
  | _, _, _, .bor _, e => by simp [Z.okT] at e
  | _, _, _, .own _ _, e => by simp [Z.okT] at e
  | _, _, _, .odi _ _ _, e => by simp [Z.okT] at e
theorem RVs.okT (k : KS K W H W' H') : ∀ {x : List RV} {v : List V} {A : List Addr}, RVs K w W H x v A → Z.okTs x = true → RVs K w W' H' x v A
  | _, _, _, .nil, _ => .nil
  | _, _, _, .cons h hs, e => by
    rw [Z.okTs, Bool.and_eq_true] at e
    exact .cons (RVr.okT k h e.1) (RVs.okT k hs e.2)
end
mutual
theorem RVr.okV (k : KS K W H W' H') : ∀ {x : RV} {v : V} {A : List Addr}, RVr K w W H x v A → Z.okV x = true → (∀ a ∈ A, H' a = H a) → RVr K w W' H' x v A
  | _, _, _, .dat h, _, _ => .dat (h.keep k.k)
  | _, _, _, .own (a := a) h hs, e, n => .own ((n _ List.mem_cons_self).trans h) (RVs.okV k hs (by simpa [Z.okV] using e) fun b hb => n b (List.mem_cons_of_mem _ hb))
  | _, _, _, .odi (a := a) h ko hs, e, n => .odi ((n _ List.mem_cons_self).trans h) ko (RKv.okV k hs (by simpa [Z.okV] using e) fun b hb => n b (List.mem_cons_of_mem _ hb))
  | _, _, _, .ref _, e, _ => by simp [Z.okV] at e
  | _, _, _, .bor _, e, _ => by simp [Z.okV] at e
  | _, _, _, .scr _, e, _ => by simp [Z.okV] at e
  | _, _, _, .tpl _ _, e, _ => by simp [Z.okV] at e
theorem RVs.okV (k : KS K W H W' H') : ∀ {x : List RV} {v : List V} {A : List Addr}, RVs K w W H x v A → Z.okVs x = true → (∀ a ∈ A, H' a = H a) → RVs K w W' H' x v A
  | _, _, _, .nil, _, _ => .nil
  | _, _, _, .cons h hs, e, n => by
    rw [Z.okVs, Bool.and_eq_true] at e
    exact .cons (RVr.okV k h e.1 fun a m => n a (List.mem_append_left _ m)) (RVs.okV k hs e.2 fun a m => n a (List.mem_append_right _ m))
theorem RKv.okV (k : KS K W H W' H') : ∀ {x : List (PyData × RV)} {v : List DictEntry} {A : List Addr}, RKv K w W H x v A → Z.okKv x = true → (∀ a ∈ A, H' a = H a) → RKv K w W' H' x v A
  | _, _, _, .nil, _, _ => .nil
  | _, _, _, .cons a l c d e h g hs, q, n => by
    rw [Z.okKv, Bool.and_eq_true] at q
    exact .cons a l c (d.keep k.k) e (RVr.okV k h q.1 fun a m => n a (List.mem_append_left _ m)) g (RKv.okV k hs q.2 fun a m => n a (List.mem_append_right _ m))
end
theorem RVr.okS (k : KS K W H W' H') {x : RV} {v : V} {A : List Addr} (r : RVr K w W H x v A) (e : Z.okS x = true) (n : ∀ a ∈ A, H' a = H a) : RVr K w W' H' x v A := by
  unfold Z.okS at e
  rw [Bool.or_eq_true] at e
  rcases e with e | e
  · exact r.okT k e
  · exact r.okV k e n
end
/-- slots -/
def okE (env : Ev) : Prop := ∀ (i : Nat) (x : RV), env[i]? = some (some x) → okS x = true
/-- a point in a def that was begun at (W0, H0) -/
structure Pt (K : PySem.W.Frag) (w : World) (W0 : Wd) (H0 : Hp) (Wb : Wd) (Hb : Hp) (W : Wd) (H : Hp) (env : Ev) (st : Sto) (σ : L2.St) : Prop where
  fr : FR K w W H env st σ
  up : Up W0 H0 W H
  ks : KS K Wb Hb W H
  ok : okE env
def GoodS (K : PySem.W.Frag) (w : World) (xr : XR) (W0 : Wd) (H0 : Hp) (Wb : Wd) (Hb : Hp) (E : L2.St → XW) (r : R Fl) (D : Ends) : Prop := match r with
  | .ok (.nxt env) st => ∀ W H σ, Pt K w W0 H0 Wb Hb W H env st σ → D.nx σ H
  | .ok (.brk env) st => ∀ W H σ, Pt K w W0 H0 Wb Hb W H env st σ → D.bk σ H
  | .ok (.cnt env) st => ∀ W H σ, Pt K w W0 H0 Wb Hb W H env st σ → D.ct σ H
  | .ok (.ret v) st => ∀ W H u A, Up W0 H0 W H → SR K w W H st → RVr K w W H v u A → Fresh W H0 A → D.rt u H
  | .exc c xs st => ∀ W H cls d σ, Up W0 H0 W H → SR K w W H st → xr c xs cls d W H → E σ cls d H
  | .err => False
def tS (K : PySem.W.Frag) (w : World) (xr : XR) (W0 : Wd) (H0 : Hp) (E : L2.St → XW) (f : Ev → Sto → R Fl) : TS := fun D σ H => ∃ Wb Hb W env st, Pt K w W0 H0 Wb Hb W H env st σ ∧ GoodS K w xr W0 H0 Wb Hb E (f env st) D
section
variable {X : Cx} {xr : XR} {W0 : Wd} {H0 : Hp} {E : L2.St → XW}
section
variable {K : PySem.W.Frag} {w : World} {Wb W W1 : Wd} {Hb H H1 : Hp} {env : Ev} {st : Sto} {σ : L2.St} {D : Ends}
/-- an expression ahead -/
theorem GoodS.then {r : R RV} {f : RV → Sto → R Fl} {Q' : VK} (h : GoodS K w xr W0 H0 Wb Hb E (r.bind f) D) (u0 : Up W0 H0 W H)
    (k : ∀ x st2 W2 H2 v A, GoodS K w xr W0 H0 Wb Hb E (f x st2) D → Up W H W2 H2 → SR K w W2 H2 st2 → RVr K w W2 H2 x v A → Fresh W2 H A → Q' v H2) : Good K w xr r W H (E σ) Q' := by
  cases r with
  | ok x st' => exact fun W' H' v A u s rv fr => k x st' W' H' v A h u s rv fr
  | exc c xs st' => exact fun W' H' cls d u s q => h W' H' cls d σ (u0.trans u) s q
  | err => exact h
theorem GoodS.thenB {r : R Bool} {f : Bool → Sto → R Fl} {Q' : Bool → Hp → Prop} (h : GoodS K w xr W0 H0 Wb Hb E (r.bind f) D) (u0 : Up W0 H0 W H)
    (k : ∀ x st2 W2 H2, GoodS K w xr W0 H0 Wb Hb E (f x st2) D → Up W H W2 H2 → SR K w W2 H2 st2 → Q' x H2) : GoodB K w xr r W H (E σ) Q' := by
  cases r with
  | ok x st' => exact fun W' H' u s => k x st' W' H' h u s
  | exc c xs st' => exact fun W' H' cls d u s q => h W' H' cls d σ (u0.trans u) s q
  | err => exact h
/-- behind an expression -/
theorem Pt.then {st2 : Sto} {W2 : Wd} {H2 : Hp} (p : Pt K w W0 H0 Wb Hb W H env st σ) (u : Up W H W2 H2) (s : SR K w W2 H2 st2) : Pt K w W0 H0 Wb Hb W2 H2 env st2 σ :=
  ⟨p.fr.up u s, p.up.trans u, p.ks.trans (u.keepR p.fr.sr).ks, p.ok⟩
/-- from here on -/
theorem Pt.here (p : Pt K w W0 H0 Wb Hb W H env st σ) : Pt K w W0 H0 W H W H env st σ := ⟨p.fr, p.up, .refl, p.ok⟩
theorem Pt.back {Wc : Wd} {Hc : Hp} (p : Pt K w W0 H0 Wb Hb W H env st σ) (k : KS K Wc Hc Wb Hb) : Pt K w W0 H0 Wc Hc W H env st σ := ⟨p.fr, p.up, k.trans p.ks, p.ok⟩
theorem GoodS.back {r : R Fl} {Wc : Wd} {Hc : Hp} (h : GoodS K w xr W0 H0 Wc Hc E r D) (k : KS K Wc Hc Wb Hb) : GoodS K w xr W0 H0 Wb Hb E r D := by
  cases r with
  | ok f st' =>
    cases f with
    | nxt env => exact fun W H σ p => h W H σ (p.back k)
    | brk env => exact fun W H σ p => h W H σ (p.back k)
    | cnt env => exact fun W H σ p => h W H σ (p.back k)
    | ret v => exact h
  | exc c xs st' => exact h
  | err => exact h
end
/-! ### small ones -/
theorem ps_pass' {pos : Pos} : PS X (.Pass pos) (tS X.K X.w xr W0 H0 E fun env st => .ok (.nxt env) st) := ⟨fun pins s σ H D I ⟨Wb, Hb, W, env, st, p, h⟩ => ps_pass.run pins s σ H D I (h W H σ p)⟩
theorem ps_break' {pos : Pos} : PS X (.Break pos) (tS X.K X.w xr W0 H0 E fun env st => .ok (.brk env) st) := ⟨fun pins s σ H D I ⟨Wb, Hb, W, env, st, p, h⟩ => ps_break.run pins s σ H D I (h W H σ p)⟩
theorem ps_cont' {pos : Pos} : PS X (.Continue pos) (tS X.K X.w xr W0 H0 E fun env st => .ok (.cnt env) st) := ⟨fun pins s σ H D I ⟨Wb, Hb, W, env, st, p, h⟩ => ps_continue.run pins s σ H D I (h W H σ p)⟩
/-! ### blocks -/
theorem pss_nil' {ex : Stmt → Ev → Sto → R Fl} : PSs X [] (tS X.K X.w xr W0 H0 E (execL ex [])) := ⟨fun pins s σ H D I ⟨Wb, Hb, W, env, st, p, h⟩ => pss_nil.run pins s σ H D I (h W H σ p)⟩
theorem pss_cons' {ex : Stmt → Ev → Sto → R Fl} {s : Stmt} {r : List Stmt} (h1 : PS X s (tS X.K X.w xr W0 H0 E (ex s))) (h2 : PSs X r (tS X.K X.w xr W0 H0 E (execL ex r))) : PSs X (s :: r) (tS X.K X.w xr W0 H0 E (execL ex (s :: r))) := by
  refine ⟨fun pins sh σ H D I ⟨Wb, Hb, W, env, st, p, h⟩ => (pss_cons h1 h2).run pins sh σ H D I ⟨Wb, Hb, W, env, st, p, ?_⟩⟩
  have h' : GoodS X.K X.w xr W0 H0 Wb Hb E ((ex s env st).bind fun f st => match f with | .nxt env => execL ex r env st | f => .ok f st) D := h
  cases e : ex s env st with
  | err => rw [e] at h'; exact h'
  | exc c xs st' => rw [e] at h'; exact h'
  | ok f st' =>
    rw [e] at h'
    cases f with
    | nxt env' => exact fun W' H' σ' p' => ⟨Wb, Hb, W', env', st', p', h'⟩
    | brk env' => exact h'
    | cnt env' => exact h'
    | ret v => exact h'
theorem ps_if' {c : Expr} {a b : List Stmt} {pos : Pos} {ev : Expr → Ev → Sto → R RV} {ex : Stmt → Ev → Sto → R Fl} (hc : PT X c (tT X.K X.w xr E (evT ev c))) (ha : PSs X a (tS X.K X.w xr W0 H0 E (execL ex a))) (hb : PSs X b (tS X.K X.w xr W0 H0 E (execL ex b))) :
    PS X (.If c a b pos) (tS X.K X.w xr W0 H0 E fun env st => (evT ev c env st).bind fun t st => if t then execL ex a env st else execL ex b env st) := by
  refine ⟨fun pins sh σ H D I ⟨Wb, Hb, W, env, st, p, h⟩ => (ps_if hc ha hb).run pins sh σ H D I ⟨W, env, st, p.fr, GoodS.thenB h p.up fun t st2 W2 H2 h2 u2 s2 => ?_⟩⟩
  cases t with
  | true => exact ⟨Wb, Hb, W2, env, st2, p.then u2 s2, h2⟩
  | false => exact ⟨Wb, Hb, W2, env, st2, p.then u2 s2, h2⟩
end
end Z

set_option linter.all false
set_option maxRecDepth 100000
set_option maxHeartbeats 1000000
/-! Z32: slots are frozen, stored. -/
namespace Z
open PySem PySem.Spec PyProof.Rows L2
section
variable {K : PySem.W.Frag} {w : World} {W W' W0 Wb : Wd} {H H' H0 Hb : Hp} {env : Ev} {st : Sto} {σ : L2.St} {A : Nat → List Addr}
def putA (A : Nat → List Addr) (i : Nat) (B : List Addr) : Nat → List Addr := fun j => if j = i then B else A j
/-- a slot's value, with what it holds alone -/
theorem EnvR.put {i : Nat} {x : RV} {v : V} {B : List Addr} (e : EnvR K w W H env σ A) (hi : i < env.length) (r : RVr K w W H x v B) (nd : B.Nodup) (no : ∀ a ∈ B, ¬ W.F a ∧ a ∉ W.β ∧ W.O a) (np : ∀ a ∈ B, ¬ W.P a) (dj : ∀ j, j ≠ i → ∀ a ∈ B, a ∉ A j) : EnvR K w W H (env.set i (some x)) (σ.set i (some v)) (putA A i B) where
  len := by rw [List.length_set, List.length_set, e.len]
  at_ := fun j y h => by
    by_cases hj : j = i
    · subst hj
      rw [List.getElem?_set_self hi] at h
      cases h
      refine ⟨v, List.getElem?_set_self (by rw [← e.len]; exact hi), ?_⟩
      unfold putA
      rw [if_pos rfl]
      exact r
    · rw [List.getElem?_set_ne (Ne.symm hj)] at h
      obtain ⟨u, h1, h2⟩ := e.at_ j y h
      refine ⟨u, by rw [List.getElem?_set_ne (Ne.symm hj)]; exact h1, ?_⟩
      unfold putA
      rw [if_neg hj]
      exact h2
  none_ := fun j h => by
    unfold putA
    split
    · rename_i hj
      subst hj
      exact absurd (List.getElem?_set_self hi) (h x)
    · rename_i hj
      refine e.none_ j fun y hy => h y ?_
      rw [List.getElem?_set_ne (Ne.symm hj)]
      exact hy
  nd := fun j => by
    unfold putA
    split
    · exact nd
    · exact e.nd j
  no := fun j a m => by
    unfold putA at m
    split at m
    · exact no a m
    · exact e.no j a m
  np := fun j a m => by
    unfold putA at m
    split at m
    · exact np a m
    · exact e.np j a m
  dj := fun j k hjk a m m2 => by
    unfold putA at m m2
    split at m
    · rename_i hj
      split at m2
      · rename_i hk
        exact hjk (hj.trans hk.symm)
      · rename_i hk
        exact dj k hk a m m2
    · rename_i hj
      split at m2
      · exact dj j hj a m2 m
      · exact e.dj j k hjk a m m2
/-- a slot is forgotten -/
theorem EnvR.drop (e : EnvR K w W H env σ A) (i : Nat) : EnvR K w W H (env.set i none) σ (putA A i []) where
  len := by rw [List.length_set, e.len]
  at_ := fun j y h => by
    by_cases hj : j = i
    · subst hj
      by_cases hl : j < env.length
      · rw [List.getElem?_set_self hl] at h
        cases h
      · rw [List.getElem?_eq_none (by rw [List.length_set]; omega)] at h
        cases h
    · rw [List.getElem?_set_ne (Ne.symm hj)] at h
      obtain ⟨u, h1, h2⟩ := e.at_ j y h
      refine ⟨u, h1, ?_⟩
      unfold putA
      rw [if_neg hj]
      exact h2
  none_ := fun j h => by
    unfold putA
    split
    · rfl
    · rename_i hj
      refine e.none_ j fun y hy => h y ?_
      rw [List.getElem?_set_ne (Ne.symm hj)]
      exact hy
  nd := fun j => by
    unfold putA
    split
    · exact List.nodup_nil
    · exact e.nd j
  no := fun j a m => by
    unfold putA at m
    split at m
    · cases m
    · exact e.no j a m
  np := fun j a m => by
    unfold putA at m
    split at m
    · cases m
    · exact e.np j a m
  dj := fun j k hjk a m m2 => by
    unfold putA at m m2
    split at m
    · cases m
    · split at m2
      · cases m2
      · exact e.dj j k hjk a m m2
/-- a slot's own things are known to stay from here on -/
theorem EnvR.frz {i : Nat} {x : RV} {d : PyData} (e : EnvR K w W H env σ A) (hx : env[i]? = some (some x)) (hd : Z.deep x = some d) : EnvR K w (W.fz (A i)) H (env.set i (some (.dat d))) σ (putA A i []) := by
  have hi : i < env.length := (List.getElem?_eq_some_iff.mp hx).1
  obtain ⟨v, h1, h2⟩ := e.at_ i x hx
  have e' : EnvR K w (W.fz (A i)) H (env.set i none) σ (putA A i []) := (e.drop i).keepW (KeepR.fz (A i)) fun j a m => by
    unfold putA at m
    split at m
    · cases m
    · rename_i hj
      obtain ⟨n1, n2, n3⟩ := e.no j a m
      exact ⟨rfl, fun z => z.elim n1 fun z => e.dj j i hj a m z, n2, n3, e.np j a m⟩
  have r : RVr K w (W.fz (A i)) H (.dat d) v [] := .dat (h2.deep hd fun a m => m)
  have := e'.put (i := i) (by rw [List.length_set]; exact hi) r List.nodup_nil (fun _ m => by cases m) (fun _ m => by cases m) (fun _ _ _ m => by cases m)
  rw [List.set_set] at this
  have es : σ.set i (some v) = σ := by
    apply List.ext_getElem?
    intro k
    by_cases hk : k = i
    · subst hk
      rw [List.getElem?_set_self (by rw [← e.len]; exact hi), h1]
    · rw [List.getElem?_set_ne (Ne.symm hk)]
  rw [es] at this
  have ep : putA (putA A i []) i [] = putA A i [] := by
    funext k
    unfold putA
    split <;> rfl
  rw [ep] at this
  exact this
theorem okE_set {i : Nat} {x : RV} (h : okE env) (hx : okS x = true) : okE (env.set i (some x)) := fun j y hy => by
  by_cases hj : j = i
  · subst hj
    by_cases hl : j < env.length
    · rw [List.getElem?_set_self hl] at hy
      cases hy
      exact hx
    · rw [List.getElem?_eq_none (by rw [List.length_set]; omega)] at hy
      cases hy
  · rw [List.getElem?_set_ne (Ne.symm hj)] at hy
    exact h j y hy
theorem okE_drop {i : Nat} (h : okE env) : okE (env.set i none) := fun j y hy => by
  by_cases hj : j = i
  · subst hj
    by_cases hl : j < env.length
    · rw [List.getElem?_set_self hl] at hy
      cases hy
    · rw [List.getElem?_eq_none (by rw [List.length_set]; omega)] at hy
      cases hy
  · rw [List.getElem?_set_ne (Ne.symm hj)] at hy
    exact h j y hy
theorem Pt.frz1 (hO : ∀ a, W0.O a → H0 a = none) {i : Nat} {x : RV} {d : PyData} (p : Pt K w W0 H0 Wb Hb W H env st σ) (hx : env[i]? = some (some x)) (hd : Z.deep x = some d) : ∃ W', Pt K w W0 H0 Wb Hb W' H (env.set i (some (.dat d))) st σ := by
  obtain ⟨A, e⟩ := p.fr.env
  have oA : ∀ a ∈ A i, H0 a = none := fun a m => hO a (by rw [← p.up.O]; exact (e.no i a m).2.2)
  refine ⟨W.fz (A i), ⟨⟨p.fr.sr.fz (fun a m => (e.no i a m).2.1) (e.np i) (e.dom i), _, e.frz hx hd⟩, p.up.fz oA, p.ks.trans (KeepR.fz (A i)).ks, okE_set p.ok (by simp [okS, okT])⟩⟩
theorem Pt.frz (hO : ∀ a, W0.O a → H0 a = none) : ∀ (l : List Nat) {env : Ev} {W : Wd}, Pt K w W0 H0 Wb Hb W H env st σ → ∃ W', Pt K w W0 H0 Wb Hb W' H (fzAll env l) st σ
  | [], _, W, p => ⟨W, p⟩
  | i :: r, env, W, p => by
    unfold fzAll
    split
    · rename_i vs hx
      split
      · rename_i ds hd
        obtain ⟨W', p'⟩ := p.frz1 hO hx (d := .list ds) (by rw [Z.deep, hd]; rfl)
        exact Pt.frz hO r p'
      · exact Pt.frz hO r p
    · rename_i kvs hx
      split
      · rename_i ds hd
        obtain ⟨W', p'⟩ := p.frz1 hO hx (d := .dict ds) (by rw [Z.deep, hd]; rfl)
        exact Pt.frz hO r p'
      · exact Pt.frz hO r p
    · exact Pt.frz hO r p
/-- a new value is stored -/
theorem Pt.put {i : Nat} {x : RV} {v : V} {B : List Addr} {W2 : Wd} {H2 : Hp} {st2 : Sto} (p : Pt K w W0 H0 Wb Hb W H env st σ) (u : Up W H W2 H2) (s : SR K w W2 H2 st2) (r : RVr K w W2 H2 x v B) (f : Fresh W2 H B) (ok : okS x = true) (hi : i < env.length) :
    Pt K w W0 H0 Wb Hb W2 H2 (env.set i (some x)) st2 (σ.set i (some v)) := by
  obtain ⟨A, e⟩ := p.fr.env
  have e2 := e.up u p.fr.sr
  refine ⟨⟨s, _, e2.put hi r f.nd (fun a m => ⟨(f.no a m).1, (f.no a m).2.1, ?_⟩) f.np fun j _ a m m2 => ?_⟩, p.up.trans u, p.ks.trans (u.keepR p.fr.sr).ks, okE_set p.ok ok⟩
  · rw [u.O]
    exact p.fr.sr.fr a (f.no a m).2.2
  · obtain ⟨o, eo⟩ := e.dom j a m2
    rw [(f.no a m).2.2] at eo
    cases eo
/-- what is stored of a value -/
theorem held_ok {o : Bool} {y x : RV} {v : V} {B : List Addr} {W2 : Wd} {H2 : Hp} {st2 : Sto} (u : Up W H W2 H2) (s : SR K w W2 H2 st2) (r : RVr K w W2 H2 y v B) (f : Fresh W2 H B) (e : held o y = some x) :
    ∃ W3 B', Up W H W3 H2 ∧ SR K w W3 H2 st2 ∧ RVr K w W3 H2 x v B' ∧ Fresh W3 H B' ∧ okS x = true := by
  obtain ⟨u3, s3⟩ := u.fzC s f r.dom
  cases r with
  | dat h => cases e; exact ⟨W2, [], u, s, .dat h, Fresh.nil, rfl⟩
  | ref h => cases e; exact ⟨W2, [], u, s, .ref h, Fresh.nil, rfl⟩
  | scr _ => cases e
  | @bor d _ h =>
    have e' : (if noL d then some (RV.dat d) else none) = some x := e
    split at e'
    · rename_i hn
      cases e'
      exact ⟨W2, [], u, s, .dat (h.keepN (fun _ _ q => q) hn), Fresh.nil, rfl⟩
    · cases e'
  | @tpl a xs vs h hs =>
    have e' : (if okTs xs then some (RV.tpl xs) else none) = some x := e
    split at e'
    · rename_i hk
      cases e'
      exact ⟨W2, [], u, s, .tpl h hs, Fresh.nil, by simp [okS, okT, hk]⟩
    · cases e'
  | @own a xs vs A' h hs =>
    have e' : (if o then (if okVs xs then some (RV.own xs) else none) else (deeps xs).map fun ds => RV.dat (.list ds)) = some x := e
    split at e'
    · split at e'
      · rename_i hk
        cases e'
        exact ⟨W2, _, u, s, .own h hs, f, by simp [okS, okV, hk]⟩
      · cases e'
    · obtain ⟨ds, e1, rfl⟩ := Option.map_eq_some_iff.mp e'
      exact ⟨_, [], u3, s3, .dat ((RVr.own h hs).deep (d := .list ds) (by rw [Z.deep, e1]; rfl) fun a m => m), Fresh.nil, rfl⟩
  | @odi a kvs es A' h ko hs =>
    have e' : (if o then (if okKv kvs then some (RV.odi kvs) else none) else (deepKv kvs).map fun ds => RV.dat (.dict ds)) = some x := e
    split at e'
    · split at e'
      · rename_i hk
        cases e'
        exact ⟨W2, _, u, s, .odi h ko hs, f, by simp [okS, okV, hk]⟩
      · cases e'
    · obtain ⟨ds, e1, rfl⟩ := Option.map_eq_some_iff.mp e'
      exact ⟨_, [], u3, s3, .dat ((RVr.odi h ko hs).deep (d := .dict ds) (by rw [Z.deep, e1]; rfl) fun a m => m), Fresh.nil, rfl⟩
end
theorem PE.or {X : Cx} {e : Expr} {t u : TE} (h : PE X e t) (h2 : PE X e u) : PE X e (fun σ H Q => t σ H Q ∨ u σ H Q) := ⟨fun pins s σ H Q I q => q.elim (h.run pins s σ H Q I) (h2.run pins s σ H Q I)⟩
theorem PS.imp {X : Cx} {s : Stmt} {t u : TS} (h : PS X s t) (k : ∀ D σ H, u D σ H → t D σ H) : PS X s u := ⟨fun pins sh σ H D I q => h.run pins sh σ H D I (k D σ H q)⟩
section
variable {X : Cx} {xr : XR} {W0 : Wd} {H0 : Hp} {E : L2.St → XW}
theorem FR.sig {K : PySem.W.Frag} {w : World} {W : Wd} {H : Hp} {env : Ev} {st : Sto} {σ : L2.St} (F : FR K w W H env st σ) : env.length = σ.length := let ⟨_, e⟩ := F.env; e.len
/-- x = e -/
theorem ps_name {N : List Str} {x : Str} {e : Expr} {px pos : Pos} {o : Bool} {i : Nat} {te : TE} {ev : Expr → Ev → Sto → R RV} (hi : ix N x = some i) (hl : ∀ {σ : L2.St} {env : Ev} {W : Wd} {H : Hp} {st : Sto}, FR X.K X.w W H env st σ → i < env.length) (hn : ∀ env, ownSlot N env e = none) (hR : PS X (.Assign [.Name x px] e pos) (tAsg te (gName i))) (hk : ∀ σ H Q, tEv X.K X.w xr E (ev e) σ H Q → te σ H Q) :
    PS X (.Assign [.Name x px] e pos) (tS X.K X.w xr W0 H0 E fun env st => execAsg N ev o (.Name x px) e env st) := by
  refine PS.imp hR fun D σ H ⟨Wb, Hb, W, env, st, p, h⟩ => hk _ _ _ ⟨W, env, st, p.fr, ?_⟩
  have h' : GoodS X.K X.w xr W0 H0 Wb Hb E ((ev e env st).bind fun v st => match held o v with
      | some v => (ofO (asgN N x v env) st).bind fun env st => .ok (.nxt env) st
      | none => .err) D := by
    have : execAsg N ev o (.Name x px) e env st = (ev e env st).bind fun v st => match held o v with
      | some v => (ofO (asgN N x v env) st).bind fun env st => .ok (.nxt env) st
      | none => .err := by
      unfold execAsg
      dsimp only
      rw [hn env]
      try rfl
    rw [← this]
    exact h
  refine GoodS.then h' p.up fun y st2 W2 H2 v A h2 u2 s2 r2 f2 => ?_
  cases eh : held o y with
  | none => rw [eh] at h2; exact h2.elim
  | some z =>
    rw [eh] at h2
    obtain ⟨W3, B, u3, s3, r3, f3, ok⟩ := held_ok u2 s2 r2 f2 eh
    have ea : asgN N x z env = some (setE env i z) := by
      unfold asgN
      rw [hi]
      rfl
    have h3 : GoodS X.K X.w xr W0 H0 Wb Hb E ((ofO (asgN N x z env) st2).bind fun env st => R.ok (Fl.nxt env) st) D := h2
    rw [ea] at h3
    exact h3 W3 H2 _ (p.put u3 s3 r3 f3 ok (hl p.fr))
/-- an expression statement -/
theorem ps_ex {e : Expr} {pos : Pos} {ev : Expr → Ev → Sto → R RV} (he : PE X e (tEv X.K X.w xr E (ev e))) (hs : swapsWith e none pos.line X.env = pure false) : PS X (.Expr e pos) (tS X.K X.w xr W0 H0 E fun env st => (ev e env st).bind fun _ st => .ok (.nxt env) st) :=
  PS.imp (ps_expr he hs) fun D σ H ⟨Wb, Hb, W, env, st, p, h⟩ => ⟨W, env, st, p.fr, GoodS.then h p.up fun y st2 W2 H2 v A h2 u2 s2 r2 f2 => h2 W2 H2 σ (p.then u2 s2)⟩
/-- return e, not a slot's own -/
theorem ps_rt {e : Expr} {pos : Pos} {ev : Expr → Ev → Sto → R RV} (he : PE X e (tEv X.K X.w xr E (ev e))) : PS X (.Return (some e) pos) (tS X.K X.w xr W0 H0 E fun env st => (ev e env st).bind fun v st => match v with
        | .bor d => if noL d then .ok (.ret (.dat d)) st else .err
        | v => .ok (.ret v) st) := by
  refine PS.imp (ps_ret he) fun D σ H ⟨Wb, Hb, W, env, st, p, h⟩ => ⟨W, env, st, p.fr, GoodS.then h p.up fun y st2 W2 H2 v A h2 u2 s2 r2 f2 => ?_⟩
  have uu := p.up.trans u2
  have ff := f2.from p.up
  cases r2 with
  | @bor d _ hd =>
    have h3 : GoodS X.K X.w xr W0 H0 Wb Hb E (if noL d then .ok (.ret (.dat d)) st2 else .err) D := h2
    split at h3
    · rename_i hn
      exact h3 W2 H2 _ [] uu s2 (.dat (hd.keepN (fun _ _ q => q) hn)) Fresh.nil
    · exact h3.elim
  | dat hd => exact h2 W2 H2 _ [] uu s2 (.dat hd) Fresh.nil
  | ref hd => exact h2 W2 H2 _ [] uu s2 (.ref hd) Fresh.nil
  | scr hd => exact h2 W2 H2 _ [] uu s2 (.scr hd) Fresh.nil
  | tpl hd hs => exact h2 W2 H2 _ [] uu s2 (.tpl hd hs) Fresh.nil
  | own hd hs => exact h2 W2 H2 _ _ uu s2 (.own hd hs) ff
  | odi hd ko hs => exact h2 W2 H2 _ _ uu s2 (.odi hd ko hs) ff
theorem ps_rtN {pos : Pos} : PS X (.Return none pos) (tS X.K X.w xr W0 H0 E fun env st => .ok (.ret (.dat .none)) st) :=
  PS.imp ps_retN fun D σ H ⟨Wb, Hb, W, env, st, p, h⟩ => h W H _ [] p.up p.fr.sr (.dat .non) Fresh.nil
end
end Z

set_option linter.all false
set_option maxRecDepth 100000
set_option maxHeartbeats 1000000
/-! Z33: a slot's own list, own dict is changed. -/
namespace Z
open PySem PySem.Spec PyProof.Rows L2
section
variable {K : PySem.W.Frag} {w : World} {W W' W0 Wb : Wd} {H H' H0 Hb : Hp} {env : Ev} {st : Sto} {σ : L2.St} {A : Nat → List Addr}
/-- what a change at a0 leaves -/
theorem upd_ks {a0 : Addr} {o' : HO} (nF : ¬ W.F a0) (nt : (∀ vs, ¬ Rd H a0 (.tup vs)) ∧ ∀ o vs, H a0 ≠ some (.frz o (.lst vs))) : KS K W H W (upd H a0 o') := by
  refine ⟨⟨fun b vs h => ?_, fun b ob vs h => ?_, fun b f => ⟨f, upd_ne fun z => by subst z; exact nF f⟩⟩, List.prefix_refl _⟩
  · rcases h with h | h
    · have hne : b ≠ a0 := fun z => by subst z; exact nt.1 _ h
      rcases h with h | ⟨ob, h⟩
      · exact .inl (.inl ((upd_ne hne).trans h))
      · exact .inl (.inr ⟨ob, (upd_ne hne).trans h⟩)
    · exact .inr h
  · rw [upd_ne (fun z => by subst z; exact nt.2 _ _ h)]
    exact h
theorem upd_sr (s : SR K w W H st) {a0 : Addr} {o' : HO} (nF : ¬ W.F a0) (nb : a0 ∉ W.β) (nt : (∀ vs, ¬ Rd H a0 (.tup vs)) ∧ ∀ o vs, H a0 ≠ some (.frz o (.lst vs))) : SR K w W (upd H a0 o') st where
  len := s.len
  nd := s.nd
  bf := s.bf
  pf := fun a h => by
    obtain ⟨n, o, e⟩ := s.pf a h
    refine ⟨n, ?_⟩
    by_cases z : a = a0
    · exact ⟨_, by rw [z]; exact upd_same⟩
    · exact ⟨o, by rw [upd_ne z]; exact e⟩
  dom := fun a f => by
    obtain ⟨o, e⟩ := s.dom a f
    exact ⟨o, by rw [upd_ne (fun z => by subst z; exact nF f)]; exact e⟩
  cells := fun i c a h1 h2 => (s.cells i c a h1 h2).keepF (upd_ks (K := K) nF nt).k (List.prefix_refl _) (upd_ne fun z => by subst z; exact nb (List.mem_of_getElem? h2))
  fr := fun a h => s.fr a (by
    by_cases z : a = a0
    · rw [z, upd_same] at h; cases h
    · rw [upd_ne z] at h; exact h)
theorem own_not {x : RV} {v : V} {B : List Addr} {a0 : Addr} (r : RVr K w W H x v (a0 :: B)) (e : v = .ref a0) : (∀ vs, ¬ Rd H a0 (.tup vs)) ∧ ∀ o vs, H a0 ≠ some (.frz o (.lst vs)) := by
  subst e
  cases r with
  | own h _ => exact ⟨fun vs q => by rcases q with q | ⟨o, q⟩ <;> (rw [h] at q; cases q), fun o vs q => by rw [h] at q; cases q⟩
  | odi h _ _ =>
    refine ⟨fun vs q => ?_, fun o vs q => ?_⟩
    · rcases q with q | ⟨o, q⟩ <;> rw [h] at q
      · exact raw_ne_tup (Option.some.inj q)
      · exact raw_ne_frz (Option.some.inj q)
    · rw [h] at q
      exact raw_ne_frz (Option.some.inj q)
/-- a slot's own thing at a0 is changed; x' holds it now -/
theorem Pt.change (hO : ∀ a, W0.O a → H0 a = none) (p : Pt K w W0 H0 Wb Hb W H env st σ) (e : EnvR K w W H env σ A) {j : Nat} {a0 : Addr} (hm : a0 ∈ A j) (nt : (∀ vs, ¬ Rd H a0 (.tup vs)) ∧ ∀ o vs, H a0 ≠ some (.frz o (.lst vs))) {o' : HO} {x' : RV} {v : V} {B : List Addr}
    (hσ : σ[j]? = some (some v)) (r' : RVr K w W (upd H a0 o') x' v B) (ok : okS x' = true) (nd : B.Nodup) (no : ∀ a ∈ B, ¬ W.F a ∧ a ∉ W.β ∧ W.O a) (np : ∀ a ∈ B, ¬ W.P a) (dj : ∀ k, k ≠ j → ∀ a ∈ B, a ∉ A k) : Pt K w W0 H0 Wb Hb W (upd H a0 o') (env.set j (some x')) st σ := by
  obtain ⟨n1, n2, n3⟩ := e.no j a0 hm
  have ks := upd_ks (K := K) (o' := o') n1 nt
  have hj : j < env.length := by
    rw [e.len]
    exact (List.getElem?_eq_some_iff.mp hσ).1
  have e1 : EnvR K w W (upd H a0 o') (env.set j none) σ (putA A j []) := {
    len := (e.drop j).len
    at_ := fun i x h => by
      have hx : i ≠ j := fun z => by
        subst z
        rw [List.getElem?_set_self hj] at h
        cases h
      obtain ⟨u, h1, h2⟩ := (e.drop j).at_ i x h
      have hx2 : env[i]? = some (some x) := by rw [List.getElem?_set_ne (Ne.symm hx)] at h; exact h
      refine ⟨u, h1, h2.okS ks (p.ok i x hx2) fun a m => upd_ne fun z => ?_⟩
      unfold putA at m
      rw [if_neg hx] at m
      subst z
      exact e.dj i j hx a m hm
    none_ := (e.drop j).none_
    nd := (e.drop j).nd
    no := (e.drop j).no
    np := (e.drop j).np
    dj := (e.drop j).dj }
  have e2 := e1.put (i := j) (by rw [List.length_set]; exact hj) r' nd no np fun k hk a m m2 => by
    unfold putA at m2
    rw [if_neg hk] at m2
    exact dj k hk a m m2
  rw [List.set_set] at e2
  have es : σ.set j (some v) = σ := by
    apply List.ext_getElem?
    intro k
    by_cases hk : k = j
    · subst hk
      rw [List.getElem?_set_self (by rw [← e.len]; exact hj), hσ]
    · rw [List.getElem?_set_ne (Ne.symm hk)]
  rw [es] at e2
  refine ⟨⟨upd_sr p.fr.sr n1 n2 nt, _, e2⟩, ?_, p.ks.trans ks, okE_set p.ok ok⟩
  have u := p.up
  have h0 : H0 a0 = none := hO a0 (by rw [← u.O]; exact n3)
  exact {
    F := u.F
    O := u.O
    P := u.P
    β := u.β
    ext := fun a o eo n => by
      have hne : a ≠ a0 := fun z => by rw [z, h0] at eo; cases eo
      rw [upd_ne hne]
      exact u.ext a o eo n
    dom := fun a o eo => by
      have hne : a ≠ a0 := fun z => by rw [z, h0] at eo; cases eo
      rw [upd_ne hne]
      exact u.dom a o eo
    Fn := u.Fn
    βn := u.βn }
end
end Z

set_option linter.all false
set_option maxRecDepth 100000
set_option maxHeartbeats 1000000
/-! Z34: append, extend of a slot's own list. -/
namespace Z
open PySem PySem.Spec PyProof.Rows L2
section
variable {K : PySem.W.Frag} {w : World} {W W0 Wb W2 : Wd} {H H0 Hb H2 : Hp} {env : Ev} {st st2 : Sto} {σ : L2.St}
theorem ownSlot_name {N : List Str} {x : Str} {px : Pos} {j : Nat} {vs : List RV} (h : ownSlot N env (.Name x px) = some (j, vs)) : ix N x = some j ∧ env[j]? = some (some (.own vs)) := by
  unfold ownSlot at h
  dsimp only at h
  split at h
  · rename_i i hi
    split at h
    · rename_i ws hw
      cases h
      exact ⟨hi, hw⟩
    · cases h
  · cases h
theorem okVs_app : ∀ {xs ys : List RV}, okVs xs = true → okVs ys = true → okVs (xs ++ ys) = true
  | [], _, _, h => h
  | x :: xs, ys, h, h2 => by
    rw [okVs, Bool.and_eq_true] at h
    rw [List.cons_append, okVs, h.1, okVs_app h.2 h2]
    rfl
theorem okVs_dat : ∀ ds : List PyData, okVs (ds.map .dat) = true
  | [] => rfl
  | d :: ds => by rw [List.map_cons, okVs, okVs_dat ds]; rfl
/-- a slot's own list -/
theorem own_at (p : Pt K w W0 H0 Wb Hb W H env st σ) {j : Nat} {vs : List RV} (hx : env[j]? = some (some (.own vs))) : ∃ A a0 us A', EnvR K w W H env σ A ∧ σ[j]? = some (some (.ref a0)) ∧ H a0 = some (.lst us) ∧ RVs K w W H vs us A' ∧ A j = a0 :: A' ∧ okVs vs = true := by
  obtain ⟨A, e⟩ := p.fr.env
  obtain ⟨v, h1, h2⟩ := e.at_ j _ hx
  have ok := p.ok j _ hx
  have ok' : okVs vs = true := by simpa [okS, okT, okV] using ok
  generalize hA : A j = B at h2
  cases h2 with
  | own h hs => exact ⟨A, _, _, _, e, h1, h, hs, hA, ok'⟩
/-- more things at its end -/
theorem own_more (hO : ∀ a, W0.O a → H0 a = none) (p : Pt K w W0 H0 Wb Hb W H env st σ) {A : Nat → List Addr} (e : EnvR K w W H env σ A) {j : Nat} {a0 : Addr} {us : List V} {A' : List Addr} {vs ws : List RV} {zs : List V} {B : List Addr} (hσ : σ[j]? = some (some (.ref a0))) (hl : H a0 = some (.lst us)) (hv : RVs K w W H vs us A') (hA : A j = a0 :: A') (ok : okVs vs = true)
    (u : Up W H W2 H2) (s : SR K w W2 H2 st2) (hw : RVs K w W2 H2 ws zs B) (okw : okVs ws = true) (f : Fresh W2 H B) : Pt K w W0 H0 Wb Hb W2 (upd H2 a0 (.lst (us ++ zs))) (env.set j (some (.own (vs ++ ws)))) st2 σ := by
  have e2 := e.up u p.fr.sr
  have p2 := p.then u s
  have m0 : a0 ∈ A j := by rw [hA]; exact List.mem_cons_self
  obtain ⟨n1, n2, n3⟩ := e.no j a0 m0
  have hl2 : H2 a0 = some (.lst us) := u.ext a0 _ hl n2
  have nt : (∀ vs, ¬ Rd H2 a0 (.tup vs)) ∧ ∀ o vs, H2 a0 ≠ some (.frz o (.lst vs)) := ⟨fun vs q => by rcases q with q | ⟨o, q⟩ <;> (rw [hl2] at q; cases q), fun o vs q => by rw [hl2] at q; cases q⟩
  have nF2 := (e2.no j a0 m0).1
  have ks := upd_ks (K := K) (o' := .lst (us ++ zs)) nF2 nt
  have ndA := e.nd j
  rw [hA] at ndA
  have nd' := List.nodup_cons.mp ndA
  have mA : ∀ a ∈ A', a ∈ A j := fun a m => by rw [hA]; exact List.mem_cons_of_mem _ m
  have nB0 : ∀ a ∈ B, a ≠ a0 := fun a m z => by
    have := (f.no a m).2.2
    rw [z, hl] at this
    cases this
  have hv2 : RVs K w W2 H2 vs us A' := hv.up u p.fr.sr fun a m => (e.no j a (mA a m)).2.1
  have q1 := hv2.okV ks ok fun a m => upd_ne fun z => nd'.1 (z ▸ m)
  have q2 := hw.okV ks okw fun a m => upd_ne (nB0 a m)
  obtain ⟨D, q3, rfl⟩ := q1.app q2
  refine p2.change hO e2 m0 nt hσ (.own upd_same q3) (by simp [okS, okV, okVs_app ok okw]) ?_ ?_ ?_ ?_
  · refine List.nodup_cons.mpr ⟨fun m => ?_, List.nodup_append.mpr ⟨nd'.2, f.nd, fun a ha b hb z => ?_⟩⟩
    · rcases List.mem_append.mp m with m | m
      · exact nd'.1 m
      · exact nB0 a0 m rfl
    · subst z
      obtain ⟨o, eo⟩ := hv.dom a ha
      rw [(f.no a hb).2.2] at eo
      cases eo
  · intro a m
    rcases List.mem_cons.mp m with rfl | m
    · exact e2.no j a m0
    · rcases List.mem_append.mp m with m | m
      · exact e2.no j a (mA a m)
      · refine ⟨(f.no a m).1, (f.no a m).2.1, ?_⟩
        rw [u.O]
        exact p.fr.sr.fr a (f.no a m).2.2
  · intro a m
    rcases List.mem_cons.mp m with rfl | m
    · exact e2.np j a m0
    · rcases List.mem_append.mp m with m | m
      · exact e2.np j a (mA a m)
      · exact f.np a m
  · intro k hk a m m2
    rcases List.mem_cons.mp m with rfl | m
    · exact e2.dj j k (Ne.symm hk) a m0 m2
    · rcases List.mem_append.mp m with m | m
      · exact e2.dj j k (Ne.symm hk) a (mA a m) m2
      · obtain ⟨o, eo⟩ := e.dom k a m2
        rw [(f.no a m).2.2] at eo
        cases eo
end
section
variable {X : Cx} {xr : XR} {W0 : Wd} {H0 : Hp} {E : L2.St → XW}
/-- x.append(a), x a slot's own list -/
theorem ps_append (hO : ∀ a, W0.O a → H0 a = none) {N : List Str} {b : Str} {a : Expr} {pb apos cpos pos : Pos} {i : Nat} {ev : Expr → Ev → Sto → R RV} (hN : X.N = N) (hi : ix N b = some i) (hv : Vis X.env.scope b) (hd : (b == ("__debug__" : Str)) = false) (hcd : (b == ("__classdict__" : Str)) = false)
    (M : MCall X (.Name b pb) a [] apos cpos) (ha : PE X a (tEv X.K X.w xr E (ev a))) (hu : unstar a = true) :
    PS X (.Expr (.Call (.Attribute (.Name b pb) "append" apos) [a] [] cpos) pos) (fun D σ H => ∃ Wb Hb W env st vs, Pt X.K X.w W0 H0 Wb Hb W H env st σ ∧ env[i]? = some (some (.own vs)) ∧ GoodS X.K X.w xr W0 H0 Wb Hb E ((ev a env st).bind fun v st => match elem v with
        | some w => if okV w && decide (vs.length < lim) then .ok (.nxt (env.set i (some (.own (vs ++ [w]))))) st else .err
        | none => .err) D) := by
  have pv := pe_var (X := X) (pos := pb) (i := i) (by rw [hN]; exact ix_at hi) hv hd hcd
  have pm := pe_bmQ PySem.F.plainAttrs_list PySem.F.slot_list_append PySem.F.type_list_append (mt_append (X := X)) pv (pa_cons ha pa_nil (star_cons hu)) (attrBase M.base) M.few M.line (star_cons hu) M.plain
  refine PS.imp (ps_expr pm) fun D σ H ⟨Wb, Hb, W, env, st, vs, p, hx, h⟩ => ?_
  obtain ⟨A, a0, us, A', e, h1, h2, h3, h4, ok⟩ := own_at p hx
  refine ⟨.ref a0, h1, ty_lst h2, W, env, st, p.fr, GoodS.then h p.up fun y st2 W2 H2 v B g u s r f => ?_⟩
  cases ee : elem y with
  | none => rw [ee] at g; exact g.elim
  | some z =>
    rw [ee] at g
    have g' : GoodS X.K X.w xr W0 H0 Wb Hb E (if okV z && decide (vs.length < lim) then .ok (.nxt (env.set i (some (.own (vs ++ [z]))))) st2 else .err) D := g
    split at g'
    · rename_i hc
      rw [Bool.and_eq_true, decide_eq_true_eq] at hc
      have n2 := (e.no i a0 (by rw [h4]; exact List.mem_cons_self)).2.1
      refine ⟨a0, us, v, rfl, rfl, u.ext a0 _ h2 n2, by rw [← h3.length, ← lim_eq]; exact hc.2, ?_⟩
      have rw1 : RVs X.K X.w W2 H2 [z] [v] B := by
        have := RVs.cons (B := []) (elem_ok r ee) RVs.nil
        rwa [List.append_nil] at this
      exact g' W2 _ σ (own_more hO p e h1 h2 h3 h4 ok u s rw1 (by rw [okVs, hc.1]; rfl) f)
    · exact g'.elim
/-- x.extend(a), x a slot's own list -/
theorem ps_extend (hO : ∀ a, W0.O a → H0 a = none) {N : List Str} {b : Str} {a : Expr} {pb apos cpos pos : Pos} {i : Nat} {ev : Expr → Ev → Sto → R RV} (hN : X.N = N) (hi : ix N b = some i) (hv : Vis X.env.scope b) (hd : (b == ("__debug__" : Str)) = false) (hcd : (b == ("__classdict__" : Str)) = false)
    (M : MCall X (.Name b pb) a [] apos cpos) (ha : PE X a (tEv X.K X.w xr E (ev a))) (hu : unstar a = true) :
    PS X (.Expr (.Call (.Attribute (.Name b pb) "extend" apos) [a] [] cpos) pos) (fun D σ H => ∃ Wb Hb W env st vs, Pt X.K X.w W0 H0 Wb Hb W H env st σ ∧ env[i]? = some (some (.own vs)) ∧ GoodS X.K X.w xr W0 H0 Wb Hb E ((ev a env st).bind fun v st => match v with
        | .own ws => if okVs ws && decide (vs.length + ws.length ≤ lim) then .ok (.nxt (env.set i (some (.own (vs ++ ws))))) st else .err
        | .dat (.list xs) => if vs.length + xs.length ≤ lim then .ok (.nxt (env.set i (some (.own (vs ++ xs.map .dat))))) st else .err
        | _ => .err) D) := by
  have pv := pe_var (X := X) (pos := pb) (i := i) (by rw [hN]; exact ix_at hi) hv hd hcd
  have pm := pe_bmQ PySem.F.plainAttrs_list PySem.F.slot_list_extend PySem.F.type_list_extend (mt_extend (X := X)) pv (pa_cons ha pa_nil (star_cons hu)) (attrBase M.base) M.few M.line (star_cons hu) M.plain
  refine PS.imp (ps_expr pm) fun D σ H ⟨Wb, Hb, W, env, st, vs, p, hx, h⟩ => ?_
  obtain ⟨A, a0, us, A', e, h1, h2, h3, h4, ok⟩ := own_at p hx
  have n2 := (e.no i a0 (by rw [h4]; exact List.mem_cons_self)).2.1
  refine ⟨.ref a0, h1, ty_lst h2, W, env, st, p.fr, GoodS.then h p.up fun y st2 W2 H2 v B g u s r f => ?_⟩
  cases r with
  | @own b0 ws zs B' hl hs =>
    have g' : GoodS X.K X.w xr W0 H0 Wb Hb E (if okVs ws && decide (vs.length + ws.length ≤ lim) then .ok (.nxt (env.set i (some (.own (vs ++ ws))))) st2 else .err) D := g
    split at g'
    · rename_i hc
      rw [Bool.and_eq_true, decide_eq_true_eq] at hc
      have f' : Fresh W2 H B' := ⟨(List.nodup_cons.mp f.nd).2, fun a m => f.no a (List.mem_cons_of_mem _ m), fun a m => f.np a (List.mem_cons_of_mem _ m)⟩
      refine ⟨a0, b0, us, zs, rfl, rfl, u.ext a0 _ h2 n2, hl, by rw [← h3.length, ← hs.length, ← lim_eq]; exact hc.2, ?_⟩
      exact g' W2 _ σ (own_more hO p e h1 h2 h3 h4 ok u s hs hc.1 f')
    · exact g'.elim
  | @dat d _ hd' =>
    cases hd' with
    | @lst b0 ds zs fF hl hs =>
      have g' : GoodS X.K X.w xr W0 H0 Wb Hb E (if vs.length + ds.length ≤ lim then .ok (.nxt (env.set i (some (.own (vs ++ ds.map .dat))))) st2 else .err) D := g
      split at g'
      · rename_i hc
        refine ⟨a0, b0, us, zs, rfl, rfl, u.ext a0 _ h2 n2, hl, by rw [← h3.length, ← hs.length, ← lim_eq]; exact hc, ?_⟩
        exact g' W2 _ σ (own_more hO p e h1 h2 h3 h4 ok u s hs.toRVs (okVs_dat ds) Fresh.nil)
      · exact g'.elim
    | _ => exact g.elim
  | _ => exact g.elim
end
end Z

set_option linter.all false
set_option maxRecDepth 100000
set_option maxHeartbeats 1000000
/-! Z35: for. -/
namespace Z
open PySem PySem.Spec PyProof.Rows L2
section
variable {N : List Str} {env env' : Ev}
theorem okE_asgNs : ∀ {es : List Expr} {xs : List RV} {env : Ev}, asgNs N es xs env = some env' → okE env → okTs xs = true → okE env'
  | [], [], _, e, h, _ => by cases e; exact h
  | .Name x p :: es, y :: xs, env, e, h, k => by
    rw [okTs, Bool.and_eq_true] at k
    have e' : (asgN N x y env).bind (asgNs N es xs) = some env' := e
    obtain ⟨e1, h1, h2⟩ := Option.bind_eq_some_iff.mp e'
    unfold asgN at h1
    obtain ⟨i, hi, rfl⟩ := Option.map_eq_some_iff.mp h1
    exact okE_asgNs h2 (okE_set h (by unfold okS; rw [k.1]; rfl)) k.2
  | [], _ :: _, _, e, _, _ => by cases e
  | .Name _ _ :: _, [], _, e, _, _ => by cases e
theorem okTs_dat : ∀ ds : List PyData, okTs (ds.map .dat) = true
  | [] => rfl
  | d :: ds => by rw [List.map_cons, okTs, okTs_dat ds]; rfl
theorem okE_asgT {t : Expr} {x : RV} (e : asgT N t x env = some env') (h : okE env) (k : okT x = true) : okE env' := by
  cases t with
  | Name y p =>
    have h1 : asgN N y x env = some env' := e
    unfold asgN at h1
    obtain ⟨i, hi, rfl⟩ := Option.map_eq_some_iff.mp h1
    exact okE_set h (by unfold okS; rw [k]; rfl)
  | Tuple es kk p =>
    cases x with
    | dat d =>
      cases d with
      | tuple ds => exact okE_asgNs (show asgNs N es (ds.map .dat) env = some env' from e) h (okTs_dat ds)
      | _ => cases e
    | tpl vs => exact okE_asgNs (show asgNs N es vs env = some env' from e) h (by simpa [okT] using k)
    | _ => cases e
  | _ => cases e
theorem okTs_get : ∀ {xs : List RV} {i : Nat} {y : RV}, okTs xs = true → xs[i]? = some y → okT y = true
  | [], _, _, _, e => by simp at e
  | x :: xs, 0, y, h, e => by
    rw [okTs, Bool.and_eq_true] at h
    simp at e
    subst e
    exact h.1
  | x :: xs, i + 1, y, h, e => by
    rw [okTs, Bool.and_eq_true] at h
    exact okTs_get h.2 (by simpa using e)
end
section
variable {X : Cx} {xr : XR} {W0 : Wd} {H0 : Hp} {E : L2.St → XW}
theorem ps_for' {N : List Str} {tg iter : Expr} {body : List Stmt} {pos : Pos} {ev : Expr → Ev → Sto → R RV} {ex : Stmt → Ev → Sto → R Fl} (hp : PassesOwn (model X.prog X.w) X.A X.env X.xe) (hc : X.calm = true) (hi : PI X tg iter (tI X.K X.w xr true E (evI ev true iter))) (hg : PG X tg (gOf N X.K tg)) (hb : PSs X body (tS X.K X.w xr W0 H0 E (execL ex body))) (hs : ∀ x, foldedSetIterable iter X.env x = pure x) :
    PS X (.For tg iter body [] pos) (tS X.K X.w xr W0 H0 E fun env st => (evI ev true iter env st).bind fun xs st => if okTs xs then forF N tg (execL ex body) xs env st else .err) := by
  refine PS.imp (ps_for hp hc hi hg hb hs) fun D σ H ⟨Wb, Hb, W, env, st, p, h⟩ => ⟨W, env, st, p.fr, ?_⟩
  have h' : GoodS X.K X.w xr W0 H0 Wb Hb E ((evI ev true iter env st).bind fun xs st => if okTs xs then forF N tg (execL ex body) xs env st else .err) D := h
  cases er : evI ev true iter env st with
  | err => rw [er] at h'; exact h'
  | exc c xs st' =>
    rw [er] at h'
    exact fun W' H' cls d u s q => h' W' H' cls d σ (p.up.trans u) s q
  | ok xs st1 =>
    rw [er] at h'
    intro W1 H1 J u1 s1 ⟨T, wk⟩
    have h2 : GoodS X.K X.w xr W0 H0 Wb Hb E (if okTs xs then forF N tg (execL ex body) xs env st1 else .err) D := h'
    split at h2
    · rename_i hok
      have p1 := p.then u1 s1
      have h3 := h2.back p1.ks
      let Wm : Nat → Nat → L2.St → Hp → Prop := fun i m σ H => m = xs.length - i ∧ i ≤ xs.length ∧ ∃ W env st, Pt X.K X.w W0 H0 W1 H1 W H env st σ ∧ GoodS X.K X.w xr W0 H0 W1 H1 E (forF N tg (execL ex body) (xs.drop i) env st) D
      refine ⟨Wm, ⟨xs.length, rfl, Nat.zero_le _, W1, env, st1, p1.here, h3⟩, ?_⟩
      rintro i m σ' H' ⟨rfl, hle, W', env', st', p', g⟩
      have tT : T H' := wk.kp rfl W' H' p'.ks.k
      by_cases hlt : i < xs.length
      · refine .inr ⟨wk.go i H' tT hlt, fun σ2 H2 => Wm (i + 1) (xs.length - (i + 1)) σ2 H2, fun σ2 H2 q => ⟨_, by omega, q⟩, fun x H'' hy => ?_⟩
        have hdrop : xs.drop i = xs[i] :: xs.drop (i + 1) := List.drop_eq_getElem_cons hlt
        rw [hdrop] at g
        have g' : GoodS X.K X.w xr W0 H0 W1 H1 E ((ofO (asgT N tg xs[i] env') st').bind fun env st => (execL ex body env st).bind fun f st => match f with
          | .nxt env => forF N tg (execL ex body) (xs.drop (i + 1)) env st
          | .cnt env => forF N tg (execL ex body) (xs.drop (i + 1)) env st
          | .brk env => .ok (.nxt env) st
          | .ret v => .ok (.ret v) st) D := g
        have hok1 := okTs_get hok (List.getElem?_eq_getElem hlt)
        cases ea : asgT N tg xs[i] env' with
        | none => rw [ea] at g'; exact g'.elim
        | some env2 =>
          rw [ea] at g'
          have item : ∃ W2, Pt X.K X.w W0 H0 W1 H1 W2 H'' env' st' σ' ∧ RVr X.K X.w W2 H'' xs[i] x [] := by
            rcases wk.yld i H' x H'' xs[i] tT (List.getElem?_eq_getElem hlt) hy with ⟨rfl, r⟩ | ⟨q, ps, us, hq, rfl, rfl, ey, rp⟩
            · exact ⟨W', p', r.okT p'.ks hok1⟩
            · have p2 := p'.then (Up.refl.new (o := .tup us) hq) (p'.fr.sr.new hq)
              refine ⟨W', p2, ?_⟩
              rw [ey]
              exact .dat (.tup (SqT.of upd_same) (rp.keep p2.ks.k))
          obtain ⟨W2, p2, rx⟩ := item
          obtain ⟨A2, e2⟩ := p2.fr.env
          refine asgT_ok ea e2 rx fun σ3 ⟨he3, hl3, _⟩ => ?_
          refine ⟨W1, H1, W2, env2, st', ⟨⟨p2.fr.sr, he3⟩, p2.up, p2.ks, okE_asgT ea p2.ok hok1⟩, ?_⟩
          have g2 : GoodS X.K X.w xr W0 H0 W1 H1 E ((execL ex body env2 st').bind fun f st => match f with
            | .nxt env => forF N tg (execL ex body) (xs.drop (i + 1)) env st
            | .cnt env => forF N tg (execL ex body) (xs.drop (i + 1)) env st
            | .brk env => .ok (.nxt env) st
            | .ret v => .ok (.ret v) st) D := g'
          cases eb : execL ex body env2 st' with
          | err => rw [eb] at g2; exact g2
          | exc c ys st3 => rw [eb] at g2; exact g2
          | ok f st3 =>
            rw [eb] at g2
            cases f with
            | nxt env3 => exact fun W3 H3 σ4 p4 => ⟨rfl, hlt, W3, env3, st3, p4, g2⟩
            | cnt env3 => exact fun W3 H3 σ4 p4 => ⟨rfl, hlt, W3, env3, st3, p4, g2⟩
            | brk env3 => exact g2
            | ret v => exact g2
      · have e : i = xs.length := by omega
        subst e
        rw [List.drop_length] at g
        exact .inl ⟨wk.stop _ H' tT (Nat.le_refl _), g W' H' σ' p'⟩
    · exact h2.elim
end
end Z

set_option linter.all false
set_option maxRecDepth 100000
set_option maxHeartbeats 1000000
/-! Z36: while; for over a slot's own list; moves. -/
namespace Z
open PySem PySem.Spec PyProof.Rows L2
section
variable {X : Cx} {xr : XR} {W0 : Wd} {H0 : Hp} {E : L2.St → XW}
theorem ps_while' {c : Expr} {body : List Stmt} {pos : Pos} {n : Nat} {ev : Expr → Ev → Sto → R RV} {ex : Stmt → Ev → Sto → R Fl} (hp : PassesOwn (model X.prog X.w) X.A X.env X.xe) (hc : PT X c (tT X.K X.w xr E (evT ev c))) (hb : PSs X body (tS X.K X.w xr W0 H0 E (execL ex body))) :
    PS X (.While c body [] pos) (tS X.K X.w xr W0 H0 E (whileF (evT ev c) (execL ex body) n)) := by
  refine PS.imp (ps_while hp hc hb) fun D σ H ⟨Wb, Hb, W, env, st, p, h⟩ => ?_
  let Wm : Nat → L2.St → Hp → Prop := fun m σ H => ∃ W env st, Pt X.K X.w W0 H0 Wb Hb W H env st σ ∧ GoodS X.K X.w xr W0 H0 Wb Hb E (whileF (evT ev c) (execL ex body) m env st) D
  refine ⟨Wm, ⟨n, W, env, st, p, h⟩, ?_⟩
  rintro m σ H ⟨W, env, st, p, h⟩
  cases m with
  | zero => exact h.elim
  | succ m =>
    have h' : GoodS X.K X.w xr W0 H0 Wb Hb E ((evT ev c env st).bind fun b st => if b then (execL ex body env st).bind fun f st => match f with
      | .nxt env => whileF (evT ev c) (execL ex body) m env st
      | .cnt env => whileF (evT ev c) (execL ex body) m env st
      | .brk env => .ok (.nxt env) st
      | .ret v => .ok (.ret v) st
    else .ok (.nxt env) st) D := h
    refine ⟨W, env, st, p.fr, GoodS.thenB h' p.up fun b st2 W2 H2 g u s => ?_⟩
    cases b with
    | false => exact g W2 H2 σ (p.then u s)
    | true =>
      rw [if_pos rfl] at g ⊢
      refine ⟨Wm m, fun σ' H' q => ⟨m, Nat.lt_succ_self m, q⟩, Wb, Hb, W2, env, st2, p.then u s, ?_⟩
      cases eb : execL ex body env st2 with
      | err => rw [eb] at g; exact g
      | exc c ys st3 => rw [eb] at g; exact g
      | ok f st3 =>
        rw [eb] at g
        cases f with
        | nxt env3 => exact fun W3 H3 σ4 p4 => ⟨W3, env3, st3, p4, g⟩
        | cnt env3 => exact fun W3 H3 σ4 p4 => ⟨W3, env3, st3, p4, g⟩
        | brk env3 => exact g
        | ret v => exact g
/-- x = y, y a slot's own list -/
theorem ps_move {N : List Str} {x y : Str} {px py pos : Pos} {i : Nat} {j : Nat} (hN : X.N = N) (hj : ix N y = some j) (hv : Vis X.env.scope y) (hd : (y == ("__debug__" : Str)) = false) (hcd : (y == ("__classdict__" : Str)) = false) (hR : ∀ te, PE X (.Name y py) te → PS X (.Assign [.Name x px] (.Name y py) pos) (tAsg te (gName i))) :
    PS X (.Assign [.Name x px] (.Name y py) pos) (fun D σ H => ∃ Wb Hb W env st vs, Pt X.K X.w W0 H0 Wb Hb W H env st σ ∧ i < env.length ∧ env[j]? = some (some (.own vs)) ∧ GoodS X.K X.w xr W0 H0 Wb Hb E (.ok (.nxt ((env.set j none).set i (some (.own vs)))) st) D) := by
  have pv := pe_var (X := X) (pos := py) (i := j) (by rw [hN]; exact ix_at hj) hv hd hcd
  refine PS.imp (hR _ pv) fun D σ H ⟨Wb, Hb, W, env, st, vs, p, hi, hx, h⟩ => ?_
  obtain ⟨A, a0, us, A', e, h1, h2, h3, h4, ok⟩ := own_at p hx
  refine ⟨.ref a0, h1, h W H _ ⟨⟨p.fr.sr, ?_⟩, p.up, p.ks, okE_set (okE_drop p.ok) (by simp [okS, okV, ok])⟩⟩
  have r : RVr X.K X.w W H (.own vs) (.ref a0) (A j) := by
    rw [h4]
    exact .own h2 h3
  exact ⟨_, (e.drop j).put (by rw [List.length_set]; exact hi) r (e.nd j) (e.no j) (e.np j) fun k hk a m m2 => by
    unfold putA at m2
    split at m2
    · cases m2
    · rename_i hkj
      exact e.dj k j hkj a m2 m⟩
/-- return x, x a slot's own list, own dict -/
theorem ps_rtOwn (hO : ∀ a, W0.O a → H0 a = none) {N : List Str} {y : Str} {py pos : Pos} {j : Nat} (hN : X.N = N) (hj : ix N y = some j) (hv : Vis X.env.scope y) (hd : (y == ("__debug__" : Str)) = false) (hcd : (y == ("__classdict__" : Str)) = false) :
    PS X (.Return (some (.Name y py)) pos) (fun D σ H => ∃ Wb Hb W env st x, Pt X.K X.w W0 H0 Wb Hb W H env st σ ∧ env[j]? = some (some x) ∧ GoodS X.K X.w xr W0 H0 Wb Hb E (.ok (.ret x) st) D) := by
  have pv := pe_var (X := X) (pos := py) (i := j) (by rw [hN]; exact ix_at hj) hv hd hcd
  refine PS.imp (ps_ret pv) fun D σ H ⟨Wb, Hb, W, env, st, x, p, hx, h⟩ => ?_
  obtain ⟨A, e⟩ := p.fr.env
  obtain ⟨v, h1, h2⟩ := e.at_ j x hx
  exact ⟨v, h1, h W H v (A j) p.up p.fr.sr h2 ⟨e.nd j, fun a m => ⟨(e.no j a m).1, (e.no j a m).2.1, hO a (by rw [← p.up.O]; exact (e.no j a m).2.2)⟩, e.np j⟩⟩
end
end Z

set_option linter.all false
set_option maxRecDepth 100000
set_option maxHeartbeats 1000000
/-! Z37: o[i] = v. -/
namespace Z
open PySem PySem.Spec PyProof.Rows L2
section
variable {X : Cx} {xr : XR}
/-- d[k] = v, d a raw dict -/
def rSetD (K : PySem.W.Frag) (w : World) : TSet := fun o i v H Q => ∃ a W kvs es A k, o = .ref a ∧ H a = some (rawO a es) ∧ KeysOk (kvs.map (·.1)) ∧ RKv K w W H kvs es A ∧ keyOk k kvs = true ∧ kvs.length < lim ∧ Rep K w (fun _ => True) H k i ∧
  ∀ es' u, RelV v u → VE K w H (putK (kusOf kvs es) k u) es' → KeysOk ((putK (kusOf kvs es) k u).map (·.1)) → Q (upd H a (rawO a es'))
theorem set_raw (hu : X.A.units + 66 < cLine) : PSet X (rSetD X.K X.w) := by
  intro pins s σ H o i v ov iv u Q I ro ri rv ⟨a, W, kvs, es, A, k, eo, h1, ko, r, hk, hl, rk, q⟩
  subst eo
  obtain rfl := ro
  have d := DAt.of_rkv h1 ko r
  have hlen : (kusOf kvs es).length < sizeLine := by
    have := congrArg List.length r.keys.1
    rw [List.length_map, List.length_map] at this
    rw [this, ← lim_eq]
    exact hl
  exact d_set' (y := u) (by omega) I d (keyOk_map hk r.keys.1) hlen rk ri fun s' es' I' ve ko' => ⟨_, I', q es' u rv ve ko'⟩
def rSetA (K : PySem.W.Frag) (w : World) : TSet := fun o i v H Q => rSetL o i v H Q ∨ rSetD K w o i v H Q
theorem set_any (hu : X.A.units + 66 < cLine) : PSet X (rSetA X.K X.w) := by
  intro pins s σ H o i v ov iv u Q I ro ri rv h
  rcases h with h | h
  · exact set_list pins s σ H o i v ov iv u Q I ro ri rv h
  · exact set_raw hu pins s σ H o i v ov iv u Q I ro ri rv h
/-- what a store into a thing of the store leaves -/
theorem cellPut_ok {K : PySem.W.Frag} {w : World} {W : Wd} {H : Hp} {st st' : Sto} {j : Nat} {a : Addr} {k d : PyData} {i v : V} {Q : Hp → Prop} (s : SR K w W H st) (hb : W.β[j]? = some a) (e : cellPut st j k d = some st') (rk : Rep K w (fun _ => True) H k i) (rd : Rep K w W.F H d v)
    (q : ∀ H', KeepR K W H W H' → SR K w W H' st' → (∀ W0 H0, Up W0 H0 W H → Up W0 H0 W H') → Q H') : rSetA K w (.ref a) i v H Q := by
  have mem : a ∈ W.β := List.mem_of_getElem? hb
  unfold cellPut at e
  split at e
  · rename_i xs ec
    have c := s.cells j _ a ec hb
    cases c with
    | @lst _ vs c1 c2 c3 =>
      split at e
      · rename_i z
        obtain ⟨n, en, rfl⟩ := Option.map_eq_some_iff.mp e
        cases rk
        refine .inl ⟨a, vs, z, n, rfl, rfl, c1, by rw [← place_ixN, ← c2.length]; exact en, ?_⟩
        have kp := setc_keep s mem (.lst (vs.set n v))
        refine q _ kp (setc_sr s hb (.lst upd_same ((c2.keep kp fun _ m => by cases m).setD n rfl (.dat (rd.keep kp.k))) fun y m => ?_)) fun W0 H0 u => setc_up u mem _
        rcases List.mem_or_eq_of_mem_set m with m | rfl
        · exact c3 y m
        · trivial
      · cases e
  · rename_i kvs ec
    have c := s.cells j _ a ec hb
    cases c with
    | @dct _ es c1 ko c2 c3 =>
      split at e
      · rename_i hk
        cases e
        obtain ⟨g, _⟩ := keyOk_all hk.1
        obtain ⟨ke, ek, _⟩ := keyG_key g
        refine .inr ⟨a, W, kvs, es, [], k, rfl, c1, ko, c2, hk.1, hk.2, rk, fun es' u ru ve ko' => ?_⟩
        have kp := setc_keep s mem (rawO a es')
        obtain ⟨A', r', sub⟩ := c2.put ek (.dat rd) ru ve
        have eA : A' = [] := List.sublist_nil.mp sub
        subst eA
        have kk : (putK kvs k (RV.dat d)).map (·.1) = (putK (kusOf kvs es) k u).map (·.1) := by
          rw [putK_keys, putK_keys, c2.keys.1]
          congr 1
          have z : ∀ {β : Type} (l : List (PyData × β)), (l.any fun p => sameKey p.1 k) = (l.map (·.1)).any fun q => sameKey q k := fun l => by rw [List.any_map]; rfl
          rw [z, z, c2.keys.1]
        refine q _ kp (setc_sr s hb (.dct upd_same (by rw [kk]; exact ko') (r'.keep kp fun _ m => by cases m) fun p m => ?_)) fun W0 H0 u => setc_up u mem _
        unfold putK at m
        split at m
        · obtain ⟨p0, m0, rfl⟩ := List.mem_map.mp m
          split
          · trivial
          · exact c3 p0 m0
        · rcases List.mem_append.mp m with m | m
          · exact c3 p m
          · obtain rfl : p = (k, RV.dat d) := by simpa using m
            trivial
      · cases e
  · cases e
end
end Z

set_option linter.all false
set_option maxRecDepth 100000
set_option maxHeartbeats 1000000
/-! Z38: o[i] = v, as statements. -/
namespace Z
open PySem PySem.Spec PyProof.Rows L2
section
variable {X : Cx} {xr : XR} {W0 : Wd} {H0 : Hp} {E : L2.St → XW}
theorem GoodS.ofO {α : Type} {K : PySem.W.Frag} {w : World} {Wb : Wd} {Hb : Hp} {st : Sto} {D : Ends} {o : Option α} {f : α → Sto → R Fl} (h : GoodS K w xr W0 H0 Wb Hb E ((Z.ofO o st).bind f) D) : ∃ a, o = some a ∧ GoodS K w xr W0 H0 Wb Hb E (f a st) D := by
  cases o with
  | none => exact h.elim
  | some a => exact ⟨a, rfl, h⟩
/-- a value, handed on as data -/
theorem frz_dat {K : PySem.W.Frag} {w : World} {W W2 : Wd} {H H2 : Hp} {st2 : Sto} {x : RV} {v : V} {B : List Addr} {d : PyData} (u : Up W H W2 H2) (s : SR K w W2 H2 st2) (r : RVr K w W2 H2 x v B) (f : Fresh W2 H B) (e : Z.frz x = some (.dat d)) : ∃ W3, Up W H W3 H2 ∧ SR K w W3 H2 st2 ∧ Rep K w W3.F H2 d v := by
  obtain ⟨u3, s3⟩ := u.fzC s f r.dom
  cases r with
  | dat h => cases e; exact ⟨W2, u, s, h⟩
  | ref h => cases e
  | scr _ => cases e
  | tpl _ _ => cases e
  | @bor d' _ h =>
    have e' : (if noL d' then some (RV.dat d') else none) = some (.dat d) := e
    split at e'
    · rename_i hn
      cases e'
      exact ⟨W2, u, s, h.keepN (fun _ _ q => q) hn⟩
    · cases e'
  | @own a xs vs A' h hs =>
    obtain ⟨ds, e1, e2⟩ := Option.map_eq_some_iff.mp (show (deeps xs).map (fun ds => RV.dat (.list ds)) = some (.dat d) from e)
    cases e2
    exact ⟨_, u3, s3, (RVr.own h hs).deep (d := .list ds) (by rw [Z.deep, e1]; rfl) fun a m => m⟩
  | @odi a kvs es A' h ko hs =>
    obtain ⟨ds, e1, e2⟩ := Option.map_eq_some_iff.mp (show (deepKv kvs).map (fun ds => RV.dat (.dict ds)) = some (.dat d) from e)
    cases e2
    exact ⟨_, u3, s3, (RVr.odi h ko hs).deep (d := .dict ds) (by rw [Z.deep, e1]; rfl) fun a m => m⟩
def putC (env : Ev) (d : PyData) (bv : RV) (k : PyData) (st : Sto) : R Fl := match bv with
  | .ref j => (ofO (cellPut st j k d) st).bind fun st' _ => .ok (.nxt env) st'
  | _ => .err
theorem asg_sub {b i : Expr} {ps : Pos} {env : Env} (h : isSlice i = false) : ∀ v, assign (.Subscript b i ps) env v = (do
      let ov ← holding [v] (eval b env)
      let iv ← holding [v, ov] (eval i env)
      standAt ps
      holding [v, ov, iv] (setItem ov iv v)
      release [v, ov, iv] []) := by
  intro v
  cases i <;> first | rfl | (simp [isSlice] at h)
/-- a cell's item -/
theorem ps_putC {b i e : Expr} {ps pos : Pos} {ev : Expr → Ev → Sto → R RV} (hsl : isSlice i = false) (hu : X.A.units + 66 < cLine) (hb : PE X b (tEv X.K X.w xr E (ev b))) (hi : PE X i (tEv X.K X.w xr E (ev i))) (he : PE X e (tEv X.K X.w xr E (ev e))) (hs : swapsWithSole [.Subscript b i ps] e pos.line X.env = pure false) (hw : swappedStores [.Subscript b i ps] e X.env = pure none) :
    PS X (.Assign [.Subscript b i ps] e pos) (tS X.K X.w xr W0 H0 E fun env st => (evF ev e env st).bind fun v st => match v with
      | .dat d => (ev b env st).bind fun bv st => (evV ev i env st).bind fun k st => match bv with
        | .ref j => (ofO (cellPut st j k d) st).bind fun st' _ => .ok (.nxt env) st'
        | _ => .err
      | _ => .err) := by
  refine PS.imp (ps_asg he (pg_sub hb hi (set_any hu) (asg_sub hsl)) hs hw) fun D σ H ⟨Wb, Hb, W, env, st, p, h⟩ => ⟨W, env, st, p.fr, ?_⟩
  have h' : GoodS X.K X.w xr W0 H0 Wb Hb E (((ev e env st).bind fun v st => ofO (frz v) st).bind fun v st => match v with
      | .dat d => (ev b env st).bind fun bv st => (evV ev i env st).bind fun k st => match bv with
        | .ref j => (ofO (cellPut st j k d) st).bind fun st' _ => .ok (.nxt env) st'
        | _ => .err
      | _ => .err) D := h
  rw [R.bind_assoc] at h'
  refine GoodS.then h' p.up fun y st1 W1 H1 v A g u1 s1 r1 f1 => ?_
  obtain ⟨z, ez, g⟩ := g.ofO
  cases z with
  | dat d =>
    obtain ⟨W2, u2, s2, rd⟩ := frz_dat u1 s1 r1 f1 ez
    have p2 := p.then u2 s2
    have g2 : GoodS X.K X.w xr W0 H0 Wb Hb E ((ev b env st1).bind fun bv st => (evV ev i env st).bind fun k st => putC env d bv k st) D := g
    refine ⟨W2, env, st1, p2.fr, GoodS.then g2 p2.up fun bv st3 W3 H3 bo B g3 u3 s3 r3 f3 => ?_⟩
    have p3 := p2.then u3 s3
    have rd3 := rd.keep (u3.keep s2)
    have g4 : GoodS X.K X.w xr W0 H0 Wb Hb E (((ev i env st3).bind fun v st => ofO (vw st v) st).bind fun k st => putC env d bv k st) D := g3
    rw [R.bind_assoc] at g4
    refine ⟨W3, env, st3, p3.fr, GoodS.then g4 p3.up fun iv st4 W4 H4 io C g5 u4 s4 r4 f4 => ?_⟩
    have p4 := p3.then u4 s4
    have rd4 := rd3.keep (u4.keep s3)
    obtain ⟨k, ek, g5⟩ := g5.ofO
    have rk := vw_rep s4 r4 ek
    cases r3 with
    | @ref j a hb' =>
      have hb4 : W4.β[j]? = some a := pre_mem u4.β hb'
      obtain ⟨st', ep, g6⟩ := (show GoodS X.K X.w xr W0 H0 Wb Hb E ((Z.ofO (cellPut st4 j k d) st4).bind fun st' _ => .ok (.nxt env) st') D from g5).ofO
      exact cellPut_ok s4 hb4 ep rk rd4 fun H' kp sr up => g6 W4 H' σ ⟨⟨sr, by
        obtain ⟨A4, e4⟩ := p4.fr.env
        have mem : a ∈ W4.β := List.mem_of_getElem? hb4
        exact ⟨A4, (e4.up (up W4 H4 Up.refl) s4)⟩⟩, up _ _ p4.up, p4.ks.trans kp.ks, p4.ok⟩
    | _ => exact g5.elim
  | _ => exact g.elim
end
end Z

set_option linter.all false
set_option maxRecDepth 100000
set_option maxHeartbeats 1000000
/-! Z39: o[i] = v, o a slot's own list, own dict. -/
namespace Z
open PySem PySem.Spec PyProof.Rows L2
section
variable {K : PySem.W.Frag} {w : World} {W W0 Wb W2 : Wd} {H H0 Hb H2 : Hp} {env : Ev} {st st2 : Sto} {σ : L2.St}
theorem RVs.setA {x : RV} {v : V} (rx : RVr K w W H x v []) : ∀ {xs : List RV} {vs : List V} {A : List Addr} (i : Nat), RVs K w W H xs vs A → ∃ A', RVs K w W H (xs.set i x) (vs.set i v) A' ∧ A'.Sublist A
  | _, _, _, _, .nil => ⟨[], .nil, List.Sublist.refl _⟩
  | _, _, _, 0, .cons _ t => ⟨_, .cons (A := []) rx t, List.sublist_append_right _ _⟩
  | _, _, _, i + 1, .cons r t => by
    obtain ⟨A', h1, h2⟩ := RVs.setA rx i t
    exact ⟨_, .cons r h1, List.Sublist.append (List.Sublist.refl _) h2⟩
theorem okVs_set : ∀ {xs : List RV} {i : Nat} {x : RV}, okVs xs = true → okV x = true → okVs (xs.set i x) = true
  | [], _, _, _, _ => rfl
  | y :: xs, 0, x, h, k => by
    rw [okVs, Bool.and_eq_true] at h
    rw [List.set_cons_zero, okVs, k, h.2]
    rfl
  | y :: xs, i + 1, x, h, k => by
    rw [okVs, Bool.and_eq_true] at h
    rw [List.set_cons_succ, okVs, h.1, okVs_set h.2 k]
    rfl
/-- an own list's item is put -/
theorem own_set (hO : ∀ a, W0.O a → H0 a = none) (p : Pt K w W0 H0 Wb Hb W H env st σ) {j : Nat} {vs : List RV} (hx : env[j]? = some (some (.own vs))) {d : PyData} {v : V} (rd : Rep K w W.F H d v) {q : Nat} {a0 : Addr} {us : List V} (hσ : σ[j]? = some (some (.ref a0))) (hl : H a0 = some (.lst us)) :
    Pt K w W0 H0 Wb Hb W (upd H a0 (.lst (us.set q v))) (env.set j (some (.own (vs.set q (.dat d))))) st σ := by
  obtain ⟨A, a1, us1, A', e, h1, h2, h3, h4, ok⟩ := own_at p hx
  rw [hσ] at h1
  cases h1
  rw [hl] at h2
  cases h2
  have m0 : a0 ∈ A j := by rw [h4]; exact List.mem_cons_self
  have nt : (∀ vs, ¬ Rd H a0 (.tup vs)) ∧ ∀ o vs, H a0 ≠ some (.frz o (.lst vs)) := ⟨fun vs q => by rcases q with q | ⟨o, q⟩ <;> (rw [hl] at q; cases q), fun o vs q => by rw [hl] at q; cases q⟩
  have ks := upd_ks (K := K) (o' := .lst (us.set q v)) (e.no j a0 m0).1 nt
  have ndA := e.nd j
  rw [h4] at ndA
  have nd' := List.nodup_cons.mp ndA
  have q1 := h3.okV ks ok fun a m => upd_ne fun z => nd'.1 (z ▸ m)
  obtain ⟨B, q2, sub⟩ := RVs.setA (x := .dat d) (v := v) (.dat (rd.keep ks.k)) q q1
  have mB : ∀ a ∈ a0 :: B, a ∈ A j := fun a m => by
    rw [h4]
    rcases List.mem_cons.mp m with rfl | m
    · exact List.mem_cons_self
    · exact List.mem_cons_of_mem _ (sub.subset m)
  exact p.change hO e m0 nt hσ (.own upd_same q2) (by have := okVs_set (i := q) (x := .dat d) ok rfl; simp [okS, okV, this]) (List.nodup_cons.mpr ⟨fun m => nd'.1 (sub.subset m), sub.nodup nd'.2⟩) (fun a m => e.no j a (mB a m)) (fun a m => e.np j a (mB a m)) fun k hk a m m2 => e.dj j k (Ne.symm hk) a (mB a m) m2
end
section
variable {X : Cx} {xr : XR} {W0 : Wd} {H0 : Hp} {E : L2.St → XW}
theorem ps_putL (hO : ∀ a, W0.O a → H0 a = none) {N : List Str} {b : Str} {i e : Expr} {pb ps pos : Pos} {j : Nat} {ev : Expr → Ev → Sto → R RV} (hN : X.N = N) (hj : ix N b = some j) (hv : Vis X.env.scope b) (hd : (b == ("__debug__" : Str)) = false) (hcd : (b == ("__classdict__" : Str)) = false) (hsl : isSlice i = false) (hu : X.A.units + 66 < cLine)
    (hi : PE X i (tEv X.K X.w xr E (ev i))) (he : PE X e (tEv X.K X.w xr E (ev e))) (hs : swapsWithSole [.Subscript (.Name b pb) i ps] e pos.line X.env = pure false) (hw : swappedStores [.Subscript (.Name b pb) i ps] e X.env = pure none) :
    PS X (.Assign [.Subscript (.Name b pb) i ps] e pos) (fun D σ H => ∃ Wb Hb W env st vs, Pt X.K X.w W0 H0 Wb Hb W H env st σ ∧ env[j]? = some (some (.own vs)) ∧ GoodS X.K X.w xr W0 H0 Wb Hb E ((evF ev e env st).bind fun v st => match v with
      | .dat d => (evV ev i env st).bind fun k st => match k with
        | .int z => match place vs.length z with
          | some q => .ok (.nxt (env.set j (some (.own (vs.set q (.dat d)))))) st
          | none => .err
        | _ => .err
      | _ => .err) D) := by
  have pv := pe_var (X := X) (pos := pb) (i := j) (by rw [hN]; exact ix_at hj) hv hd hcd
  refine PS.imp (ps_asg he (pg_sub pv hi (set_any hu) (asg_sub hsl)) hs hw) fun D σ H ⟨Wb, Hb, W, env, st, vs, p, hx, h⟩ => ⟨W, env, st, p.fr, ?_⟩
  let kf : PyData → PyData → Sto → R Fl := fun d k st => match k with
        | .int z => match place vs.length z with
          | some q => .ok (.nxt (env.set j (some (.own (vs.set q (.dat d)))))) st
          | none => .err
        | _ => .err
  have h' : GoodS X.K X.w xr W0 H0 Wb Hb E (((ev e env st).bind fun v st => ofO (frz v) st).bind fun v st => match v with
      | .dat d => (evV ev i env st).bind (kf d)
      | _ => .err) D := h
  rw [R.bind_assoc] at h'
  refine GoodS.then h' p.up fun y st1 W1 H1 v A g u1 s1 r1 f1 => ?_
  obtain ⟨z, ez, g⟩ := g.ofO
  cases z with
  | dat d =>
    obtain ⟨W2, u2, s2, rd⟩ := frz_dat u1 s1 r1 f1 ez
    have p2 := p.then u2 s2
    obtain ⟨A2, a0, us, A', e2, g1, g2, g3, g4, ok⟩ := own_at p2 hx
    have n2 := (e2.no j a0 (by rw [g4]; exact List.mem_cons_self)).2.1
    have g5 : GoodS X.K X.w xr W0 H0 Wb Hb E (((ev i env st1).bind fun v st => ofO (vw st v) st).bind (kf d)) D := g
    rw [R.bind_assoc] at g5
    refine ⟨.ref a0, g1, W2, env, st1, p2.fr, GoodS.then g5 p2.up fun iv st4 W4 H4 io C g6 u4 s4 r4 f4 => ?_⟩
    have p4 := p2.then u4 s4
    obtain ⟨k, ek, g6⟩ := g6.ofO
    have rk := vw_rep s4 r4 ek
    cases rk with
    | int z =>
      have g7 : GoodS X.K X.w xr W0 H0 Wb Hb E (match place vs.length z with
          | some q => .ok (.nxt (env.set j (some (.own (vs.set q (.dat d)))))) st4
          | none => .err) D := g6
      cases eq : place vs.length z with
      | none => rw [eq] at g7; exact g7.elim
      | some q =>
        rw [eq] at g7
        have hl4 := u4.ext a0 _ g2 n2
        exact .inl ⟨a0, us, z, q, rfl, rfl, hl4, by rw [← place_ixN, ← g3.length]; exact eq, g7 W4 _ σ (own_set hO p4 hx (rd.keep (u4.keep s2)) g1 hl4)⟩
    | _ => exact g6.elim
  | _ => exact g.elim
end
end Z

set_option linter.all false
set_option maxRecDepth 100000
set_option maxHeartbeats 1000000
/-! Z40: d[k] = v, d a slot's own dict. -/
namespace Z
open PySem PySem.Spec PyProof.Rows L2
section
variable {K : PySem.W.Frag} {w : World} {W W0 Wb W2 : Wd} {H H0 Hb H2 : Hp} {env : Ev} {st st2 : Sto} {σ : L2.St}
theorem okKv_all : ∀ {kvs : List (PyData × RV)}, okKv kvs = true ↔ ∀ p ∈ kvs, okV p.2 = true
  | [] => by simp [okKv]
  | (k, v) :: r => by
    rw [okKv, Bool.and_eq_true, okKv_all (kvs := r)]
    simp
theorem okKv_put {kvs : List (PyData × RV)} {k : PyData} {x : RV} (h : okKv kvs = true) (hx : okV x = true) : okKv (putK kvs k x) = true := by
  rw [okKv_all] at h ⊢
  intro p m
  unfold putK at m
  split at m
  · obtain ⟨p0, m0, rfl⟩ := List.mem_map.mp m
    split
    · exact hx
    · exact h p0 m0
  · rcases List.mem_append.mp m with m | m
    · exact h p m
    · obtain rfl : p = (k, x) := by simpa using m
      exact hx
theorem ownD_at (p : Pt K w W0 H0 Wb Hb W H env st σ) {j : Nat} {kvs : List (PyData × RV)} (hx : env[j]? = some (some (.odi kvs))) : ∃ A a0 es A', EnvR K w W H env σ A ∧ σ[j]? = some (some (.ref a0)) ∧ H a0 = some (rawO a0 es) ∧ KeysOk (kvs.map (·.1)) ∧ RKv K w W H kvs es A' ∧ A j = a0 :: A' ∧ okKv kvs = true := by
  obtain ⟨A, e⟩ := p.fr.env
  obtain ⟨v, h1, h2⟩ := e.at_ j _ hx
  have ok := p.ok j _ hx
  have ok' : okKv kvs = true := by simpa [okS, okT, okV] using ok
  generalize hA : A j = B at h2
  cases h2 with
  | odi h ko hs => exact ⟨A, _, _, _, e, h1, h, ko, hs, hA, ok'⟩
theorem own_putD (hO : ∀ a, W0.O a → H0 a = none) (p : Pt K w W0 H0 Wb Hb W H env st σ) {A : Nat → List Addr} (e : EnvR K w W H env σ A) {j : Nat} {kvs : List (PyData × RV)} {a0 : Addr} {es es' : List DictEntry} {A' : List Addr} (hσ : σ[j]? = some (some (.ref a0))) (hl : H a0 = some (rawO a0 es)) (hs : RKv K w W H kvs es A') (h4 : A j = a0 :: A') (ok : okKv kvs = true)
    {k d : PyData} {ke : NestedKey} {v : V} {u : Value} (hk : keyD k = some ke) (rd : Rep K w W.F H d v) (rv : RelV v u) (ve : VE K w H (putK (kusOf kvs es) k u) es') (ko : KeysOk ((putK (kusOf kvs es) k u).map (·.1))) :
    Pt K w W0 H0 Wb Hb W (upd H a0 (rawO a0 es')) (env.set j (some (.odi (putK kvs k (.dat d))))) st σ := by
  have m0 : a0 ∈ A j := by rw [h4]; exact List.mem_cons_self
  have nt : (∀ vs, ¬ Rd H a0 (.tup vs)) ∧ ∀ o vs, H a0 ≠ some (.frz o (.lst vs)) := by
    refine ⟨fun vs q => ?_, fun o vs q => ?_⟩
    · rcases q with q | ⟨o, q⟩ <;> rw [hl] at q
      · exact raw_ne_tup (Option.some.inj q)
      · exact raw_ne_frz (Option.some.inj q)
    · rw [hl] at q
      exact raw_ne_frz (Option.some.inj q)
  have ks := upd_ks (K := K) (o' := rawO a0 es') (e.no j a0 m0).1 nt
  have ndA := e.nd j
  rw [h4] at ndA
  have nd' := List.nodup_cons.mp ndA
  obtain ⟨B, q1, sub⟩ := hs.put hk (x := .dat d) (v := v) (.dat rd) rv ve
  have q2 := q1.okV ks (okKv_put ok rfl) fun a m => upd_ne fun z => nd'.1 (z ▸ sub.subset m)
  have mB : ∀ a ∈ a0 :: B, a ∈ A j := fun a m => by
    rw [h4]
    rcases List.mem_cons.mp m with rfl | m
    · exact List.mem_cons_self
    · exact List.mem_cons_of_mem _ (sub.subset m)
  have kk : (putK kvs k (RV.dat d)).map (·.1) = (putK (kusOf kvs es) k u).map (·.1) := by
    rw [putK_keys, putK_keys, hs.keys.1]
    congr 1
    have z : ∀ {β : Type} (l : List (PyData × β)), (l.any fun p => sameKey p.1 k) = (l.map (·.1)).any fun q => sameKey q k := fun l => by rw [List.any_map]; rfl
    rw [z, z, hs.keys.1]
  have okp := okKv_put (k := k) (x := .dat d) ok rfl
  exact p.change hO e m0 nt hσ (.odi upd_same (by rw [kk]; exact ko) q2) (by simp [okS, okV, okp]) (List.nodup_cons.mpr ⟨fun m => nd'.1 (sub.subset m), sub.nodup nd'.2⟩) (fun a m => e.no j a (mB a m)) (fun a m => e.np j a (mB a m)) fun k hk a m m2 => e.dj j k (Ne.symm hk) a (mB a m) m2
end
section
variable {X : Cx} {xr : XR} {W0 : Wd} {H0 : Hp} {E : L2.St → XW}
theorem ps_putD (hO : ∀ a, W0.O a → H0 a = none) {N : List Str} {b : Str} {i e : Expr} {pb ps pos : Pos} {j : Nat} {ev : Expr → Ev → Sto → R RV} (hN : X.N = N) (hj : ix N b = some j) (hv : Vis X.env.scope b) (hd : (b == ("__debug__" : Str)) = false) (hcd : (b == ("__classdict__" : Str)) = false) (hsl : isSlice i = false) (hu : X.A.units + 66 < cLine)
    (hi : PE X i (tEv X.K X.w xr E (ev i))) (he : PE X e (tEv X.K X.w xr E (ev e))) (hs : swapsWithSole [.Subscript (.Name b pb) i ps] e pos.line X.env = pure false) (hw : swappedStores [.Subscript (.Name b pb) i ps] e X.env = pure none) :
    PS X (.Assign [.Subscript (.Name b pb) i ps] e pos) (fun D σ H => ∃ Wb Hb W env st kvs, Pt X.K X.w W0 H0 Wb Hb W H env st σ ∧ env[j]? = some (some (.odi kvs)) ∧ GoodS X.K X.w xr W0 H0 Wb Hb E ((evF ev e env st).bind fun v st => match v with
      | .dat d => (evV ev i env st).bind fun k st => if keyOk k kvs ∧ kvs.length < lim then .ok (.nxt (env.set j (some (.odi (putK kvs k (.dat d)))))) st else .err
      | _ => .err) D) := by
  have pv := pe_var (X := X) (pos := pb) (i := j) (by rw [hN]; exact ix_at hj) hv hd hcd
  refine PS.imp (ps_asg he (pg_sub pv hi (set_any hu) (asg_sub hsl)) hs hw) fun D σ H ⟨Wb, Hb, W, env, st, kvs, p, hx, h⟩ => ⟨W, env, st, p.fr, ?_⟩
  have h' : GoodS X.K X.w xr W0 H0 Wb Hb E (((ev e env st).bind fun v st => ofO (frz v) st).bind fun v st => match v with
      | .dat d => (evV ev i env st).bind fun k st => if keyOk k kvs ∧ kvs.length < lim then .ok (.nxt (env.set j (some (.odi (putK kvs k (.dat d)))))) st else .err
      | _ => .err) D := h
  rw [R.bind_assoc] at h'
  refine GoodS.then h' p.up fun y st1 W1 H1 v A g u1 s1 r1 f1 => ?_
  obtain ⟨z, ez, g⟩ := g.ofO
  cases z with
  | dat d =>
    obtain ⟨W2, u2, s2, rd⟩ := frz_dat u1 s1 r1 f1 ez
    have p2 := p.then u2 s2
    obtain ⟨A2, a0, es, A', e2, g1, g2, ko, g3, g4, ok⟩ := ownD_at p2 hx
    have n2 := (e2.no j a0 (by rw [g4]; exact List.mem_cons_self)).2.1
    have mA : ∀ a ∈ A', a ∈ A2 j := fun a m => by rw [g4]; exact List.mem_cons_of_mem _ m
    have g5 : GoodS X.K X.w xr W0 H0 Wb Hb E (((ev i env st1).bind fun v st => ofO (vw st v) st).bind fun k st => if keyOk k kvs ∧ kvs.length < lim then .ok (.nxt (env.set j (some (.odi (putK kvs k (.dat d)))))) st else .err) D := g
    rw [R.bind_assoc] at g5
    refine ⟨.ref a0, g1, W2, env, st1, p2.fr, GoodS.then g5 p2.up fun iv st4 W4 H4 io C g6 u4 s4 r4 f4 => ?_⟩
    have p4 := p2.then u4 s4
    obtain ⟨k, ek, g6⟩ := g6.ofO
    have rk := vw_rep s4 r4 ek
    split at g6
    · rename_i hk
      have hl4 := u4.ext a0 _ g2 n2
      have e4 := e2.up u4 s2
      have kv4 : RKv X.K X.w W4 H4 kvs es A' := g3.keep (u4.keepR s2) fun a m => by
        obtain ⟨o, eo⟩ := g3.dom a m
        rw [u4.ext a o eo (e2.no j a (mA a m)).2.1, eo]
      obtain ⟨gk, _⟩ := keyOk_all hk.1
      obtain ⟨ke, eke, _⟩ := keyG_key gk
      exact .inr ⟨a0, W4, kvs, es, A', k, rfl, hl4, ko, kv4, hk.1, hk.2, rk, fun es' u ru ve ko' => g6 W4 _ σ (own_putD hO p4 e4 g1 hl4 kv4 g4 ok eke (rd.keep (u4.keep s2)) ru ve ko')⟩
    · exact g6.elim
  | _ => exact g.elim
end
end Z

set_option linter.all false
set_option maxRecDepth 100000
set_option maxHeartbeats 1000000
/-! Z41: a, b = x, y. -/
namespace Z
open PySem PySem.Spec PyProof.Rows L2
section
variable {X : Cx} {xr : XR} {W0 : Wd} {H0 : Hp} {E : L2.St → XW}
theorem RVs.two {K : PySem.W.Frag} {w : World} {W : Wd} {H : Hp} {x y : RV} {vs : List V} (h : RVs K w W H [x, y] vs []) : ∃ u v, vs = [u, v] ∧ RVr K w W H x u [] ∧ RVr K w W H y v [] := by
  obtain ⟨u, e1, e2⟩ := h.getN (i := 0) rfl rfl
  obtain ⟨v, e3, e4⟩ := h.getN (i := 1) rfl rfl
  have hl := h.length
  match vs, hl, e1, e3 with
  | [a, b], _, e1, e3 =>
    simp at e1 e3
    subst e1
    subst e3
    exact ⟨_, _, rfl, e2, e4⟩
theorem okT_S {x : RV} (h : okT x = true) : okS x = true := by
  cases x <;> simp_all [okT, okS]
theorem evK_thenS {K : PySem.W.Frag} {w : World} {Wb W : Wd} {Hb H : Hp} {st : Sto} {env : Ev} {σ : L2.St} {D : Ends} {ev : Expr → Ev → Sto → R RV} {es : List Expr} {f : List RV → Sto → R Fl} {Q' : List V → Hp → Prop} (h : GoodS K w xr W0 H0 Wb Hb E ((evK ev es env st).bind f) D) (u0 : Up W0 H0 W H)
    (k : ∀ ys st2 W2 H2 vs, ys.length = es.length → GoodS K w xr W0 H0 Wb Hb E (f ys st2) D → Up W H W2 H2 → SR K w W2 H2 st2 → RVs K w W2 H2 ys vs [] → Q' vs H2) : GoodL K w xr (evL ev es env st) W H (E σ) Q' := by
  have h' : GoodS K w xr W0 H0 Wb Hb E (((evL ev es env st).bind fun vs st => ofO (keeps vs) st).bind f) D := h
  rw [R.bind_assoc] at h'
  cases e : evL ev es env st with
  | err => rw [e] at h'; exact h'
  | exc c xs st' =>
    rw [e] at h'
    exact fun W' H' cls d u s q => h' W' H' cls d σ (u0.trans u) s q
  | ok xs st' =>
    rw [e] at h'
    intro W' H' vs A u s r fr
    obtain ⟨ys, ek, h2⟩ := (show GoodS K w xr W0 H0 Wb Hb E ((Z.ofO (keeps xs) st').bind f) D from h').ofO
    obtain ⟨u1, s1⟩ := fz_all u s fr r.dom
    exact k ys st' _ _ vs ((keeps_len ek).trans (evL_len e)) h2 u1 s1 (keeps_ok s r ek fun a m => m)
/-- two names, plain locals on one line -/
theorem ps_two {a b : Expr} {x y : Str} {i j : Nat} {px py pt pos pt2 : Pos} {kt k2 : Nat} {ev : Expr → Ev → Sto → R RV} (hc : X.calm = true) (hN : X.N.Nodup) (hi : ix X.N x = some i) (hj : ix X.N y = some j) (hij : i ≠ j) (hx : X.env.scope.names.lookup x = some .local) (hy : X.env.scope.names.lookup y = some .local)
    (ha : ∀ e ∈ [a, b], PE X e (tEv X.K X.w xr E (ev e))) (hu : ∀ e ∈ [a, b], unstar e = true)
    (hw : swappedStores [.Tuple [.Name x px, .Name y py] kt pt] (.Tuple [a, b] k2 pt2) X.env = pure (some [x, y])) (hs : swapsWithSole [.Tuple [.Name x px, .Name y py] kt pt] (.Tuple [a, b] k2 pt2) pos.line X.env = pure false) :
    PS X (.Assign [.Tuple [.Name x px, .Name y py] kt pt] (.Tuple [a, b] k2 pt2) pos) (fun D σ H => ∃ Wb Hb W env st, Pt X.K X.w W0 H0 Wb Hb W H env st σ ∧ i < env.length ∧ j < env.length ∧ GoodS X.K X.w xr W0 H0 Wb Hb E ((evK ev [a, b] env st).bind fun vs st => if okTs vs then .ok (.nxt (setAll [i, j] vs env)) st else .err) D) := by
  refine PS.imp (ps_par hc hN (ix_at hi) (ix_at hj) hij hx hy (pa_evL ha hu) hw hs) fun D σ H ⟨Wb, Hb, W, env, st, p, li, lj, h⟩ => ⟨W, env, st, p.fr, ?_⟩
  refine evK_thenS h p.up fun ys st2 W2 H2 vs hl g u s r => ?_
  split at g
  · rename_i hk
    match ys, hl with
    | [y1, y2], _ =>
      obtain ⟨v1, v2, rfl, r1, r2⟩ := r.two
      have hk' : okT y1 = true ∧ okT y2 = true := by simpa [okTs] using hk
      have p1 := p.put u s r1 Fresh.nil (okT_S hk'.1) li
      have p2 := p1.put .refl s r2 Fresh.nil (okT_S hk'.2) (by simpa using lj)
      exact ⟨v1, v2, rfl, g _ _ _ p2⟩
  · exact g.elim
end
end Z

set_option linter.all false
set_option maxRecDepth 100000
set_option maxHeartbeats 1000000
/-! Z42: for over a list that a slot alone holds. -/
namespace Z
open PySem PySem.Spec PyProof.Rows L2
section
variable {X : Cx} {xr : XR} {W0 : Wd} {H0 : Hp} {E : L2.St → XW}
theorem ownSlot_some {N : List Str} {env : Ev} {e : Expr} {j : Nat} {vs : List RV} (h : ownSlot N env e = some (j, vs)) : ∃ x p, e = .Name x p ∧ ix N x = some j ∧ env[j]? = some (some (.own vs)) := by
  unfold ownSlot at h
  split at h
  · split at h
    · split at h
      · cases h
        exact ⟨_, _, rfl, by assumption, by assumption⟩
      · cases h
    · cases h
  · cases h
theorem ps_forO {N : List Str} {tg iter : Expr} {body : List Stmt} {pos : Pos} {ev : Expr → Ev → Sto → R RV} {ex : Stmt → Ev → Sto → R Fl} (hO : ∀ a, W0.O a → H0 a = none)
    (h0 : PS X (.For tg iter body [] pos) (tS X.K X.w xr W0 H0 E fun env st => (evI ev true iter env st).bind fun xs st => if okTs xs then forF N tg (execL ex body) xs env st else .err))
    (hev : ∀ x p j env st ds, iter = .Name x p → ix N x = some j → env[j]? = some (some (.dat (.list ds))) → evI ev true iter env st = .ok (ds.map .dat) st) :
    PS X (.For tg iter body [] pos) (tS X.K X.w xr W0 H0 E fun env st => match ownSlot N env iter with
      | some (j, vs) => (ofO (deeps vs) st).bind fun ds st => forF N tg (execL ex body) (ds.map .dat) (env.set j (some (.dat (.list ds)))) st
      | none => (evI ev true iter env st).bind fun xs st => if okTs xs then forF N tg (execL ex body) xs env st else .err) := by
  refine PS.imp h0 fun D σ H ⟨Wb, Hb, W, env, st, p, h⟩ => ?_
  cases eo : ownSlot N env iter with
  | none =>
    simp only [eo] at h
    exact ⟨Wb, Hb, W, env, st, p, h⟩
  | some jv =>
    obtain ⟨j, vs⟩ := jv
    simp only [eo] at h
    obtain ⟨x, px, ei, hj, hx⟩ := ownSlot_some eo
    cases ed : deeps vs with
    | none => rw [ed] at h; exact h.elim
    | some ds =>
      rw [ed] at h
      obtain ⟨W', p'⟩ := p.frz1 hO hx (d := .list ds) (by rw [Z.deep, ed]; rfl)
      have hl : j < env.length := (List.getElem?_eq_some_iff.mp hx).1
      refine ⟨Wb, Hb, W', _, st, p', ?_⟩
      have e1 := hev x px j (env.set j (some (.dat (.list ds)))) st ds ei hj (List.getElem?_set_self hl)
      have h' : GoodS X.K X.w xr W0 H0 Wb Hb E (forF N tg (execL ex body) (ds.map .dat) (env.set j (some (.dat (.list ds)))) st) D := h
      show GoodS X.K X.w xr W0 H0 Wb Hb E ((evI ev true iter _ st).bind _) D
      rw [e1]
      show GoodS X.K X.w xr W0 H0 Wb Hb E (if okTs (ds.map RV.dat) then _ else R.err) D
      rw [okTs_dat, if_pos rfl]
      exact h'
end
end Z

set_option linter.all false
set_option maxRecDepth 100000
set_option maxHeartbeats 1000000
/-! Z43: name += whole number. -/
namespace Z
open PySem PySem.Spec PyProof.Rows L2
section
variable {X : Cx} {xr : XR} {W0 : Wd} {H0 : Hp} {E : L2.St → XW}
theorem augD_some {op : Operator} {a d : PyData} {b : RV} (h : augD op a b = some d) : ∃ i j, op = .Add ∧ a = .int i ∧ b = .dat (.int j) ∧ d = .int (i + j) := by
  unfold augD at h
  split at h
  · cases h
    exact ⟨_, _, rfl, rfl, rfl, rfl⟩
  · cases h
theorem ps_augI {N : List Str} {op : Operator} {x : Str} {e : Expr} {px pos : Pos} {i : Nat} {ev : Expr → Ev → Sto → R RV} (hN : X.N.Nodup) (eN : X.N = N) (hi : ix N x = some i) (hx : Loc X.env.scope x) (hop : op = .Add) (he : PE X e (tEv X.K X.w xr E (ev e))) (hf : X.fn x = true ∨ X.env.scope.names.lookup x = some .local) :
    PS X (.AugAssign (.Name x px) op e pos) (tS X.K X.w xr W0 H0 E fun env st => match ix N x with
      | some i => match env[i]? with
        | some (some (.dat a)) => (ev e env st).bind fun b st => match augD op a b with
          | some d => .ok (.nxt (setE env i (.dat d))) st
          | none => .err
        | _ => .err
      | none => .err) := by
  subst hop
  refine PS.imp (ps_aug hN (by rw [eN]; exact ix_at hi) hx he ip_add hf) fun D σ H ⟨Wb, Hb, W, env, st, p, h⟩ => ?_
  simp only [hi] at h
  split at h
  · rename_i a ha
    obtain ⟨A, en⟩ := p.fr.env
    obtain ⟨v, h1, h2⟩ := en.at_ i _ ha
    have hl : i < env.length := (List.getElem?_eq_some_iff.mp ha).1
    generalize A i = A1 at h2
    refine ⟨v, h1, W, env, st, p.fr, ?_⟩
    refine GoodS.then h p.up fun y st2 W2 H2 u B g u2 s2 r2 f2 => ?_
    cases eg : augD .Add a y with
    | none => rw [eg] at g; exact g.elim
    | some d =>
      rw [eg] at g
      obtain ⟨m, n, -, rfl, rfl, rfl⟩ := augD_some eg
      cases h2 with
      | dat q1 =>
        cases r2 with
        | dat q2 =>
          cases q1
          cases q2
          exact ⟨m, n, rfl, rfl, g _ _ _ (p.put u2 s2 (.dat (.int (m + n))) Fresh.nil rfl hl)⟩
  · exact h.elim
end
end Z

set_option linter.all false
set_option maxRecDepth 100000
set_option maxHeartbeats 1000000
/-! Z44: a, b = e, e a tuple. -/
namespace Z
open PySem PySem.Spec PyProof.Rows L2
section
variable {X : Cx} {xr : XR} {W0 : Wd} {H0 : Hp} {E : L2.St → XW}
theorem ps_tupV {N : List Str} {ts : List Expr} {e : Expr} {kt : Nat} {pt pos : Pos} {ev : Expr → Ev → Sto → R RV} (hR : PS X (.Assign [.Tuple ts kt pt] e pos) (tAsg (tEv X.K X.w xr E (ev e)) (gOf N X.K (.Tuple ts kt pt)))) :
    PS X (.Assign [.Tuple ts kt pt] e pos) (tS X.K X.w xr W0 H0 E fun env st => (ev e env st).bind fun v st => match v with
      | .dat (.tuple ds) => (ofO (asgNs N ts (ds.map .dat) env) st).bind fun env st => .ok (.nxt env) st
      | .tpl vs => if okTs vs then (ofO (asgNs N ts vs env) st).bind fun env st => .ok (.nxt env) st else .err
      | _ => .err) := by
  refine PS.imp hR fun D σ H ⟨Wb, Hb, W, env, st, p, h⟩ => ⟨W, env, st, p.fr, ?_⟩
  refine GoodS.then h p.up fun y st2 W2 H2 v A g u s r f => ?_
  obtain ⟨A2, e2⟩ := (p.then u s).fr.env
  have fin : ∀ {x : RV} {env' : Ev}, RVr X.K X.w W2 H2 x v [] → okT x = true → asgT N (.Tuple ts kt pt) x env = some env' → GoodS X.K X.w xr W0 H0 Wb Hb E (.ok (.nxt env') st2) D → gOf N X.K (.Tuple ts kt pt) v σ H2 D.nx := fun rx ok ea g => asgT_ok ea e2 rx fun σ3 ⟨he3, hl3, _⟩ => g _ _ _ ⟨⟨s, he3⟩, (p.then u s).up, (p.then u s).ks, okE_asgT ea p.ok ok⟩
  split at g
  · rename_i ds
    cases ea : asgNs N ts (ds.map .dat) env with
    | none => rw [ea] at g; exact g.elim
    | some env' =>
      rw [ea] at g
      generalize A = A1 at r
      cases r with
      | dat q => exact fin (.dat q) rfl ea g
  · rename_i vs
    split at g
    · rename_i hk
      cases ea : asgNs N ts vs env with
      | none => rw [ea] at g; exact g.elim
      | some env' =>
        rw [ea] at g
        cases r with
        | tpl q1 q2 => exact fin (.tpl q1 q2) (by simpa [okT] using hk) ea g
    · exact g.elim
  · exact g.elim
end
end Z

set_option linter.all false
set_option maxRecDepth 100000
set_option maxHeartbeats 1000000
/-! Z48: dict comprehensions whose dict is known to the letter. -/
namespace Z
open PySem PySem.Spec PyProof.Rows L2
section
variable {X : Cx} {pins : List (Addr × Obj)} {σ : L2.St} {H : Hp} {s : Shared} {a : Addr}
variable {A : Around} {E : Value → Shared → Prop} {kvs : List (PyData × Value)} {es : List DictEntry} {k : PyData} {kv : V} {u : Value}
/-- a comprehension's store -/
theorem d_dset {Q : Unit → Shared → Prop} {y : Value} (hu : A.units + 9 < cLine) (I : Inv X pins σ H s) (d : DAt X H a kvs es) (hk : keyOk k kvs = true) (hz : kvs.length < sizeLine) {F : Addr → Prop} (rk : Rep X.K X.w F H k kv) (r : RelV kv u)
    (h : ∀ s' es', Inv X pins σ (upd H a (rawO a es')) s' → VE X.K X.w H (putK kvs k y) es' → KeysOk ((putK kvs k y).map (·.1)) → Q () s') : wpAny (model X.prog X.w) A (dictSet a u y) Q E s := by
  obtain ⟨g, t⟩ := keyOk_all hk
  obtain ⟨ke, e1, e2⟩ := keyG_key g
  obtain ⟨_, hS, _⟩ := d.raw I
  have hlen := d.ve.len
  have ko' := d.ko.put (v := y) g
  have gs : ∀ p ∈ kvs, ∃ ke, keyD p.1 = some ke := fun p m => by
    obtain ⟨ke, q, _⟩ := keyG_key (d.ko.each p.1 (List.mem_map_of_mem m))
    exact ⟨ke, q⟩
  have mu : Mut (H a) := by rw [d.at_]; exact trivial
  cases l : leafK k with
  | false =>
    rw [l] at t
    obtain ⟨xs, rfl⟩ := keyG_tup g l
    have ni := nest_of I rk r e1
    have rk' := rk.now
    cases rk
    rename_i b vs' h1 h2
    obtain rfl := r
    obtain ⟨n1, n2, n3⟩ := d.ve.nxs I t d.ko
    have nlen : (Z.nxs kvs es).length = kvs.length := by
      have := congrArg List.length n1
      rw [List.length_map] at this
      omega
    refine wpAny_dictSet_heap (knd := nestedKind X.prog X.w) (k := ke) (by show A.units + 8 < cLine; omega) ⟨ni, e2⟩ (d.heap I t) (fun h' hm hs => ?_) (by rw [nlen]; omega)
    obtain ⟨o, arr, ep, q1, q2, q3, q4, q5, q6⟩ := hm
    have ve : VE X.K X.w H (putK kvs (.tuple xs) y) arr.toList := by
      rw [q4]
      unfold storedH putK
      have q := atKey_nxs e1 d.ve
      have q' : (atKey (Z.nxs kvs es) ke).isSome = kvs.any fun p => sameKey p.1 (.tuple xs) := by rw [← getK_any, ← q, Option.isSome_map]
      rw [q']
      split
      · exact d.ve.map_put e1 n1
      · rw [List.map_append, ← n1]
        exact d.ve.app (e := entryOfKey (nestedKind X.prog X.w) (ke, b, y)) e1 rk' rfl rfl rfl
    refine h _ arr.toList (d_write I mu hs ⟨o, q1⟩ (raw_new q1 q2 q3 hS ?_)) ve ko'
    rw [← ve.len]
    have := putK_len kvs (.tuple xs) y
    omega
  | true =>
    rw [l] at t
    refine wpAny_dictSet_pairs (knd := plainKind X.prog X.w) (k := leafOf k) (plain_of rk r l) (d.plain I t) (fun h' hm hs => ?_) (by unfold lxs; rw [List.length_map]; omega)
    obtain ⟨o, arr, ep, q1, q2, q3, q4, q5, q6⟩ := hm
    rw [stored_lxs e1 l t gs] at q5
    have lp : ∀ p ∈ putK kvs k y, leafK p.1 = true ∧ ∃ ke, keyD p.1 = some ke := fun p m => by
      have hm : p.1 ∈ (putK kvs k y).map (·.1) := List.mem_map_of_mem m
      rw [putK_keys] at hm
      have : p.1 ∈ kvs.map (·.1) ∨ p.1 = k := by
        split at hm
        · exact .inl hm
        · rcases List.mem_append.mp hm with z | z
          · exact .inl z
          · exact .inr (by simpa using z)
      rcases this with z | z
      · obtain ⟨p', m', e'⟩ := List.mem_map.mp z
        rw [← e']
        exact ⟨t p' m', gs p' m'⟩
      · rw [z]
        exact ⟨l, ke, e1⟩
    have ve : VE X.K X.w H (putK kvs k y) arr.toList := VE.of_pairs (P := X.prog) q5 (fun e m => q4 e (by simpa using m)) (fun p m => (lp p m).1) fun p m => (lp p m).2
    refine h _ arr.toList (d_write I mu hs ⟨o, q1⟩ (raw_new q1 q2 q3 hS ?_)) ve ko'
    rw [← ve.len]
    have := putK_len kvs k y
    omega
end
/-- what a store of y, z into the dict at D asks -/
def PutR (K : PySem.W.Frag) (w : World) (D : Addr) (y z : V) (H : Hp) (Nx : Hp → Prop) : Prop := ∃ kus es k F, H D = some (rawO D es) ∧ KeysOk (kus.map (·.1)) ∧ VE K w H kus es ∧ keyOk k kus = true ∧ kus.length < sizeLine ∧ Rep K w F H k y ∧
  ∀ (r : Value) es', RelV z r → VE K w H (putK kus k r) es' → KeysOk ((putK kus k r).map (·.1)) → Nx (upd H D (rawO D es'))
/-- the walk over J that fills the dict at D, by the measure Wm -/
def DcW (K : PySem.W.Frag) (w : World) (g : TG) (tt : TT) (tk tv : TE) (vs : List Nat) (σ : L2.St) (Q : VK) (J : It) (D : Addr) (Wm : Nat → Nat → Hp → Prop) : Prop := ∀ i m H, Wm i m H →
  (J.stop i H ∧ Q (.ref D) H) ∨ (J.go i H ∧ ∃ Nx : Hp → Prop, (∀ H', Nx H' → ∃ m', m' < m ∧ Wm (i + 1) m' H') ∧
    ∀ x H', J.yld i H x H' → g x (wipe σ vs) H' fun σ2 H2 => wipe σ2 vs = wipe σ vs ∧ tt σ2 H2 fun b H3 => if b = true then tk σ2 H3 fun y H4 => tv σ2 H4 fun z H5 => PutR K w D y z H5 Nx else Nx H3)
def tDr (K : PySem.W.Frag) (w : World) (wi : TI) (g : TG) (tt : TT) (tk tv : TE) (vs : List Nat) : TE := fun σ H Q => wi σ H fun J H1 => ∀ D, H1 D = none → ∃ Wm : Nat → Nat → Hp → Prop, (∃ m, Wm 0 m (upd H1 D (rawO D []))) ∧ DcW K w g tt tk tv vs σ Q J D Wm
end Z

set_option linter.all false
set_option maxRecDepth 100000
set_option maxHeartbeats 1000000
/-! Z49: the block of a dict comprehension runs. -/
namespace Z
open PySem PySem.Spec PyProof.Rows L2
/-- the block's own environment -/
abbrev bEnv (X : Cx) (s : Shared) (sc : Scope) : Env := compEnvC sc (cellsFrom (s.heap.objs.size + 1) sc.names (cloFrom X.env.cells sc.names [])) s.heap.objs.size X.env
/-- the block's shared state when it starts -/
abbrev bSt (s : Shared) (sc : Scope) : Shared := { s with heap := pushCells (s.heap.push { cls := .type "dict", data := .dict #[] }) sc.names }
/-- one turn's promise, brought back from the pinned state to the block's -/
theorem turn_back {Y : Cx} {fp : List Addr} {own : List Nat} {σ σb : L2.St} {tn : Nat → Heap → Prop} {J : It} {i : Nat} {sp s' : Shared} {H' : Hp} {it : Addr} {tg : Expr} (T : Turn Y.prog Y.w Y.K tg J fp it tn) (stp : tn (i + 1) sp.heap)
    (J' : Inv Y ([] ++ pinsAt fp sp.heap) σb H' s') (hw : wipe σb own = wipe σ own) : Inv Y [] (wipe σ own) H' s' ∧ tn (i + 1) s'.heap ∧ ∀ b ∈ fp, H' b = none := by
  have held : ∀ b ∈ fp, ∀ o, sp.heap.get? b = some o → s'.heap.get? b = some o ∧ H' b = none := fun b hb o e => by
    have z := J'.pin (b, o) (List.mem_append_right _ (List.mem_append_right _ (mem_pinsAt hb e)))
    exact ⟨z.1, z.2.1⟩
  refine ⟨?_, T.keep _ _ _ stp fun b hb o e => (held b hb o e).1, fun b hb => ?_⟩
  · refine J'.unpinned (pins := []) |>.weak (by rw [← hw, wipe_length]) fun j v e => ?_
    rw [← hw] at e
    exact (wipe_some e).1
  · obtain ⟨o, e, _⟩ := T.obj _ _ stp b hb
    exact (held b hb o e).2
section
variable {X : Cx}
/-- the loop, in the block Y -/
theorem dr_loop {Y : Cx} {fp : List Addr} {own : List Nat} {σ : L2.St} {Q : VK} {tn : Nat → Heap → Prop} {J : It} {it D : Addr} {tg kx vx iter : Expr} {ifs : List Expr} {sc : Scope} {pos : Pos} {g : TG} {tt : TT} {tk tv : TE} {Wm : Nat → Nat → Hp → Prop} {R : Result → Shared → Prop}
    (hu : Y.A.units + 9 < cLine) (hc : Y.calm = true) (hex : Y.ex = fp) (hpn : Y.pn = []) (hxe : Y.xe = fun _ _ => False) (T : Turn Y.prog Y.w Y.K tg J fp it tn) (pg : PG Y tg g) (pt : PTs Y ifs tt) (pk : PE Y kx tk) (pv : PE Y vx tv) (dw : DcW Y.K Y.w g tt tk tv own σ Q J D Wm)
    (hR : ∀ s' H', Inv Y [] (wipe σ own) H' s' → Q (.ref D) H' → R (.ok .next) s') {m0 : Nat} {s0 : Shared} {Hs : Hp} (I0 : Inv Y [] (wipe σ own) Hs s0) (t0 : tn 0 s0.heap) (n0 : ∀ b ∈ fp, Hs b = none) (w0 : Wm 0 m0 Hs) :
    codeAny (model Y.prog Y.w) Y.A (.compLoop (.DictComp kx vx [⟨tg, iter, ifs, 0⟩] sc pos) 0 (.ref it) (.ref D) Y.env) R s0 := by
  have stat : ∀ {σ' : L2.St} {H' : Hp} {s' : Shared}, Inv Y [] σ' H' s' → (∀ b ∈ fp, H' b = none) → ∀ b ∈ fp, FpOk Y [] H' b := fun {σ' H' s'} I' hn b hb => by
    have hb' : b ∈ Y.ex := by rw [hex]; exact hb
    exact ⟨hn b hb, (I'.ok.exf b hb').1, I'.ok.exfs b hb', .inl hb', fun x c e => (I'.ok.exf b hb').2 x c e, fun p hp => by rw [hpn] at hp; exact absurd hp (by simp)⟩
  have up : ∀ {α : Type} {t : Sem α} {P P' : α → Shared → Prop} {E' : Value → Shared → Prop} {s : Shared}, wpAny (model Y.prog Y.w) Y.A t P Y.xe s → (∀ a s, P a s → P' a s) → wpAny (model Y.prog Y.w) Y.A t P' E' s := fun h k => wpAny_mono h k fun _ _ z => by rw [hxe] at z; exact z.elim
  refine compLoop_anyD (fun n s' => ∃ i H', Inv Y [] (wipe σ own) H' s' ∧ tn i s'.heap ∧ (∀ b ∈ fp, H' b = none) ∧ Wm i n H') (fun n s1 ⟨i, H1, I1, t1, n1, w1⟩ => ?_) m0 ⟨0, Hs, I0, t0, n0, w0⟩
  rcases dw i n H1 w1 with ⟨stop, q⟩ | ⟨go, Nx, hNx, step⟩
  · refine thnF (T.done Y rfl rfl rfl hc i [] s1 _ H1 (fun _ _ => False) I1 (stat I1 n1) t1 stop) fun r s2 ⟨er, I2⟩ => ?_
    subst er
    exact hR s2 H1 I2 q
  · refine thnF (T.item Y rfl rfl rfl hc i [] s1 _ H1 (fun _ _ => False) I1 (stat I1 n1) t1 go) fun r s2 ⟨u, er, h2⟩ => ?_
    subst er
    refine thnF h2 fun _ s3 ⟨x, H3, I3, r3, y3, t3, n3⟩ => ?_
    have I3' := I3.pinned (stat I3 n3) (T.obj _ _ t3)
    refine up (pg.run _ s3 _ H3 x u _ I3' r3 (step x H3 y3)) fun _ s4 ⟨σ4, H4, I4, hw4, q4⟩ => ?_
    refine up (pt.run _ s4 σ4 H4 _ I4 q4) fun b s5 ⟨H5, I5, q5⟩ => ?_
    have fin : ∀ {s' : Shared} {H' : Hp}, Inv Y ([] ++ pinsAt fp s3.heap) σ4 H' s' → Nx H' → ∃ m, m < n ∧ ∃ i H', Inv Y [] (wipe σ own) H' s' ∧ tn i s'.heap ∧ (∀ b ∈ fp, H' b = none) ∧ Wm i m H' := fun {s' H'} I' nx => by
      obtain ⟨m', hm, w'⟩ := hNx H' nx
      obtain ⟨a1, a2, a3⟩ := turn_back T t3 I' hw4
      exact ⟨m', hm, i + 1, H', a1, a2, a3, w'⟩
    cases b with
    | false =>
      simp only [Bool.false_eq_true, if_false] at q5 ⊢
      exact fin I5 q5
    | true =>
      simp only [if_true] at q5 ⊢
      refine up (pk.run _ s5 σ4 H5 _ I5 q5) fun ku s6 ⟨yk, H6, I6, r6, q6⟩ => ?_
      refine up (pv.run _ s6 σ4 H6 _ I6 q6) fun vu s7 ⟨yv, H7, I7, r7, kus, es, k, F, hD, ko, ve, hk, hz, rk, nx⟩ => ?_
      exact d_dset hu I7 ⟨hD, ko, ve⟩ hk hz rk r6 fun s8 es' I8 v8 k8 => fin I8 (nx vu es' r7 v8 k8)
/-- a dict comprehension, as a value -/
theorem pe_dr {kx vx tg iter : Expr} {ifs : List Expr} {sc : Scope} {own : List (Str × Nat)} {pos : Pos} {wi : TI} {g : TG} {tt : TT} {tk tv : TE} (hu : X.A.units + 9 < cLine) (hc : X.calm = true) (hN : X.N.Nodup) (hi : PI X tg iter wi) (ok : BlkOk X.N X.env.scope sc own)
    (hg : ∀ s H fp, PG (X.blk s H sc (bEnv X s sc) fp) tg g) (ht : ∀ s H fp, PTs (X.blk s H sc (bEnv X s sc) fp) ifs tt) (hk : ∀ s H fp, PE (X.blk s H sc (bEnv X s sc) fp) kx tk) (hv : ∀ s H fp, PE (X.blk s H sc (bEnv X s sc) fp) vx tv) (hs : ∀ x, foldedSetIterable iter X.env x = pure x) :
    PE X (.DictComp kx vx [⟨tg, iter, ifs, 0⟩] sc pos) (tDr X.K X.w wi g tt tk tv (own.map (·.2))) := by
  refine ⟨fun pins s σ H Q I h => ?_⟩
  rw [arm_eval_DictComp]
  have clos : ∀ y ∈ sc.names, y.2 = .free → ∃ c, X.env.cells.lookup y.1 = some c := fun y hy e => I.ok.has _ ((ok.free y hy e).imp id id)
  refine wpAny_comprehension_free (use := none) rfl hs (closure_ok clos) ok.kind (fun y hy e => (ok.uniq y hy).trans (congrArg some e)) (thn (hi.run pins s σ H _ I h) fun xv s1 hx => thn hx fun itv s2 ⟨it, fp, tn, J, H2, eit, I2, T, t2, f2, q⟩ => ?_)
  subst eit
  refine wpAny_newObj_type (newEnv_comp ?_)
  obtain ⟨Wm, ⟨m0, w0⟩, dw⟩ := q s2.heap.objs.size (I2.hok.fresh (Nat.le_refl _))
  -- the new dict
  let s3 : Shared := { s2 with heap := s2.heap.push { cls := .type "dict", data := .dict #[] } }
  let D := s2.heap.objs.size
  let H3 := upd H2 D (rawO D [])
  have keep3 : ∀ b o, s2.heap.get? b = some o → s3.heap.get? b = some o := fun b o e => Heap.get?_push_of_some _ e
  have I3 : Inv X pins σ H3 s3 := I2.laid (t' := s2.toks) keep3 (Nat.le_refl _) (raw_empty s2.heap I2.big)
  have lt2 : ∀ b ∈ fp, b < s2.heap.objs.size := fun b hb => by
    obtain ⟨o, e, _⟩ := T.obj _ _ t2 b hb
    exact Heap.lt_size e
  have f3 : ∀ b ∈ fp, FpOk X pins H3 b ∧ b < s3.heap.objs.size := fun b hb => by
    have l := lt2 b hb
    refine ⟨⟨?_, (f2 b hb).2⟩, ?_⟩
    · show upd H2 D (rawO D []) b = none
      rw [upd_ne (Nat.ne_of_lt l)]
      exact (f2 b hb).1
    · show b < (s2.heap.push _).objs.size
      rw [Heap.size_push]
      exact Nat.lt_succ_of_lt l
  have t3 : tn 0 s3.heap := T.keep _ _ _ t2 fun b _ o e => keep3 b o e
  have I4 := block_start I3 ok hN f3
  have t4 : tn 0 (bSt s3 sc).heap := T.keep _ _ _ t3 fun b _ o e => pushCells_keeps _ _ _ _ (Heap.get?_push_of_some _ e)
  have hloop : ∀ R : Result → Shared → Prop, (∀ s' H', Inv (X.blk s3 H3 sc (bEnv X s3 sc) fp) [] (wipe σ (own.map (·.2))) H' s' → Q (.ref D) H' → R (.ok .next) s') →
      codeAny (model X.prog X.w) X.A (.compLoop (.DictComp kx vx [⟨tg, iter, ifs, 0⟩] sc pos) 0 (.ref it) (.ref D) (bEnv X s3 sc)) R (bSt s3 sc) := fun R hR =>
    dr_loop (Y := X.blk s3 H3 sc (bEnv X s3 sc) fp) hu hc rfl rfl rfl T (hg s3 H3 fp) (ht s3 H3 fp) (hk s3 H3 fp) (hv s3 H3 fp) dw hR I4 t4 (fun b hb => (f3 b hb).1.1) w0
  refine codeAny_compStart_dict (hloop _ fun s' H' I' q' => ?_) (T.self X.A 0 _ _ _ t4 (hloop _ fun s' H' I' q' => ?_))
  all_goals
    have I7 : Inv X pins σ H' s' := I3.call' (ch := fp) I'.os I'.base I'.hok I'.bare fun b hb => ⟨(f3 b hb).1.2.2.2.1, (f3 b hb).1.2.1, (f3 b hb).1.2.2.2.2.1, (f3 b hb).1.2.2.2.2.2⟩
    have nC : H' s3.heap.objs.size = none := I'.free
    obtain ⟨m, hm, _⟩ := I'.loc
    obtain ⟨g0, g1, g2, g3, g4, g5⟩ := I3.fpOk (H' := H') (Nat.le_refl _) nC
    exact ⟨m, hm, fun h2 sb => ⟨.ref D, H', I7.turned (t' := s'.toks) (fun b o hb e => (sb.2 b hb).trans e) g0 g1 g3 g4 g5, rfl, q'⟩⟩
end
end Z

set_option linter.all false
set_option maxRecDepth 100000
set_option maxHeartbeats 1000000
/-! Z50: dict comprehensions, as the reader reads them. -/
namespace Z
open PySem PySem.Spec PyProof.Rows L2
/-- no tuple, nothing that is kept as it was -/
def Soft (o : HO) : Prop := (∀ vs, o ≠ .tup vs) ∧ ∀ ob u, o ≠ .frz ob u
theorem soft_raw {a : Addr} {es : List DictEntry} : Soft (rawO a es) := ⟨fun _ => raw_ne_tup, fun _ _ => raw_ne_frz⟩
section
variable {K : PySem.W.Frag} {w : World} {W W1 W' : Wd} {H H1 H' : Hp} {st st1 : Sto} {D : Addr}
/-- a thing is laid at D, to be made -/
theorem SR.pendO (s : SR K w W H st) (hD : H D = none) (o : HO) : SR K w (W.pend D) (upd H D o) st := by
  have kp : KeepR K W H (W.pend D) (upd H D o) := pend_in (Up.refl.new hD) s hD
  have ne : ∀ {a q}, H a = some q → a ≠ D := fun e => ne_of_none e hD
  refine ⟨s.len, s.nd, s.bf, fun a h => ?_, fun a f => ?_, fun i c a h1 h2 => ?_, fun a h => s.fr a ?_⟩
  · rcases h with h | rfl
    · obtain ⟨n, q, e⟩ := s.pf a h
      exact ⟨n, q, by rw [upd_ne (ne e)]; exact e⟩
    · exact ⟨(new_no s hD).2, _, upd_same⟩
  · obtain ⟨q, e⟩ := s.dom a f
    exact ⟨q, by rw [upd_ne (ne e)]; exact e⟩
  · obtain ⟨q, e⟩ := s.βdom (List.mem_of_getElem? h2)
    exact (s.cells i c a h1 h2).keep kp (upd_ne (ne e))
  · by_cases z : a = D
    · rw [z]; exact hD
    · rw [upd_ne z] at h; exact h
/-- what is made at D changes -/
theorem keepO (s : SR K w W H st) (hP : W.P D) (nb : D ∉ W.β) {o : HO} (hD : H D = some o) (so : Soft o) (o' : HO) : KeepR K W H W (upd H D o') := by
  have tup : ∀ b zs, SqT K H b zs → SqT K (upd H D o') b zs := fun b zs h => by
    rcases h with h | h
    · have hne : b ≠ D := fun z => by
        subst z
        rcases h with h | ⟨ob, h⟩ <;> rw [hD] at h
        · exact so.1 _ (Option.some.inj h)
        · exact so.2 _ _ (Option.some.inj h)
      rcases h with h | ⟨ob, h⟩
      · exact .inl (.inl ((upd_ne hne).trans h))
      · exact .inl (.inr ⟨ob, (upd_ne hne).trans h⟩)
    · exact .inr h
  have fro : ∀ b ob zs, H b = some (.frz ob (.lst zs)) → (upd H D o') b = some (.frz ob (.lst zs)) := fun b ob zs h => by
    rw [upd_ne (fun z => by subst z; rw [hD] at h; exact so.2 _ _ (Option.some.inj h))]
    exact h
  refine ⟨⟨tup, fro, fun b f => ⟨f, upd_ne fun z => by subst z; exact (s.pf b hP).1 f⟩⟩, List.prefix_refl _, ⟨tup, fro, fun b ⟨n, np, ob, eo, dd⟩ => ?_⟩⟩
  have hne : b ≠ D := fun z => by subst z; exact np hP
  exact ⟨⟨n, np, ob, by rw [upd_ne hne]; exact eo, dd⟩, upd_ne hne⟩
theorem SR.accO (s : SR K w W H st) (hP : W.P D) (nb : D ∉ W.β) {o : HO} (hD : H D = some o) (so : Soft o) (o' : HO) : SR K w W (upd H D o') st := by
  refine ⟨s.len, s.nd, s.bf, fun a h => ?_, fun a f => ?_, fun i c a h1 h2 => ?_, fun a h => s.fr a ?_⟩
  · obtain ⟨n, q, e⟩ := s.pf a h
    by_cases z : a = D
    · exact ⟨n, _, by rw [z]; exact upd_same⟩
    · exact ⟨n, q, by rw [upd_ne z]; exact e⟩
  · obtain ⟨q, e⟩ := s.dom a f
    exact ⟨q, by rw [upd_ne (fun z => by subst z; exact (s.pf a hP).1 f)]; exact e⟩
  · exact (s.cells i c a h1 h2).keep (keepO s hP nb hD so o') (upd_ne fun z => by subst z; exact nb (List.mem_of_getElem? h2))
  · by_cases z : a = D
    · rw [z, upd_same] at h; cases h
    · rw [upd_ne z] at h; exact h
/-- the dict so far, at a turn -/
structure DcAt (K : PySem.W.Frag) (w : World) (W1 : Wd) (H1 : Hp) (D : Addr) (W' : Wd) (H' : Hp) (st' : Sto) (acc : List (PyData × RV)) (es : List DictEntry) (A : List Addr) : Prop where
  up : Up W1 H1 W' H'
  sr : SR K w (W'.pend D) H' st'
  at_ : H' D = some (rawO D es)
  ko : KeysOk (acc.map (·.1))
  rv : RKv K w (W'.pend D) H' acc es A
  nd : A.Nodup
  no : ∀ a ∈ A, ¬ W'.F a ∧ a ∉ W'.β ∧ H1 a = none ∧ a ≠ D ∧ ¬ W'.P a
  nb : D ∉ W'.β
/-- behind an expression of the block -/
theorem DcAt.next {acc : List (PyData × RV)} {es : List DictEntry} {A : List Addr} {W3 : Wd} {H3 : Hp} {s3 : Sto} (L : DcAt K w W1 H1 D W' H' st acc es A) (u : Up (W'.pend D) H' W3 H3) (s : SR K w W3 H3 s3) :
    ∃ V : Wd, W3 = V.pend D ∧ DcAt K w W1 H1 D V H3 s3 acc es A ∧ V.P = W'.P := by
  have e3 : W3 = ({ W3 with P := W'.P } : Wd).pend D := by
    have := u.P
    cases W3
    dsimp only at this
    subst this
    rfl
  have uu : Up W' H' { W3 with P := W'.P } H3 := ⟨u.F, u.O, rfl, u.β, u.ext, u.dom, u.Fn, u.βn⟩
  have dA := L.rv.dom
  refine ⟨{ W3 with P := W'.P }, e3, ⟨L.up.trans uu, e3 ▸ s, u.ext D _ L.at_ L.nb, L.ko, ?_, L.nd, fun a m => ?_, fun z => ?_⟩, rfl⟩
  · rw [← e3]
    exact L.rv.keep (u.keepR L.sr) (u.at dA fun a m => (L.no a m).2.1)
  · obtain ⟨n1, n2, n3, n4, n5⟩ := L.no a m
    obtain ⟨o, eo⟩ := dA a m
    refine ⟨fun z => ?_, fun z => ?_, n3, n4, n5⟩
    · rcases u.Fn a z with q | q
      · exact n1 q
      · rw [eo] at q; cases q
    · rcases u.βn a z with q | q
      · exact n2 q
      · rw [eo] at q; cases q
  · rcases u.βn D z with q | q
    · exact L.nb q
    · rw [L.at_] at q; cases q
end
section
variable {X : Cx} {xr : XR} {E : L2.St → XW} {ev : Expr → Ev → Sto → R RV}
/-- one turn, as the reader reads it -/
theorem dcF_cons {N : List Str} {tg : Expr} {ifs : List Expr} {k v : Expr} {env : Ev} {x : RV} {r : List RV} {acc : List (PyData × RV)} {st st' : Sto} {ds : List (PyData × RV)} (h : dcF N ev tg ifs k v env (x :: r) acc st = .ok ds st') :
    ∃ env' b st1, asgT N tg x env = some env' ∧ tests ev ifs env' st = .ok b st1 ∧ ((b = false ∧ dcF N ev tg ifs k v env r acc st1 = .ok ds st') ∨
      ∃ kv st2 kd y st3 y', b = true ∧ ev k env' st1 = .ok kv st2 ∧ vw st2 kv = some kd ∧ ev v env' st2 = .ok y st3 ∧ elem y = some y' ∧ keyOk kd acc = true ∧ (isDat y' = true ∨ (acc.any fun p => sameKey p.1 kd) = false) ∧ acc.length < lim ∧
        dcF N ev tg ifs k v env r (putK acc kd y') st3 = .ok ds st') := by
  have h' : ((ofO (asgT N tg x env) st).bind fun env' st => (tests ev ifs env' st).bind fun b st =>
    if b then (evV ev k env' st).bind fun kd st => ((ev v env' st).bind fun v st => ofO (elem v) st).bind fun w st => if keyOk kd acc && (isDat w || !(acc.any fun p => sameKey p.1 kd)) && decide (acc.length < lim) then dcF N ev tg ifs k v env r (putK acc kd w) st else .err
    else dcF N ev tg ifs k v env r acc st) = .ok ds st' := h
  obtain ⟨env', sa, h1, h2⟩ := bind_ok h'
  obtain ⟨e1, rfl⟩ := ofO_ok h1
  obtain ⟨b, sb, h3, h4⟩ := bind_ok h2
  refine ⟨env', b, sb, e1, h3, ?_⟩
  cases b with
  | false => exact .inl ⟨rfl, h4⟩
  | true =>
    obtain ⟨kd, sc, h5, h6⟩ := bind_ok (show ((evV ev k env' sb).bind fun kd st => ((ev v env' st).bind fun v st => ofO (elem v) st).bind fun w st => if keyOk kd acc && (isDat w || !(acc.any fun p => sameKey p.1 kd)) && decide (acc.length < lim) then dcF N ev tg ifs k v env r (putK acc kd w) st else .err) = .ok ds st' from h4)
    obtain ⟨kv, sc', h7, h8⟩ := bind_ok h5
    obtain ⟨e2, rfl⟩ := ofO_ok h8
    obtain ⟨y', sd, h9, h10⟩ := bind_ok h6
    obtain ⟨y, sd', h11, h12⟩ := bind_ok h9
    obtain ⟨e3, rfl⟩ := ofO_ok h12
    split at h10
    · rename_i hc
      rw [Bool.and_eq_true, Bool.and_eq_true] at hc
      obtain ⟨⟨c1, c2⟩, c3⟩ := hc
      refine .inr ⟨kv, _, kd, y, _, y', rfl, h7, e2, h11, e3, c1, ?_, of_decide_eq_true c3, h10⟩
      rcases Bool.or_eq_true _ _ |>.mp c2 with c | c
      · exact .inl c
      · exact .inr (by simpa using c)
    · cases h10
theorem isDat_nil {K : PySem.W.Frag} {w : World} {W : Wd} {H : Hp} {x : RV} {v : V} {A : List Addr} (h : RVr K w W H x v A) (d : isDat x = true) : A = [] := by
  cases h <;> first | rfl | cases d
/-- an entry is laid, new or in place of an older one -/
theorem lay_entry {K : PySem.W.Frag} {w : World} {W : Wd} {H : Hp} {k : PyData} {ke : NestedKey} {y : Value} {x : RV} {v : V} {B : List Addr} (hk : keyD k = some ke) (rx : RVr K w W H x v B) (rv : RelV v y) {kvs : List (PyData × RV)} {es es' : List DictEntry} {A : List Addr} (r : RKv K w W H kvs es A)
    (c : B = [] ∨ (kvs.any fun p => sameKey p.1 k) = false) (h : VE K w H (putK (kusOf kvs es) k y) es') : ∃ A', RKv K w W H (putK kvs k x) es' A' ∧ A'.Sublist (A ++ B) := by
  rcases c with rfl | c
  · obtain ⟨A', h1, h2⟩ := r.put hk rx rv h
    exact ⟨A', h1, by rw [List.append_nil]; exact h2⟩
  · have e : ((kusOf kvs es).any fun p => sameKey p.1 k) = false := by
      have z : ∀ {β : Type} (l : List (PyData × β)), (l.any fun p => sameKey p.1 k) = (l.map (·.1)).any fun q => sameKey q k := fun l => by rw [List.any_map]; rfl
      rw [z, r.keys.1, ← z]
      exact c
    unfold putK at h ⊢
    rw [e, if_neg Bool.false_ne_true] at h
    rw [c, if_neg Bool.false_ne_true]
    exact ⟨_, r.app_put hk rx rv h, List.Sublist.refl _⟩
theorem dc_ok {N : List Str} {k v tg : Expr} {ifs : List Expr} {own : List Nat} {J : It} {W1 : Wd} {H1 : Hp} {st1 stE : Sto} {xs : List RV} {ds : List (PyData × RV)} {env : Ev} {σ : L2.St} {Q : VK} (F : FR X.K X.w W1 H1 env st1 σ) (wk : Walk X.K X.w false W1 H1 J xs) (hown : ∀ j ∈ tgIx N tg, j ∈ own)
    (hr : dcF N ev tg ifs k v (wipeE env own) xs [] st1 = .ok ds stE)
    (fin : ∀ W' H' v A, Up W1 H1 W' H' → SR X.K X.w W' H' stE → RVr X.K X.w W' H' (.odi ds) v A → Fresh W' H1 A → Q v H') :
    ∀ D, H1 D = none → ∃ Wm : Nat → Nat → Hp → Prop, (∃ m, Wm 0 m (upd H1 D (rawO D []))) ∧ DcW X.K X.w (gOf N X.K tg) (tT X.K X.w xr E0 (tests ev ifs)) (tEv X.K X.w xr E0 (ev k)) (tEv X.K X.w xr E0 (ev v)) own σ Q J D Wm := by
  intro D hD
  obtain ⟨S, wk⟩ := wk
  obtain ⟨A0, e0⟩ := F.env
  have ew := e0.wipe own
  let Wm : Nat → Nat → Hp → Prop := fun i m H => m = xs.length - i ∧ i ≤ xs.length ∧ ∃ W' st' acc es A, DcAt X.K X.w W1 H1 D W' H st' acc es A ∧ dcF N ev tg ifs k v (wipeE env own) (xs.drop i) acc st' = .ok ds stE
  refine ⟨Wm, ⟨xs.length, rfl, Nat.zero_le _, W1, st1, [], [], [], ⟨Up.refl.new hD, F.sr.pendO hD _, upd_same, keysNil, .nil, List.nodup_nil, (fun _ m => by cases m), (new_no F.sr hD).1⟩, hr⟩, ?_⟩
  rintro i m H ⟨rfl, hi, W', st', acc, es, A, L, hrun⟩
  have stS : S H := wk.up W' H L.up
  by_cases hlt : i < xs.length
  · refine .inr ⟨wk.go i H stS hlt, fun H' => Wm (i + 1) (xs.length - (i + 1)) H', fun H' h => ⟨_, by omega, h⟩, fun x H' hy => ?_⟩
    rw [List.drop_eq_getElem_cons hlt] at hrun
    obtain ⟨env', b, sa, ea, et, er⟩ := dcF_cons hrun
    have item : DcAt X.K X.w W1 H1 D W' H' st' acc es A ∧ RVr X.K X.w (W'.pend D) H' xs[i] x [] := by
      rcases wk.yld i H x H' xs[i] stS (List.getElem?_eq_getElem hlt) hy with ⟨rfl, r⟩ | ⟨p, ps, us, hp, rfl, rfl, ey, rp⟩
      · exact ⟨L, r.keep (pend_in L.up F.sr hD) fun _ m => by cases m⟩
      · refine ⟨⟨L.up.new hp, L.sr.new hp, ?_, L.ko, L.rv.keep ((Up.refl.new hp).keepR L.sr) fun a m => ?_, L.nd, L.no, L.nb⟩, ?_⟩
        · rw [upd_ne (ne_of_none L.at_ hp)]
          exact L.at_
        · obtain ⟨o, e⟩ := L.rv.dom a m
          rw [upd_ne (ne_of_none e hp)]
        · rw [ey]
          have kk := pend_in (K := X.K) (L.up.new (o := .tup us) hp) F.sr hD
          exact .dat (.tup (SqT.of upd_same) (rp.keep kk.k))
    obtain ⟨L, rx⟩ := item
    have er0 := ew.pend L.up F.sr hD
    refine asgT_ok ea er0 rx fun σ2 ⟨⟨A2, e2⟩, hl2, h2⟩ => ⟨?_, ?_⟩
    · rw [← wipe_wipe σ own]
      exact wipe_same (by rw [hl2]) fun j hj => h2 j fun m => hj (hown j m)
    refine ⟨W'.pend D, env', st', ⟨L.sr, A2, e2⟩, ?_⟩
    rw [et]
    intro W3 H3 u3 s3
    obtain ⟨V, rfl, L3, eP3⟩ := L.next u3 s3
    have F3 : FR X.K X.w (V.pend D) H3 env' sa σ2 := FR.up ⟨L.sr, A2, e2⟩ u3 s3
    rcases er with ⟨rfl, er⟩ | ⟨kv, sb, kd, y, sc, y', rfl, ek, evk, evv, ey, hk, hnew, hlim, er⟩
    · rw [if_neg Bool.false_ne_true]
      exact ⟨rfl, hlt, V, _, acc, es, A, L3, er⟩
    · rw [if_pos rfl]
      refine ⟨V.pend D, env', sa, F3, ?_⟩
      rw [ek]
      intro W4 H4 uk Ak u4 s4 r4 f4
      obtain ⟨V4, rfl, L4, eP4⟩ := L3.next u4 s4
      have rk := vw_rep s4 r4 evk
      have F4 : FR X.K X.w (V4.pend D) H4 env' sb σ2 := F3.up u4 s4
      refine ⟨V4.pend D, env', sb, F4, ?_⟩
      rw [evv]
      intro W5 H5 uv Av u5 s5 r5 f5
      obtain ⟨V5, rfl, L5, eP5⟩ := L4.next u5 s5
      have ry := elem_ok r5 ey
      have gk := (keyOk_all hk).1
      obtain ⟨ke, eke, _⟩ := keyG_key gk
      have rk5 : Rep X.K X.w (fun _ => True) H5 kd uk := rk.keepN (u5.tup s4) (keyD_noL eke)
      have hPD : (V5.pend D).P D := .inr rfl
      refine ⟨kusOf acc es, es, kd, fun _ => True, L5.at_, by rw [L5.rv.keys.1]; exact L5.ko, L5.rv.ve, keyOk_map hk L5.rv.keys.1, ?_, rk5, fun r es' rr ve' ko' => ?_⟩
      · have := congrArg List.length L5.rv.keys.1
        rw [List.length_map, List.length_map] at this
        rw [this, ← lim_eq]
        exact hlim
      have hcond : Av = [] ∨ (acc.any fun p => sameKey p.1 kd) = false := hnew.imp (isDat_nil ry) id
      obtain ⟨A', q1, q2⟩ := lay_entry eke ry rr L5.rv hcond ve'
      have kp := keepO (K := X.K) L5.sr hPD L5.nb L5.at_ soft_raw (rawO D es')
      have nAv : ∀ a ∈ Av, a ≠ D := fun a m z => by
        have := (f5.no a m).2.2
        rw [z, L4.at_] at this
        cases this
      have nA' : ∀ a ∈ A', a ≠ D ∧ (a ∈ A ∨ a ∈ Av) := fun a m => by
        rcases List.mem_append.mp (q2.subset m) with z | z
        · exact ⟨(L5.no a z).2.2.2.1, .inl z⟩
        · exact ⟨nAv a z, .inr z⟩
      refine ⟨rfl, hlt, V5, sc, putK acc kd y', es', A', ⟨?_, L5.sr.accO hPD L5.nb L5.at_ soft_raw _, upd_same, L5.ko.put gk, q1.keep kp fun a m => upd_ne (nA' a m).1, ?_, fun a m => ?_, L5.nb⟩, er⟩
      · have u' := L5.up
        have ne : ∀ {a o}, H1 a = some o → a ≠ D := fun e => ne_of_none e hD
        exact ⟨u'.F, u'.O, u'.P, u'.β, fun a o e n => by rw [upd_ne (ne e)]; exact u'.ext a o e n, fun a o e => by rw [upd_ne (ne e)]; exact u'.dom a o e, u'.Fn, u'.βn⟩
      · refine q2.nodup (List.nodup_append.mpr ⟨L5.nd, f5.nd, fun a ha b hb e => ?_⟩)
        subst e
        obtain ⟨o, eo⟩ := L4.rv.dom a ha
        rw [(f5.no a hb).2.2] at eo
        cases eo
      · rcases (nA' a m).2 with z | z
        · exact L5.no a z
        · obtain ⟨n1, n2, n3⟩ := f5.no a z
          exact ⟨n1, n2, L4.up.gone n3, nAv a z, fun q => f5.np a z (.inl q)⟩
  · have e : i = xs.length := by omega
    subst e
    refine .inl ⟨wk.stop _ H stS (Nat.le_refl _), ?_⟩
    rw [List.drop_length] at hrun
    have hrest : acc = ds ∧ st' = stE := by
      have h' : (.ok acc st' : R (List (PyData × RV))) = .ok ds stE := hrun
      cases h'
      exact ⟨rfl, rfl⟩
    obtain ⟨rfl, rfl⟩ := hrest
    refine fin W' H (.ref D) (D :: A) L.up L.sr.unpend (.odi L.at_ L.ko (L.rv.keep (pend_out (K := X.K)) fun _ _ => rfl)) ⟨List.nodup_cons.mpr ⟨fun m => (L.no D m).2.2.2.1 rfl, L.nd⟩, fun a m => ?_, fun a m => ?_⟩
    · rcases List.mem_cons.mp m with rfl | m
      · exact ⟨(L.sr.pf a (.inr rfl)).1, L.nb, hD⟩
      · exact ⟨(L.no a m).1, (L.no a m).2.1, (L.no a m).2.2.1⟩
    · rcases List.mem_cons.mp m with rfl | m
      · intro z
        rw [L.up.P] at z
        exact F.sr.npP hD z
      · exact (L.no a m).2.2.2.2
end
end Z

set_option linter.all false
set_option maxRecDepth 100000
set_option maxHeartbeats 1000000
/-! Z51: dict comprehensions, as expressions. -/
namespace Z
open PySem PySem.Spec PyProof.Rows L2
section
variable {X : Cx} {xr : XR} {E : L2.St → XW} {ev : Expr → Ev → Sto → R RV}
theorem dc_good {N : List Str} {k v tg : Expr} {ifs : List Expr} {sc : Scope} {W : Wd} {H : Hp} {st : Sto} {env : Ev} {σ : L2.St} {Q : VK} {r : R (List RV)} (F : FR X.K X.w W H env st σ) (hown : ∀ j ∈ tgIx N tg, j ∈ ownIx N sc)
    (h : Good X.K X.w xr (r.bind fun xs st => (noExc (dcF N ev tg ifs k v (wipeE env (ownIx N sc)) xs [] st)).bind fun kvs st => .ok (.odi kvs) st) W H (E σ) Q) :
    GoodI X.K X.w xr false r W H (E σ) fun J H1 => ∀ D, H1 D = none → ∃ Wm : Nat → Nat → Hp → Prop, (∃ m, Wm 0 m (upd H1 D (rawO D []))) ∧
      DcW X.K X.w (gOf N X.K tg) (tT X.K X.w xr E0 (tests ev ifs)) (tEv X.K X.w xr E0 (ev k)) (tEv X.K X.w xr E0 (ev v)) (ownIx N sc) σ Q J D Wm := by
  cases r with
  | err => exact h
  | exc c xs st' => exact h
  | ok xs st1 =>
    intro W1 H1 J u1 s1 wk
    have h1 : Good X.K X.w xr ((noExc (dcF N ev tg ifs k v (wipeE env (ownIx N sc)) xs [] st1)).bind fun kvs st => .ok (.odi kvs) st) W H (E σ) Q := h
    cases e : dcF N ev tg ifs k v (wipeE env (ownIx N sc)) xs [] st1 with
    | err => rw [e] at h1; exact h1.elim
    | exc c ys st' => rw [e] at h1; exact h1.elim
    | ok ds stE =>
      rw [e] at h1
      exact dc_ok (F.up u1 s1) wk hown e fun W' H' v A u s r f => h1 W' H' v A (u1.trans u) s r (f.from u1)
theorem pe_dcomp {k v tg iter : Expr} {ifs : List Expr} {sc : Scope} {pos : Pos} (hu : X.A.units + 9 < cLine) (hc : X.calm = true) (hN : X.N.Nodup) (hi : PI X tg iter (tI X.K X.w xr false E (evI ev false iter))) (ok : BlkOk X.N X.env.scope sc (ownL X.N sc)) (hown : ∀ j ∈ tgIx X.N tg, j ∈ ownIx X.N sc) (hl : ifs.length ≤ 1)
    (hg : ∀ s H fp, PG (X.blk s H sc (bEnv X s sc) fp) tg (gOf X.N X.K tg)) (ht : ∀ s H fp, ∀ c ∈ ifs, PT (X.blk s H sc (bEnv X s sc) fp) c (tT X.K X.w xr E0 (evT ev c)))
    (hk : ∀ s H fp, PE (X.blk s H sc (bEnv X s sc) fp) k (tEv X.K X.w xr E0 (ev k))) (hv : ∀ s H fp, PE (X.blk s H sc (bEnv X s sc) fp) v (tEv X.K X.w xr E0 (ev v))) (hs : ∀ x, foldedSetIterable iter X.env x = pure x) :
    PE X (.DictComp k v [⟨tg, iter, ifs, 0⟩] sc pos) (tEv X.K X.w xr E fun env st => dcTop X.N ev k v [⟨tg, iter, ifs, 0⟩] sc env st) := by
  refine PE.imp (pe_dr (tt := tT X.K X.w xr E0 (tests ev ifs)) hu hc hN hi ok hg (fun s H fp => tests_ok (X' := X.blk s H sc (bEnv X s sc) fp) hl (ht s H fp)) hk hv hs) fun σ H Q ⟨W, env, st, F, h⟩ => ⟨W, env, st, F, ?_⟩
  have := dc_good (ev := ev) (tg := tg) (ifs := ifs) (r := evI ev false iter env st) F hown h
  rw [← ownL_ix] at this
  exact this
end
end Z

set_option linter.all false
set_option maxRecDepth 100000
set_option maxHeartbeats 1000000
/-! Z52: what is seen of a text ahead of its run. -/
namespace Z
open PySem PySem.Spec PyProof.Rows L2
/-! ### names in a scope -/
def visB (sc : Scope) (x : Str) : Bool := match sc.names.lookup x with
  | some .local => true
  | some .cell => true
  | some .free => true
  | _ => false
def glB (sc : Scope) (x : Str) : Bool := match sc.names.lookup x with
  | some .globalImplicit => true
  | _ => false
def nmB (x : Str) : Bool := !(x == ("__debug__" : Str)) && !(x == ("__classdict__" : Str))
theorem visB_ok {sc : Scope} {x : Str} (h : visB sc x = true) : Vis sc x := by
  unfold visB at h
  split at h
  · rename_i e; exact .inl e
  · rename_i e; exact .inr (.inl e)
  · rename_i e; exact .inr (.inr e)
  · cases h
theorem glB_ok {X : Cx} {sc : Scope} {x : Str} (hs : X.env.scope = sc) (h : glB sc x = true) : Gl X x := by
  unfold glB at h
  split at h
  · rename_i e
    show X.env.scope.names.lookup x = some .globalImplicit
    rw [hs]
    exact e
  · cases h
theorem nmB_ok {x : Str} (h : nmB x = true) : (x == ("__debug__" : Str)) = false ∧ (x == ("__classdict__" : Str)) = false := by
  unfold nmB at h
  rw [Bool.and_eq_true, Bool.not_eq_true', Bool.not_eq_true'] at h
  exact h
/-! ### arguments -/
theorem star_all {env : Env} : ∀ {es : List Expr}, (∀ e ∈ es, unstar e = true) → starEach es env = es.map fun e => (false, eval e env)
  | [], _ => rfl
  | e :: es, h => by
    rw [star_cons (h e List.mem_cons_self), star_all fun x m => h x (List.mem_cons_of_mem _ m)]
    rfl
theorem back_plain {env : Env} {pos : Pos} {es : List Expr} (h : ∀ e ∈ es, unstar e = true) : (backTo pos (starEach es env)).any (·.1) = false := by
  rw [star_all h]
  unfold backTo
  rw [List.map_map, List.any_map]
  induction es with
  | nil => rfl
  | cons e es ih => exact ih fun x m => h x (List.mem_cons_of_mem _ m)
theorem back_all {env : Env} {pos : Pos} {es : List Expr} (h : ∀ e ∈ es, unstar e = true) : (backTo pos (starEach es env)).all (fun x => !x.1) = true := by
  rw [star_all h]
  unfold backTo
  rw [List.map_map, List.all_map]
  induction es with
  | nil => rfl
  | cons e es ih => exact ih fun x m => h x (List.mem_cons_of_mem _ m)
theorem kw_cons {nm : Option Str} {v : Expr} {p : Pos} {r : List Keyword} {env : Env} : keywordEach (⟨nm, v, p⟩ :: r) env = (nm, eval v env) :: keywordEach r env := by rw [keywordEach]
theorem kw_nil {env : Env} : keywordEach [] env = [] := by rw [keywordEach]
theorem kw_some {env : Env} {pos : Pos} : ∀ {ks : List Keyword} {ns : List Str}, kwNames ks = some ns → (backToKw pos (keywordEach ks env)).all (·.1.isSome) = true ∧ (backToKw pos (keywordEach ks env)).filterMap (·.1) = ns ∧ (backToKw pos (keywordEach ks env)).any (·.1.isNone) = false
  | [], ns, h => by
    cases h
    rw [kw_nil]
    exact ⟨rfl, rfl, rfl⟩
  | ⟨some n, v, p⟩ :: r, ns, h => by
    rw [kwNames] at h
    obtain ⟨ms, h1, rfl⟩ := Option.map_eq_some_iff.mp h
    obtain ⟨a, b, c⟩ := kw_some (env := env) (pos := pos) h1
    rw [kw_cons]
    refine ⟨?_, ?_, ?_⟩
    · exact a
    · show n :: (backToKw pos (keywordEach r env)).filterMap (·.1) = n :: ms
      rw [b]
    · exact c
  | ⟨none, v, p⟩ :: r, ns, h => by cases h
/-! ### blocks -/
def blkC (N : List Str) (sc scope : Scope) : Bool := decide (scope.kind = .function) && scope.names.all (fun y => decide (scope.names.lookup y.1 = some y.2)) &&
  scope.names.all (fun y => match y.2 with
    | .free => match sc.names.lookup y.1 with
      | some .cell => true
      | some .free => true
      | _ => false
    | _ => true)
theorem ownL_mem {N : List Str} {scope : Scope} {p : Str × Nat} (h : p ∈ ownL N scope) : ix N p.1 = some p.2 := by
  unfold ownL at h
  obtain ⟨y, hy, e⟩ := List.mem_filterMap.mp h
  cases q : y.2 with
  | «local» =>
    rw [q] at e
    obtain ⟨i, e1, rfl⟩ := Option.map_eq_some_iff.mp e
    exact e1
  | cell =>
    rw [q] at e
    obtain ⟨i, e1, rfl⟩ := Option.map_eq_some_iff.mp e
    exact e1
  | _ => rw [q] at e; cases e
theorem ixFrom_none {N : List Str} {x : Str} : ∀ {k : Nat}, ixFrom N x k = none → x ∉ N := by
  induction N with
  | nil => intro k _ m; cases m
  | cons n r ih =>
    intro k h m
    unfold ixFrom at h
    split at h
    · cases h
    · rename_i hn
      rcases List.mem_cons.mp m with e | m
      · refine hn ?_
        rw [seq_beq, e]
        simp
      · exact ih h m
theorem blkC_ok {N : List Str} {sc scope : Scope} (h : blkC N sc scope = true) : BlkOk N sc scope (ownL N scope) := by
  unfold blkC at h
  rw [Bool.and_eq_true, Bool.and_eq_true] at h
  obtain ⟨⟨h1, h2⟩, h3⟩ := h
  rw [List.all_eq_true] at h2 h3
  refine ⟨of_decide_eq_true h1, fun y m => of_decide_eq_true (h2 y m), fun p m => ix_at (ownL_mem m), fun y m e => ?_, fun y m e => ?_⟩
  · have := h3 y m
    rw [e] at this
    dsimp only at this
    split at this
    · rename_i q; exact .inl q
    · rename_i q; exact .inr q
    · cases this
  · cases q : ix N y.1 with
    | none => exact .inr (ixFrom_none q)
    | some i =>
      left
      refine List.mem_map.mpr ⟨(y.1, i), ?_, rfl⟩
      unfold ownL
      refine List.mem_filterMap.mpr ⟨y, m, ?_⟩
      rcases e with e | e <;> rw [e] <;> dsimp only <;> rw [q] <;> rfl
/-! ### targets, where they may be stored -/
section
variable {X : Cx} {sc : Scope}
theorem pgs_of' (hN : X.N.Nodup) (hl : ∀ x, locB sc true x = true → Loc X.env.scope x ∧ (X.fn x = true ∨ X.env.scope.names.lookup x = some .local)) : ∀ {es : List Expr}, tgsC X.N sc es = true → PGs X es (gsOf X.N es) ∧ (assignEach es X.env).findIdx? (·.1) = none
  | [], _ => ⟨pgs_nil, rfl⟩
  | .Name x p :: r, h => by
    rw [tgsC, Bool.and_eq_true, Bool.and_eq_true] at h
    obtain ⟨⟨h1, h2⟩, h3⟩ := h
    obtain ⟨i, e⟩ := Option.isSome_iff_exists.mp h1
    obtain ⟨l1, l2⟩ := hl x h2
    obtain ⟨g1, g2⟩ := pgs_of' hN hl h3
    refine ⟨?_, ?_⟩
    · rw [gsOf, e]
      exact pgs_cons (pg_name hN (ix_at e) l1 l2) g1
    · rw [assign_cons, List.findIdx?_cons, g2]
      rfl
theorem pg_of' (hc : X.calm = true) (hN : X.N.Nodup) (hl : ∀ x, locB sc true x = true → Loc X.env.scope x ∧ (X.fn x = true ∨ X.env.scope.names.lookup x = some .local)) : ∀ {t : Expr}, tgC X.N sc t = true → PG X t (gOf X.N X.K t) := by
  intro t h
  cases t with
  | Name x p =>
    rw [tgC, Bool.and_eq_true] at h
    obtain ⟨i, e⟩ := Option.isSome_iff_exists.mp h.1
    obtain ⟨l1, l2⟩ := hl x h.2
    rw [gOf, e]
    exact pg_name hN (ix_at e) l1 l2
  | Tuple es k p =>
    obtain ⟨h1, h2⟩ := pgs_of' hN hl h
    exact pg_tup hc h1 (assign_len es X.env) h2
  | _ => cases h
end
theorem lookup_rel {env : Env} {x : Str} {k : NameKind} (hk : k = .local ∨ k = .cell) : ∀ {names : List (Str × NameKind)}, names.lookup x = some k →
    (names.map fun (n, k) => if (k == NameKind.free && env.scope.kind == .function && env.kindOf n == some .cell) then (n, NameKind.cell) else (n, k)).lookup x = some k
  | [], h => by simp at h
  | (n, k') :: r, h => by
    rw [List.lookup_cons] at h
    rw [List.map_cons]
    cases hb : x == n with
    | true =>
      rw [hb] at h
      cases h
      have : (k == NameKind.free) = false := by rcases hk with rfl | rfl <;> rfl
      dsimp only
      rw [this, Bool.false_and, Bool.false_and, if_neg Bool.false_ne_true, List.lookup_cons, hb]
    | false =>
      rw [hb] at h
      have ih := lookup_rel (env := env) hk h
      rw [← ih]
      dsimp only
      split <;> rw [List.lookup_cons, hb]
/-- a block's targets -/
theorem pg_blk {X : Cx} {s : Shared} {H : Hp} {C : Addr} {cl : List (Str × Addr)} {fp : List Addr} {sc' : Scope} (hc : X.calm = true) (hN : X.N.Nodup) {t : Expr} (h : tgC X.N sc' t = true) : PG (X.blk s H sc' (compEnvC sc' cl C X.env) fp) t (gOf X.N X.K t) := by
  refine pg_of' (X := X.blk s H sc' (compEnvC sc' cl C X.env) fp) (sc := sc') hc hN (fun x hx => ?_) h
  unfold locB at hx
  split at hx
  · rename_i e
    have := lookup_rel (env := X.env) (.inl rfl) e
    exact ⟨.inl this, .inr this⟩
  · rename_i e
    have := lookup_rel (env := X.env) (.inr rfl) e
    refine ⟨.inr this, .inl ?_⟩
    show (sc'.names.lookup x == some .cell) = true
    rw [e]
    rfl
  · cases hx
/-! ### IfExp as a test -/
theorem pt_if' {X : Cx} {xr : XR} {E : L2.St → XW} {ev : Expr → Ev → Sto → R RV} {c a b : Expr} {pos : Pos} (hc : PT X c (tT X.K X.w xr E (evT ev c))) (ha : PT X a (tT X.K X.w xr E (evT ev a))) (hb : PT X b (tT X.K X.w xr E (evT ev b))) :
    PT X (.IfExp c a b pos) (tT X.K X.w xr E fun env st => ((evT ev c env st).bind fun t st => if t then ev a env st else ev b env st).bind truthOf) := by
  refine ⟨fun pins s σ H Q I ⟨W, env, st, F, q⟩ => ?_⟩
  have q' : GoodB X.K X.w xr ((evT ev c env st).bind fun t st => if t then evT ev a env st else evT ev b env st) W H (E σ) Q := by
    have q := (show GoodB X.K X.w xr (((evT ev c env st).bind fun t st => if t then ev a env st else ev b env st).bind truthOf) W H (E σ) Q from q)
    rw [R.bind_assoc] at q
    have e : (fun (t : Bool) st => (if t then ev a env st else ev b env st).bind truthOf) = fun t st => if t then evT ev a env st else evT ev b env st := by
      funext t st
      cases t <;> rfl
    rw [← e]
    exact q
  have h1 := hc.run pins s σ H (fun t H1 => if t then tT X.K X.w xr E (evT ev a) σ H1 Q else tT X.K X.w xr E (evT ev b) σ H1 Q) I ⟨W, env, st, F, GoodB.thenB q' Up.refl fun t st2 W2 H2 q2 u2 s2 => by
    cases t with
    | true => exact ⟨W2, env, st2, F.up u2 s2, GoodB.shift q2 u2⟩
    | false => exact ⟨W2, env, st2, F.up u2 s2, GoodB.shift q2 u2⟩⟩
  rw [PySem.isTrue]
  refine wpAny_bind (wpAny_mono h1 (fun t s1 ⟨H1, I1, q1⟩ => ?_) fun _ _ z => z)
  cases t with
  | true => exact ha.run pins s1 σ H1 Q I1 q1
  | false => exact hb.run pins s1 σ H1 Q I1 q1
end Z

set_option linter.all false
set_option maxRecDepth 100000
set_option maxHeartbeats 1000000
/-! Z53: the static look at expressions. -/
namespace Z
open PySem PySem.Spec PyProof.Rows L2
/-! ### built-ins by name -/
def blNames : List Str := ["len", "all", "any", "tuple", "list", "int", "abs", "sum", "max", "min", "isinstance", "range", "enumerate", "zip", "bool", "str", "dict"]
def blVal : List (Str × Value) := [("len", .builtin "len"), ("all", .builtin "all"), ("any", .builtin "any"), ("tuple", .type "tuple"), ("list", .type "list"), ("int", .type "int"), ("abs", .builtin "abs"), ("sum", .builtin "sum"), ("max", .builtin "max"), ("min", .builtin "min"),
  ("isinstance", .builtin "isinstance"), ("range", .type "range"), ("enumerate", .type "enumerate"), ("zip", .type "zip"), ("bool", .type "bool"), ("str", .type "str"), ("dict", .type "dict")]
theorem blBoot : ∀ p ∈ blVal, bootBuiltins p.1 = some p.2 ∧ p.1 ≠ "__name__" ∧ (p.1 == ("__debug__" : Str)) = false ∧ p.1 ∈ blNames := by
  intro p m
  simp only [blVal, List.mem_cons, List.not_mem_nil, or_false] at m
  rcases m with rfl | rfl | rfl | rfl | rfl | rfl | rfl | rfl | rfl | rfl | rfl | rfl | rfl | rfl | rfl | rfl | rfl <;> exact ⟨by rfl, by decide, by decide, by decide⟩
/-- a context in which a text is read -/
structure XOk (cf : Cfg) (C : Str → List RV → Sto → R RV) (N : List Str) (xr : XR) (X : Cx) (sc : Scope) : Prop where
  hN : X.N = N
  nd : N.Nodup
  hs : X.env.scope = sc
  calm : X.calm = true
  un : X.A.units + 66 < cLine
  defs : ∀ f ps, cf.ps f = some ps → DefX X xr C f ps
  bm : ∀ x ∈ blNames, X.mg x = none
section
variable {cf : Cfg} {C : Str → List RV → Sto → R RV} {N : List Str} {xr : XR} {X : Cx} {sc : Scope}
theorem XOk.bl (O : XOk cf C N xr X sc) {x : Str} {u : Value} (h : (x, u) ∈ blVal) (g : glB sc x = true) : Bl X x u := by
  obtain ⟨a, b, c, d⟩ := blBoot _ h
  exact ⟨glB_ok O.hs g, O.bm x d, a, b, c⟩
/-- a block within -/
theorem XOk.blk (O : XOk cf C N xr X sc) {s : Shared} {H : Hp} {K : Addr} {cl : List (Str × Addr)} {fp : List Addr} {sc' : Scope} : XOk cf C N xr (X.blk s H sc' (compEnvC sc' cl K X.env) fp) (relS sc' sc) :=
  ⟨O.hN, O.nd, by rw [← O.hs]; rfl, O.calm, O.un, fun f ps h => ⟨(O.defs f ps h).ex, (O.defs f ps h).db⟩, O.bm⟩
end
theorem pass_blk {X : Cx} {s : Shared} {H : Hp} {env : Env} {fp : List Addr} {sc' : Scope} : ∀ σ, PassesAt (L2.CX (X.blk s H sc' env fp).prog (X.blk s H sc' env fp).w) (X.blk s H sc' env fp) σ (E0 σ) := fun σ pins H s e s' I c => by
  obtain ⟨_, _, _, _, _, _, _, _, _, _, _, _, z⟩ := c
  exact z.elim
/-! ### the look -/
def isTy (f : Str) : Bool := seq' f "list" || seq' f "tuple" || seq' f "int" || seq' f "bool" || seq' f "str" || seq' f "dict"
def isTup : Expr → Bool
  | .Tuple _ _ _ => true
  | _ => false
def isSet : Expr → Bool
  | .Set _ _ _ => true
  | _ => false
def baseB : Expr → Bool
  | .Call (.Name _ _) [] [] _ => false
  | _ => true
section
variable (wf : Expr → Bool) (sc : Scope)
def wfTs : List Expr → Bool
  | [] => true
  | .Name T _ :: r => glB sc T && isTy T && wfTs r
  | _ :: _ => false
def wfIs (b : Expr) : Bool := match b with
  | .Name T _ => glB sc T && isTy T
  | .Tuple es _ _ => wfTs sc es && decide (es.length ≤ 100)
  | _ => false
def wfB (f : Str) (as : List Expr) : Bool := match as with
  | [] => true
  | [a] => if seq' f "len" then glB sc f && (wf a && unstar a)
    else match a with
      | .Call (.Name g _) [b] [] _ => if seq' f "list" && seq' g "range" then glB sc f && glB sc g && (wf b && unstar b) else if isB1 f then glB sc f && (wf a && unstar a) else true
      | a => if isB1 f then glB sc f && (wf a && unstar a) else true
  | [a, b] => if seq' f "isinstance" then glB sc f && (wf a && unstar a) && wfIs sc b else if isB2 f then glB sc f && (wf a && unstar a) && (wf b && unstar b) else true
  | _ => true
def wfI (tg : Expr) (e : Expr) : Bool := !isSet e && match e with
  | .Call (.Name f p) [a] [] q =>
    if seq' f "range" then glB sc f && (wf a && unstar a)
    else if seq' f "enumerate" then glB sc f && (wf a && unstar a) && isTup tg
    else wf (.Call (.Name f p) [a] [] q)
  | .Call (.Name f p) [a, b] [] q =>
    if seq' f "range" then glB sc f && (wf a && unstar a) && (wf b && unstar b)
    else if seq' f "zip" then glB sc f && (wf a && unstar a) && (wf b && unstar b) && isTup tg
    else wf (.Call (.Name f p) [a, b] [] q)
  | e => wf e
def wfO : Option Expr → Bool
  | none => true
  | some e => wf e
end
/-- a block's look; wf2: within -/
def wfC (N : List Str) (wf wf2 : Expr → Bool) (sc : Scope) (es : List Expr) (gs : List Comprehension) (sc' : Scope) : Bool := match gs with
  | [] => true
  | [⟨tg, it, ifs, a⟩] => decide (a = 0) && wfI wf sc tg it && blkC N sc sc' && (tgIx N tg).all (fun j => (ownIx N sc').contains j) && decide (ifs.length ≤ 1) && tgC N sc' tg && ifs.all wf2 && es.all wf2
  | _ => false
def wfE (cf : Cfg) (N : List Str) : Nat → Scope → Expr → Bool
  | 0, _, _ => true
  | n + 1, sc, e => match e with
    | .Name x _ => match ix N x with
      | some _ => visB sc x && nmB x
      | none => (cf.glob x).isNone
    | .Constant _ _ _ => true
    | .Tuple es _ _ => es.all (wfE cf N n sc) && es.all unstar && decide (es.length ≤ 1000)
    | .List es _ => es.all (wfE cf N n sc) && es.all unstar && decide (es.length ≤ 1000)
    | .Dict ks vs _ => ks.all (·.isSome) && decide (ks.length = vs.length) && decide (ks.length ≤ 15) && ks.all (wfO (wfE cf N n sc)) && vs.all (wfE cf N n sc)
    | .BinOp a _ b _ => wfE cf N n sc a && wfE cf N n sc b
    | .UnaryOp _ a _ => wfE cf N n sc a
    | .BoolOp _ es _ => !es.isEmpty && es.all (wfE cf N n sc)
    | .Compare a ops bs _ => match ops, bs with
      | [op], [b] => wfE cf N n sc a && wfE cf N n sc b && !behindInMarks op b
      | [op, op'], [b, c] => wfE cf N n sc a && wfE cf N n sc b && wfE cf N n sc c && !lastMarks [op, op'] [b, c]
      | _, _ => true
    | .IfExp t a b _ => wfE cf N n sc t && wfE cf N n sc a && wfE cf N n sc b
    | .Call (.Name f _) as ks _ => match ix N f with
      | some _ => true
      | none => match cf.ps f with
        | some ps => match ks with
          | [] => glB sc f && as.all (wfE cf N n sc) && as.all unstar
          | ks => match as, kwNames ks with
            | [], some ns => glB sc f && (kwExprs ks).all (wfE cf N n sc) && decide ns.Nodup && ns.all (fun x => ps.contains x)
            | _, _ => true
        | none => match ks with
          | [] => wfB (wfE cf N n sc) sc f as
          | _ => true
    | .Call (.Attribute o m apos) as [] cpos => match as, methT m with
      | e :: es, some _ => wfE cf N n sc o && (e :: es).all (wfE cf N n sc) && (e :: es).all unstar && baseB o && decide (apos.endLine = cpos.line) && decide (es.length < 29)
      | _, _ => true
    | .Subscript o i _ => match i with
      | .Slice lo hi none _ => wfE cf N n sc o && wfO (wfE cf N n sc) lo && wfO (wfE cf N n sc) hi
      | .Slice none none (some s) _ => if negOne s then wfE cf N n sc o else true
      | .Slice _ _ _ _ => true
      | i => wfE cf N n sc o && wfE cf N n sc i
    | .ListComp elt gs sc' _ => wfC N (wfE cf N n sc) (wfE cf N n (relS sc' sc)) sc [elt] gs sc'
    | .DictComp k v gs sc' _ => wfC N (wfE cf N n sc) (wfE cf N n (relS sc' sc)) sc [k, v] gs sc'
    | _ => true
end Z

set_option linter.all false
set_option maxRecDepth 100000
set_option maxHeartbeats 1000000
/-! Z54: built-ins, walks and comprehensions, by the look. -/
namespace Z
open PySem PySem.Spec PyProof.Rows L2
theorem and2 {a b : Bool} (h : (a && b) = true) : a = true ∧ b = true := by rwa [Bool.and_eq_true] at h
section
variable {cf : Cfg} {C : Str → List RV → Sto → R RV} {N : List Str} {xr : XR} {X : Cx} {sc : Scope} {E : L2.St → XW} {ev : Expr → Ev → Sto → R RV} {wf : Expr → Bool}
theorem pe_err {e : Expr} : PE X e (tEv X.K X.w xr E fun _ _ => .err) := ⟨fun _ _ _ _ _ _ ⟨_, _, _, _, h⟩ => h.elim⟩
theorem blt1V_eq {f : Str} (h : seq' f "list" = false) : (fun v st => blt1V f v st) = fB1 f := by
  funext v st
  cases v with
  | scr ns =>
    show (if seq' f "list" then _ else _) = _
    rw [h]
    rfl
  | _ => rfl
/-- a built-in of one thing -/
theorem pe_one1 (O : XOk cf C N xr X sc) {f : Str} {a : Expr} {p pos : Pos} (hf : isB1 f = true) (hg : glB sc f = true) (ha : PE X a (tEv X.K X.w xr E (ev a))) (hu : unstar a = true) :
    PE X (.Call (.Name f p) [a] [] pos) (tEv X.K X.w xr E fun env st => (ev a env st).bind fun v st => blt1V f v st) := by
  unfold isB1 at hf
  simp only [Bool.or_eq_true] at hf
  rcases hf with ((((((hf | hf) | hf) | hf) | hf) | hf) | hf) | hf <;> obtain rfl := seq_eq hf
  · rw [blt1V_eq (by decide)]; exact pe_b1 (O.bl (u := .builtin "all") (by simp [blVal]) hg) (all_ok O.calm) ha hu
  · rw [blt1V_eq (by decide)]; exact pe_b1 (O.bl (u := .builtin "any") (by simp [blVal]) hg) (any_ok O.calm) ha hu
  · rw [blt1V_eq (by decide)]; exact pe_t1 (O.bl (u := .type "tuple") (by simp [blVal]) hg) tuple_ok ha hu
  · rw [blt1V_eq (by decide)]; exact pe_t1 (O.bl (u := .type "int") (by simp [blVal]) hg) int_ok ha hu
  · rw [blt1V_eq (by decide)]; exact pe_b1 (O.bl (u := .builtin "abs") (by simp [blVal]) hg) abs_ok ha hu
  · rw [blt1V_eq (by decide)]; exact pe_b1 (O.bl (u := .builtin "sum") (by simp [blVal]) hg) (sum_ok O.calm) ha hu
  · rw [blt1V_eq (by decide)]; exact pe_b1 (O.bl (u := .builtin "max") (by simp [blVal]) hg) (max_ok O.calm) ha hu
  · exact pe_t1 (O.bl (u := .type "list") (by simp [blVal]) hg) list_ok ha hu
theorem ty_of {T : Str} (h : isTy T = true) : ∃ t, T = Str.ofString t ∧ t ∈ tyNames ∧ (T, Value.type t) ∈ blVal := by
  unfold isTy at h
  simp only [Bool.or_eq_true] at h
  rcases h with ((((h | h) | h) | h) | h) | h <;> obtain rfl := seq_eq h
  · exact ⟨"list", rfl, by decide, by simp [blVal]⟩
  · exact ⟨"tuple", rfl, by decide, by simp [blVal]⟩
  · exact ⟨"int", rfl, by decide, by simp [blVal]⟩
  · exact ⟨"bool", rfl, by decide, by simp [blVal]⟩
  · exact ⟨"str", rfl, by decide, by simp [blVal]⟩
  · exact ⟨"dict", rfl, by decide, by simp [blVal]⟩
theorem R.bind_congr {α β : Type} {r : R α} {f g : α → Sto → R β} (h : ∀ a st, f a st = g a st) : r.bind f = r.bind g := by
  cases r with
  | ok a st => exact h a st
  | exc => rfl
  | err => rfl
/-- the names of types, as they are looked up -/
inductive TyEs (X : Cx) : List Expr → List String → Prop where
  | nil : TyEs X [] []
  | cons {t : String} {p : Pos} {es : List Expr} {ts : List String} : Bl X (Str.ofString t) (.type t) → t ∈ tyNames → TyEs X es ts → TyEs X (.Name (Str.ofString t) p :: es) (t :: ts)
theorem tyEs_of (O : XOk cf C N xr X sc) : ∀ {es : List Expr}, wfTs sc es = true → ∃ ts, TyEs X es ts
  | [], _ => ⟨[], .nil⟩
  | .Name T p :: r, h => by
    rw [wfTs] at h
    obtain ⟨h, h3⟩ := and2 h
    obtain ⟨h1, h2⟩ := and2 h
    obtain ⟨t, rfl, k1, k2⟩ := ty_of h2
    obtain ⟨ts, hr⟩ := tyEs_of O h3
    exact ⟨t :: ts, .cons (O.bl k2 h1) k1 hr⟩
def tTys : List String → TA
  | [] => tNil
  | t :: r => tCons (tC (.ty t)) (tTys r)
theorem pa_tys : ∀ {es : List Expr} {ts : List String}, TyEs X es ts → PA X es (tTys ts)
  | _, _, .nil => pa_nil
  | _, _, .cons b _ h => pa_cons (pe_bltn (v := .ty _) b.gl b.mg b.bt rfl b.nn b.db) (pa_tys h) (star_cons rfl)
theorem tTys_ok : ∀ {ts : List String} {σ : L2.St} {H : Hp} {Q : List V → Hp → Prop}, Q (ts.map V.ty) H → tTys ts σ H Q
  | [], _, _, _, q => q
  | t :: r, σ, H, Q, q => tTys_ok (ts := r) (Q := fun xs H2 => Q (.ty t :: xs) H2) q
theorem TyEs.len {es : List Expr} {ts : List String} (h : TyEs X es ts) : es.length = ts.length := by
  induction h with
  | nil => rfl
  | cons _ _ _ ih => simp [ih]
theorem TyEs.mem {es : List Expr} {ts : List String} (h : TyEs X es ts) : ∀ t ∈ ts, t ∈ tyNames := by
  induction h with
  | nil => exact fun _ m => by cases m
  | cons _ ht _ ih => exact fun t m => (List.mem_cons.mp m).elim (fun e => e ▸ ht) (ih t)
theorem TyEs.have_ {es : List Expr} {ts : List String} (h : TyEs X es ts) (d : PyData) : typesHave es d = some (ts.any fun t => subT (tyN d) t) := by
  induction h with
  | nil => rfl
  | cons _ ht _ ih => rw [typesHave, typeHas_eq ht, ih]; rfl
theorem kit_all {K : PySem.W.Frag} (d : PyData) : ∀ {ts : List String}, (∀ t ∈ ts, t ∈ tyNames) → PySem.W.kitAny K (.type (tyN d)) (ts.map Value.type) = some (ts.any fun t => subT (tyN d) t)
  | [], _ => rfl
  | t :: r, h => by
    refine kitAny_cons (kit_ty (kit_tab _ (tyN_mem d) _ (h t List.mem_cons_self))) (fun e => ?_) fun e => ?_
    · rw [kit_all d fun x m => h x (List.mem_cons_of_mem _ m), List.any_cons, e]
      rfl
    · rw [List.any_cons, e]
      rfl
theorem cls_tys : ∀ ts : List String, Paired ClsV (ts.map V.ty) (ts.map Value.type)
  | [] => .nil
  | t :: r => .cons (.ty t) (cls_tys r)
def fIsiN (ts : List String) (v : RV) (st : Sto) : R RV := (ofO (kindOf st v) st).bind fun d st => .ok (.dat (.bool (ts.any fun t => subT (tyN d) t))) st
theorem pe_isiN {a : Expr} {es : List Expr} {ts : List String} {p pTT pos : Pos} {k : Nat} (b : Bl X "isinstance" (.builtin "isinstance")) (hT : TyEs X es ts) (hl : es.length ≤ 100) (ha : PE X a (tEv X.K X.w xr E (ev a))) (hu : unstar a = true) :
    PE X (.Call (.Name "isinstance" p) [a, .Tuple es k pTT] [] pos) (tEv X.K X.w xr E fun env st => (ev a env st).bind (fIsiN ts)) := by
  have hTT : PE X (.Tuple es k pTT) (tTup (tTys ts)) := pe_tup (pa_tys hT)
  have hc : CallR X (.builtin "isinstance") (fun vs H Q => ∃ v E q, vs = [v, .ref q] ∧ H q = some (.tup (ts.map V.ty)) ∧ rOne X.K X.w xr (fIsiN ts) E v H Q) := by
    intro pins s σ H vs us Q I r ⟨v, E, q, e, hq, W0, H0, W, st, x, ⟨up, sr, A, rv, fr⟩, h⟩
    subst e
    obtain ⟨u1, u2, rfl, ru1, ru2⟩ := vals2 r
    obtain rfl := ru2
    obtain ⟨d, e1, h⟩ := ofO_good h
    obtain ⟨P, Z, p, hx⟩ := kit_rv I sr rv ru1 e1
    obtain ⟨_, its, rv', o, h1, h2, n, h3⟩ := (show ObjOk X.prog X.w H s.heap q (.tup (ts.map V.ty)) from I.hok q _ hq)
    have e3 : its = ts.map Value.type := ClsV.all (cls_tys ts) rv'
    subst e3
    obtain ⟨oc, od, dt, sl⟩ := o
    simp only at h2 h3
    subst h2 h3
    exact PySem.W.kia_tup (b := ts.any fun t => subT (tyN d) t) Z I.kIn p h1 (kit_all d hT.mem) hx fun tk => ⟨.bl _, H, I.tok tk, rfl, h.flat up sr (.bl _)⟩
  refine PE.imp (pe_callB hc b.gl b.mg b.bt (pa_cons ha (pa_cons hTT pa_nil (star_cons rfl)) (star_cons hu)) b.nn b.db (star_cons hu) (by rfl)) fun σ H Q h => ?_
  obtain ⟨W, env, st, F, h⟩ := tEv.one h
  refine ⟨W, env, st, F, ?_⟩
  have nxt : ∀ (v : V) (H1 : Hp), rOne X.K X.w xr (fIsiN ts) (E σ) v H1 Q → tTup (tTys ts) σ H1 fun y H2 => ∃ v' E q, [v, y] = [v', .ref q] ∧ H2 q = some (.tup (ts.map V.ty)) ∧ rOne X.K X.w xr (fIsiN ts) E v' H2 Q := fun v H1 ⟨W0, H0, W, st, x, ⟨up, sr, A, rv, fr⟩, h⟩ => by
    refine tTys_ok ⟨by rw [List.length_map, sizeLine_eq]; have := hT.len; omega, fun p hp => ⟨v, E σ, p, rfl, upd_same, W0, H0, W, st, x, ⟨up.new hp, sr.new hp, A, ?_, fr⟩, h⟩⟩
    exact rv.up (Up.refl.new hp) sr fun a m => (fr.no a m).2.1
  cases e : ev a env st with
  | err => rw [e] at h; exact h
  | exc c xs st' => rw [e] at h; exact h
  | ok z st' =>
    rw [e] at h
    exact fun W' H' v A u s rv fr => nxt v H' (h W' H' v A u s rv fr)
def isiR (b : Expr) (d : PyData) (st : Sto) : R RV := match b with
  | .Name T _ => (ofO (typeHas T d) st).bind fun r st => .ok (.dat (.bool r)) st
  | .Tuple es _ _ => (ofO (typesHave es d) st).bind fun r st => .ok (.dat (.bool r)) st
  | _ => .err
theorem pe_isi (O : XOk cf C N xr X sc) {a b : Expr} {p pos : Pos} (hg : glB sc "isinstance" = true) (ha : PE X a (tEv X.K X.w xr E (ev a))) (hu : unstar a = true) (hb : wfIs sc b = true) :
    PE X (.Call (.Name "isinstance" p) [a, b] [] pos) (tEv X.K X.w xr E fun env st => (ev a env st).bind fun v st => (ofO (kindOf st v) st).bind fun d st => isiR b d st) := by
  have bI := O.bl (x := "isinstance") (u := .builtin "isinstance") (by simp [blVal]) hg
  unfold wfIs at hb
  split at hb
  · rename_i T pT
    obtain ⟨g1, t1⟩ := and2 hb
    obtain ⟨t, rfl, h1, h2⟩ := ty_of t1
    have e : (fun (env : Ev) (st : Sto) => (ev a env st).bind fun v st => (ofO (kindOf st v) st).bind fun d st => (ofO (typeHas (Str.ofString t) d) st).bind fun r st => R.ok (RV.dat (.bool r)) st) = fun env st => (ev a env st).bind (fIsi t) := by
      funext env st
      refine R.bind_congr fun v st => ?_
      unfold fIsi
      refine R.bind_congr fun d st => ?_
      rw [typeHas_eq h1]
      rfl
    exact PE.imp (pe_isi1 bI (O.bl h2 g1) h1 ha hu) fun σ H Q q => by rw [← e]; exact q
  · rename_i es k pTT
    obtain ⟨h1, h2⟩ := and2 hb
    obtain ⟨ts, hT⟩ := tyEs_of O h1
    have e : (fun (env : Ev) (st : Sto) => (ev a env st).bind fun v st => (ofO (kindOf st v) st).bind fun d st => (ofO (typesHave es d) st).bind fun r st => R.ok (RV.dat (.bool r)) st) = fun env st => (ev a env st).bind (fIsiN ts) := by
      funext env st
      refine R.bind_congr fun v st => ?_
      unfold fIsiN
      refine R.bind_congr fun d st => ?_
      rw [hT.have_]
      rfl
    exact PE.imp (pe_isiN bI hT (of_decide_eq_true h2) ha hu) fun σ H Q q => by rw [← e]; exact q
  · cases hb
theorem isi_eq {a b : Expr} : (fun env st => callB ev "isinstance" [a, b] env st) = fun env st => (ev a env st).bind fun v st => (ofO (kindOf st v) st).bind fun d st => isiR b d st := by
  funext env st
  have h : callB ev "isinstance" [a, b] env st = (ev a env st).bind fun v st => (ofO (kindOf st v) st).bind fun d st => match b with
      | .Name T _ => (ofO (typeHas T d) st).bind fun r st => .ok (.dat (.bool r)) st
      | .Tuple es _ _ => (ofO (typesHave es d) st).bind fun r st => .ok (.dat (.bool r)) st
      | _ => .err := rfl
  rw [h]
  refine R.bind_congr fun v st => ?_
  refine R.bind_congr fun d st => ?_
  unfold isiR
  cases b <;> rfl
theorem pe_two2 (O : XOk cf C N xr X sc) {f : Str} {a b : Expr} {p pos : Pos} (hf : isB2 f = true) (hg : glB sc f = true) (ha : PE X a (tEv X.K X.w xr E (ev a))) (hu : unstar a = true) (hb : PE X b (tEv X.K X.w xr E (ev b))) (hu2 : unstar b = true) :
    PE X (.Call (.Name f p) [a, b] [] pos) (tEv X.K X.w xr E fun env st => (ev a env st).bind fun v st => (ev b env st).bind fun u st => (ofO (vw st v) st).bind fun x st => (ofO (vw st u) st).bind fun y st => ofO (blt2 f x y) st) := by
  unfold isB2 at hf
  simp only [Bool.or_eq_true] at hf
  rcases hf with hf | hf <;> obtain rfl := seq_eq hf
  · exact pe_b2 (O.bl (u := .builtin "max") (by simp [blVal]) hg) (max2_ok O.calm) ha hb hu hu2
  · exact pe_b2 (O.bl (u := .builtin "min") (by simp [blVal]) hg) (min2_ok O.calm) ha hb hu hu2
theorem pe_callBw (O : XOk cf C N xr X sc) (hE : ∀ e, wf e = true → PE X e (tEv X.K X.w xr E (ev e))) {f : Str} {as : List Expr} {p pos : Pos} (h : wfB wf sc f as = true) :
    PE X (.Call (.Name f p) as [] pos) (tEv X.K X.w xr E fun env st => callB ev f as env st) := by
  match as, h with
  | [], h => exact pe_err
  | [a], h =>
    unfold wfB at h
    unfold callB
    dsimp only at h ⊢
    cases hl : seq' f "len" with
    | true =>
      rw [hl, if_pos rfl] at h
      simp only [if_true]
      obtain ⟨g, h2⟩ := and2 h
      obtain ⟨w1, u1⟩ := and2 h2
      obtain rfl := seq_eq hl
      exact pe_b1 (O.bl (u := .builtin "len") (by simp [blVal]) g) call_lenR (hE a w1) u1
    | false =>
      rw [hl, if_neg Bool.false_ne_true] at h
      simp only [Bool.false_eq_true, if_false]
      have gen : ∀ (h : (if isB1 f then glB sc f && (wf a && unstar a) else true) = true), PE X (.Call (.Name f p) [a] [] pos) (tEv X.K X.w xr E fun env st => if isB1 f then (ev a env st).bind fun v st => blt1V f v st else .err) := fun h => by
        cases b1 : isB1 f with
        | true =>
          rw [b1, if_pos rfl] at h
          obtain ⟨g, h2⟩ := and2 h
          obtain ⟨w1, u1⟩ := and2 h2
          simp only [if_true]
          exact pe_one1 O b1 g (hE a w1) u1
        | false => exact pe_err
      split at h
      · rename_i g gp b q
        cases hlr : (seq' f "list" && seq' g "range") with
        | true =>
          rw [hlr, if_pos rfl] at h
          simp only [hlr, if_true]
          obtain ⟨h1, h2⟩ := and2 h
          obtain ⟨g1, g2⟩ := and2 h1
          obtain ⟨w1, u1⟩ := and2 h2
          obtain ⟨e1, e2⟩ := and2 hlr
          obtain rfl := seq_eq e1
          obtain rfl := seq_eq e2
          exact pe_listRange O.calm (O.bl (by simp [blVal]) g1) (O.bl (by simp [blVal]) g2) (hE b w1) u1
        | false =>
          rw [hlr, if_neg Bool.false_ne_true] at h
          simp only [hlr, Bool.false_eq_true, if_false]
          exact gen h
      · rename_i hn
        have := gen h
        refine PE.imp this fun σ H Q q => ?_
        obtain ⟨W, env, st, F, q⟩ := q
        refine ⟨W, env, st, F, ?_⟩
        dsimp only at q ⊢
        first
          | exact q
          | (split at q
             · rename_i g gp b q'
               exact absurd rfl (hn _ _ _ _)
             · exact q)
  | [a, b], h =>
    unfold wfB at h
    unfold callB
    dsimp only at h ⊢
    cases hi : seq' f "isinstance" with
    | true =>
      rw [hi, if_pos rfl] at h
      simp only [if_true]
      obtain ⟨h1, h2⟩ := and2 h
      obtain ⟨g, h3⟩ := and2 h1
      obtain ⟨w1, u1⟩ := and2 h3
      obtain rfl := seq_eq hi
      exact PE.imp (pe_isi O g (hE a w1) u1 h2) fun σ H Q q => by rw [← isi_eq]; exact q
    | false =>
      rw [hi, if_neg Bool.false_ne_true] at h
      simp only [Bool.false_eq_true, if_false]
      cases b2 : isB2 f with
      | false => exact pe_err
      | true =>
        rw [b2, if_pos rfl] at h
        obtain ⟨h1, h2⟩ := and2 h
        obtain ⟨g, h4⟩ := and2 h1
        obtain ⟨w1, u1⟩ := and2 h4
        obtain ⟨w2, u2⟩ := and2 h2
        simp only [if_true]
        exact pe_two2 O b2 g (hE a w1) u1 (hE b w2) u2
  | _ :: _ :: _ :: _, h => exact pe_err
end
end Z

set_option linter.all false
set_option maxRecDepth 100000
set_option maxHeartbeats 1000000
/-! Z55: expressions, by the look. -/
namespace Z
open PySem PySem.Spec PyProof.Rows L2
section
variable {cf : Cfg} {C : Str → List RV → Sto → R RV} {N : List Str} {xr : XR} {X : Cx} {sc : Scope} {E : L2.St → XW} {ev : Expr → Ev → Sto → R RV} {wf : Expr → Bool}
theorem isTup_ok {e : Expr} (h : isTup e = true) : ∃ es k p, e = .Tuple es k p := by
  cases e <;> first | exact ⟨_, _, _, rfl⟩ | cases h
theorem folded_pure {e : Expr} (h : isSet e = false) : ∀ (env : Env) x, foldedSetIterable e env x = pure x := by
  intro env x
  cases e <;> first | rfl | cases h
theorem pi_evI (O : XOk cf C N xr X sc) (hE : ∀ e, wf e = true → PE X e (tEv X.K X.w xr E (ev e))) {fs : Bool} {tg e : Expr} (h : wfI wf sc tg e = true) : PI X tg e (tI X.K X.w xr fs E (evI ev fs e)) ∧ isSet e = false := by
  unfold wfI at h
  obtain ⟨hs, h⟩ := and2 h
  rw [Bool.not_eq_true'] at hs
  refine ⟨?_, hs⟩
  split at h
  · rename_i f p a q _
    unfold evI
    dsimp only
    cases hr : seq' f "range" with
    | true =>
      rw [hr, if_pos rfl] at h
      simp only [if_true]
      obtain ⟨g, h2⟩ := and2 h
      obtain ⟨w1, u1⟩ := and2 h2
      obtain rfl := seq_eq hr
      exact pi_r1 (O.bl (by simp [blVal]) g) (hE a w1) u1
    | false =>
      rw [hr, if_neg Bool.false_ne_true] at h
      simp only [Bool.false_eq_true, if_false]
      cases he : seq' f "enumerate" with
      | true =>
        rw [he, if_pos rfl] at h
        simp only [if_true]
        obtain ⟨h1, ht⟩ := and2 h
        obtain ⟨g, h2⟩ := and2 h1
        obtain ⟨w1, u1⟩ := and2 h2
        obtain rfl := seq_eq he
        obtain ⟨es, k, tp, rfl⟩ := isTup_ok ht
        exact pi_en (O.bl (by simp [blVal]) g) (hE a w1) u1
      | false =>
        rw [he, if_neg Bool.false_ne_true] at h
        simp only [Bool.false_eq_true, if_false]
        exact pi_val (hE _ h)
  · rename_i f p a b q _
    unfold evI
    dsimp only
    cases hr : seq' f "range" with
    | true =>
      rw [hr, if_pos rfl] at h
      simp only [if_true]
      obtain ⟨h1, h3⟩ := and2 h
      obtain ⟨g, h2⟩ := and2 h1
      obtain ⟨w1, u1⟩ := and2 h2
      obtain ⟨w2, u2⟩ := and2 h3
      obtain rfl := seq_eq hr
      exact pi_r2 (O.bl (by simp [blVal]) g) (hE a w1) (hE b w2) u1 u2
    | false =>
      rw [hr, if_neg Bool.false_ne_true] at h
      simp only [Bool.false_eq_true, if_false]
      cases he : seq' f "zip" with
      | true =>
        rw [he, if_pos rfl] at h
        simp only [if_true]
        obtain ⟨h0, ht⟩ := and2 h
        obtain ⟨h1, h3⟩ := and2 h0
        obtain ⟨g, h2⟩ := and2 h1
        obtain ⟨w1, u1⟩ := and2 h2
        obtain ⟨w2, u2⟩ := and2 h3
        obtain rfl := seq_eq he
        obtain ⟨es, k, tp, rfl⟩ := isTup_ok ht
        exact pi_zp (O.bl (by simp [blVal]) g) (hE a w1) (hE b w2) u1 u2
      | false =>
        rw [he, if_neg Bool.false_ne_true] at h
        simp only [Bool.false_eq_true, if_false]
        exact pi_val (hE _ h)
  · rename_i h1 h2
    have := pi_val (tg := tg) (fs := fs) (hE _ h)
    have e1 : evI ev fs e = fun env st => (ev e env st).bind fun v st => ofO (itemsV fs st v) st := by
      funext env st
      unfold evI
      split
      · exact absurd rfl (h1 _ _ _ _)
      · exact absurd rfl (h2 _ _ _ _ _)
      · rfl
    rw [e1]
    exact this
/-- what a block's look says -/
theorem wfC_ok {wf2 : Expr → Bool} {es : List Expr} {sc' : Scope} {g : Comprehension} {gs : List Comprehension} (h : wfC N wf wf2 sc es (g :: gs) sc' = true) : ∃ tg it ifs, g = ⟨tg, it, ifs, 0⟩ ∧ gs = [] ∧ wfI wf sc tg it = true ∧ blkC N sc sc' = true ∧ (∀ j ∈ tgIx N tg, j ∈ ownIx N sc') ∧ ifs.length ≤ 1 ∧ tgC N sc' tg = true ∧ (∀ c ∈ ifs, wf2 c = true) ∧ ∀ c ∈ es, wf2 c = true := by
  cases gs with
  | cons => cases g; cases h
  | nil =>
    obtain ⟨tg, it, ifs, a⟩ := g
    unfold wfC at h
    dsimp only at h
    obtain ⟨h, h8⟩ := and2 h
    obtain ⟨h, h7⟩ := and2 h
    obtain ⟨h, h6⟩ := and2 h
    obtain ⟨h, h5⟩ := and2 h
    obtain ⟨h, h4⟩ := and2 h
    obtain ⟨h, h3⟩ := and2 h
    obtain ⟨h1, h2⟩ := and2 h
    obtain rfl := of_decide_eq_true h1
    exact ⟨tg, it, ifs, rfl, rfl, h2, h3, fun j m => by simpa using List.all_eq_true.mp h4 j m, of_decide_eq_true h5, h6, List.all_eq_true.mp h7, List.all_eq_true.mp h8⟩
theorem mcall_ok {o e : Expr} {es : List Expr} {apos cpos : Pos} (hb : baseB o = true) (hu : ∀ x ∈ e :: es, unstar x = true) (hl : apos.endLine = cpos.line) (hn : es.length < 29) : MCall X o e es apos cpos := by
  refine ⟨?_, ?_, by simp [hl], back_plain fun x m => hu x (List.mem_cons_of_mem _ m)⟩
  · unfold baseB at hb
    split at hb
    · cases hb
    · rename_i h
      first
        | rfl
        | (split
           · exact absurd rfl (h _ _ _)
           · rfl)
        | (cases o <;> first | rfl | exact absurd rfl (h _ _ _) | cases hb)
  · rw [Bool.and_eq_true, Bool.and_eq_true]
    refine ⟨⟨back_all hu, ?_⟩, ?_⟩
    · rw [kw_nil]; rfl
    · simp
      omega
end
/-- the reader's words for an expression -/
structure EOk (cf : Cfg) (C : Str → List RV → Sto → R RV) (N : List Str) (xr : XR) (n : Nat) : Prop where
  ok : ∀ (X : Cx) (sc : Scope) (E : L2.St → XW) (e : Expr), XOk cf C N xr X sc → (∀ σ, PassesAt (L2.CX X.prog X.w) X σ (E σ)) → wfE cf N n sc e = true → PE X e (tEv X.K X.w xr E (evalE cf C N n e)) ∧ PT X e (tT X.K X.w xr E (evT (evalE cf C N n) e))
section
variable {cf : Cfg} {C : Str → List RV → Sto → R RV} {N : List Str} {xr : XR} {X : Cx} {sc : Scope} {E : L2.St → XW} {n : Nat}
theorem lcomp_ok (IH : EOk cf C N xr n) (O : XOk cf C N xr X sc) (hx : ∀ σ, PassesAt (L2.CX X.prog X.w) X σ (E σ)) {elt : Expr} {gs : List Comprehension} {sc' : Scope} {pos : Pos} (h : wfC N (wfE cf N n sc) (wfE cf N n (relS sc' sc)) sc [elt] gs sc' = true) :
    PE X (.ListComp elt gs sc' pos) (tEv X.K X.w xr E fun env st => (lcTop N (evalE cf C N n) elt gs sc' env st).bind fun ds st => .ok (.own ds) st) := by
  cases gs with
  | nil => exact pe_err
  | cons g gs =>
    obtain ⟨tg, it, ifs, rfl, rfl, h1, h2, h3, h4, h5, h6, h7⟩ := wfC_ok h
    have hE : ∀ e, wfE cf N n sc e = true → PE X e (tEv X.K X.w xr E (evalE cf C N n e)) := fun e we => (IH.ok X sc E e O hx we).1
    obtain ⟨p1, p2⟩ := pi_evI O hE (fs := false) h1
    have hN := O.hN
    subst hN
    refine pe_lcomp O.calm O.nd p1 (by rw [O.hs]; exact blkC_ok h2) h3 h4 (fun s H K cl fp => pg_blk O.calm O.nd h5) (fun s H K cl fp c m => ?_) (fun s H K cl fp => ?_) (folded_pure p2 _)
    · exact (IH.ok _ _ E0 c (O.blk (s := s) (H := H) (K := K) (cl := cl) (fp := fp) (sc' := sc')) pass_blk (h6 c m)).2
    · exact (IH.ok _ _ E0 elt (O.blk (s := s) (H := H) (K := K) (cl := cl) (fp := fp) (sc' := sc')) pass_blk (h7 elt List.mem_cons_self)).1
theorem dcomp_ok (IH : EOk cf C N xr n) (O : XOk cf C N xr X sc) (hx : ∀ σ, PassesAt (L2.CX X.prog X.w) X σ (E σ)) {k v : Expr} {gs : List Comprehension} {sc' : Scope} {pos : Pos} (h : wfC N (wfE cf N n sc) (wfE cf N n (relS sc' sc)) sc [k, v] gs sc' = true) :
    PE X (.DictComp k v gs sc' pos) (tEv X.K X.w xr E fun env st => dcTop N (evalE cf C N n) k v gs sc' env st) := by
  cases gs with
  | nil => exact pe_err
  | cons g gs =>
    obtain ⟨tg, it, ifs, rfl, rfl, h1, h2, h3, h4, h5, h6, h7⟩ := wfC_ok h
    have hE : ∀ e, wfE cf N n sc e = true → PE X e (tEv X.K X.w xr E (evalE cf C N n e)) := fun e we => (IH.ok X sc E e O hx we).1
    obtain ⟨p1, p2⟩ := pi_evI O hE (fs := false) h1
    have hN := O.hN
    subst hN
    have hu := O.un
    refine pe_dcomp (by omega) O.calm O.nd p1 (by rw [O.hs]; exact blkC_ok h2) h3 h4 (fun s H fp => pg_blk O.calm O.nd h5) (fun s H fp c m => ?_) (fun s H fp => ?_) (fun s H fp => ?_) (folded_pure p2 _)
    · exact (IH.ok _ _ E0 c O.blk pass_blk (h6 c m)).2
    · exact (IH.ok _ _ E0 k O.blk pass_blk (h7 k List.mem_cons_self)).1
    · exact (IH.ok _ _ E0 v O.blk pass_blk (h7 v (by simp))).1
end
end Z

set_option linter.all false
set_option maxRecDepth 100000
set_option maxHeartbeats 1000000
/-! Z56: every expression that passes the look does what the reader says. -/
namespace Z
open PySem PySem.Spec PyProof.Rows L2
section
variable {cf : Cfg} {C : Str → List RV → Sto → R RV} {N : List Str} {xr : XR} {X : Cx} {sc : Scope} {E : L2.St → XW} {n : Nat}
theorem all_mem {α : Type} {l : List α} {p : α → Bool} (h : l.all p = true) : ∀ x ∈ l, p x = true := List.all_eq_true.mp h
theorem ev_call {f : Str} {p : Pos} {as : List Expr} {ks : List Keyword} {pos : Pos} : evalE cf C N (n + 1) (.Call (.Name f p) as ks pos) = fun env st => match ix N f with
      | some _ => .err
      | none => match cf.ps f with
        | some ps => match ks with
          | [] => (evK (evalE cf C N n) as env st).bind fun vs st => if vs.length = ps.length then callR C f vs st else .err
          | ks => match as, kwNames ks with
            | [], some ns => (evK (evalE cf C N n) (kwExprs ks) env st).bind fun vs st => if vs.length = ps.length then (ofO (reorder (ns.zip vs) ps) st).bind fun vs st => callR C f vs st else .err
            | _, _ => .err
        | none => match ks with
          | [] => callB (evalE cf C N n) f as env st
          | _ => .err := rfl
theorem wf_call {f : Str} {p : Pos} {as : List Expr} {ks : List Keyword} {pos : Pos} : wfE cf N (n + 1) sc (.Call (.Name f p) as ks pos) = (match ix N f with
      | some _ => true
      | none => match cf.ps f with
        | some ps => match ks with
          | [] => glB sc f && as.all (wfE cf N n sc) && as.all unstar
          | ks => match as, kwNames ks with
            | [], some ns => glB sc f && (kwExprs ks).all (wfE cf N n sc) && decide ns.Nodup && ns.all (fun x => ps.contains x)
            | _, _ => true
        | none => match ks with
          | [] => wfB (wfE cf N n sc) sc f as
          | _ => true) := rfl
theorem ev_attr {o : Expr} {m : Str} {apos : Pos} {as : List Expr} {pos : Pos} : evalE cf C N (n + 1) (.Call (.Attribute o m apos) as [] pos) = fun env st => match as, methT m with
      | _ :: _, some l => (evalE cf C N n o env st).bind fun v st => if methOk l v st then (evK (evalE cf C N n) as env st).bind fun vs st => methR m v vs st else .err
      | _, _ => .err := rfl
theorem wf_attr {o : Expr} {m : Str} {apos : Pos} {as : List Expr} {pos : Pos} : wfE cf N (n + 1) sc (.Call (.Attribute o m apos) as [] pos) = (match as, methT m with
      | e :: es, some _ => wfE cf N n sc o && (e :: es).all (wfE cf N n sc) && (e :: es).all unstar && baseB o && decide (apos.endLine = pos.line) && decide (es.length < 29)
      | _, _ => true) := rfl
theorem ev_rev {o s : Expr} {p2 pos : Pos} : evalE cf C N (n + 1) (.Subscript o (.Slice none none (some s) p2) pos) = fun env st => if negOne s then (evS (evalE cf C N n) o env st).bind fun d st => match d with
            | .list xs => .ok (.own (xs.reverse.map .dat)) st
            | _ => .err
            else .err := rfl
theorem ev_name {x : Str} {p : Pos} : evalE cf C N (n + 1) (.Name x p) = fun env st => match ix N x with
        | some i => match env[i]? with
          | some (some (.own vs)) => (ofO (deeps vs) st).bind fun ds st => .ok (.bor (.list ds)) st
          | some (some (.odi kvs)) => (ofO (deepKv kvs) st).bind fun ds st => .ok (.bor (.dict ds)) st
          | some (some v) => .ok v st
          | _ => .err
        | none => match cf.glob x with
          | some d => .ok (.dat d) st
          | none => .err := rfl
theorem call_name_ok (IH : EOk cf C N xr n) (O : XOk cf C N xr X sc) (hx : ∀ σ, PassesAt (L2.CX X.prog X.w) X σ (E σ)) {f : Str} {p : Pos} {as : List Expr} {ks : List Keyword} {pos : Pos} (h : wfE cf N (n + 1) sc (.Call (.Name f p) as ks pos) = true) :
    PE X (.Call (.Name f p) as ks pos) (tEv X.K X.w xr E (evalE cf C N (n + 1) (.Call (.Name f p) as ks pos))) := by
  have hE : ∀ e, wfE cf N n sc e = true → PE X e (tEv X.K X.w xr E (evalE cf C N n e)) := fun e we => (IH.ok X sc E e O hx we).1
  rw [ev_call]
  rw [wf_call] at h
  have h' := h
  clear h
  cases hi : ix N f with
  | some i => exact pe_err
  | none =>
    rw [hi] at h'
    dsimp only at h' ⊢
    cases hp : cf.ps f with
    | some ps =>
      rw [hp] at h'
      dsimp only at h' ⊢
      cases ks with
      | nil =>
        dsimp only at h' ⊢
        obtain ⟨h1, h2⟩ := and2 h'
        obtain ⟨g, h3⟩ := and2 h1
        have hu := all_mem h2
        exact pe_def (O.defs f ps hp) (glB_ok O.hs g) hx (fun e m => hE e (all_mem h3 e m)) hu (back_plain fun x m => hu x (List.mem_of_mem_tail m))
      | cons k ks =>
        cases as with
        | cons => exact pe_err
        | nil =>
          dsimp only at h' ⊢
          cases hk : kwNames (k :: ks) with
          | none => rw [hk] at h'; exact pe_err
          | some ns =>
            rw [hk] at h'
            dsimp only at h' ⊢
            obtain ⟨h1, h2⟩ := and2 h'
            obtain ⟨h3, h4⟩ := and2 h1
            obtain ⟨g, h5⟩ := and2 h3
            obtain ⟨a, b, c⟩ := kw_some (env := X.env) (pos := pos) hk
            exact pe_defK (O.defs f ps hp) (glB_ok O.hs g) hx (fun e m => hE e (all_mem h5 e m)) hk a b (by rw [c]; rfl) (of_decide_eq_true h4) (fun x m => by simpa using all_mem h2 x m)
    | none =>
      rw [hp] at h'
      dsimp only at h' ⊢
      cases ks with
      | nil => exact pe_callBw O hE h'
      | cons k ks => exact pe_err
theorem call_attr_ok (IH : EOk cf C N xr n) (O : XOk cf C N xr X sc) (hx : ∀ σ, PassesAt (L2.CX X.prog X.w) X σ (E σ)) {o : Expr} {m : Str} {apos : Pos} {as : List Expr} {pos : Pos} (h : wfE cf N (n + 1) sc (.Call (.Attribute o m apos) as [] pos) = true) :
    PE X (.Call (.Attribute o m apos) as [] pos) (tEv X.K X.w xr E (evalE cf C N (n + 1) (.Call (.Attribute o m apos) as [] pos))) := by
  have hE : ∀ e, wfE cf N n sc e = true → PE X e (tEv X.K X.w xr E (evalE cf C N n e)) := fun e we => (IH.ok X sc E e O hx we).1
  rw [ev_attr]
  cases as with
  | nil => exact pe_err
  | cons e es =>
    cases hm : methT m with
    | none => exact pe_err
    | some l =>
      rw [wf_attr, hm] at h
      have h' := h
      dsimp only at h' ⊢
      obtain ⟨h', h6⟩ := and2 h'
      obtain ⟨h', h5⟩ := and2 h'
      obtain ⟨h', h4⟩ := and2 h'
      obtain ⟨h', h3⟩ := and2 h'
      obtain ⟨h1, h2⟩ := and2 h'
      have hu := all_mem h3
      have M := mcall_ok (X := X) (apos := apos) (cpos := pos) h4 hu (of_decide_eq_true h5) (of_decide_eq_true h6)
      unfold methT at hm
      split at hm
      · rename_i hs
        obtain rfl := seq_eq hs
        cases hm
        exact pe_meth' PySem.F.slot_list_append PySem.F.type_list_append mt_app M (hE o h1) (fun x mm => hE x (all_mem h2 x mm)) hu
      · split at hm
        · rename_i hs
          obtain rfl := seq_eq hs
          cases hm
          exact pe_meth' PySem.F.slot_list_pop PySem.F.type_list_pop mt_popc M (hE o h1) (fun x mm => hE x (all_mem h2 x mm)) hu
        · cases hm
theorem sub_ok (IH : EOk cf C N xr n) (O : XOk cf C N xr X sc) (hx : ∀ σ, PassesAt (L2.CX X.prog X.w) X σ (E σ)) {o i : Expr} {pos : Pos} (h : wfE cf N (n + 1) sc (.Subscript o i pos) = true) :
    PE X (.Subscript o i pos) (tEv X.K X.w xr E (evalE cf C N (n + 1) (.Subscript o i pos))) := by
  have hE : ∀ e, wfE cf N n sc e = true → PE X e (tEv X.K X.w xr E (evalE cf C N n e)) := fun e we => (IH.ok X sc E e O hx we).1
  have hO : ∀ eo : Option Expr, wfO (wfE cf N n sc) eo = true → PO X eo (tO X.K X.w xr E (evOpt (evalE cf C N n) eo)) := fun eo he => po_opt fun e ee => by
    subst ee
    exact hE e he
  by_cases hs : isSlice i = true
  · obtain ⟨lo, hi, stp, p2, rfl⟩ : ∃ lo hi stp p2, i = .Slice lo hi stp p2 := by cases i <;> first | exact ⟨_, _, _, _, rfl⟩ | cases hs
    cases stp with
    | none =>
      have h' : (wfE cf N n sc o && wfO (wfE cf N n sc) lo && wfO (wfE cf N n sc) hi) = true := h
      obtain ⟨h1, h3⟩ := and2 h'
      obtain ⟨h1, h2⟩ := and2 h1
      exact pe_slice' (hE o h1) (hO lo h2) (hO hi h3)
    | some s =>
      cases lo with
      | some lo => exact pe_err
      | none =>
        cases hi with
        | some hi => exact pe_err
        | none =>
          have h' : (if negOne s then wfE cf N n sc o else true) = true := h
          rw [ev_rev]
          cases hn : negOne s with
          | true =>
            rw [hn, if_pos rfl] at h'
            simp only [if_true]
            exact pe_rev hn (hE o h')
          | false => exact pe_err
  · have hs : isSlice i = false := by simpa using hs
    have e1 : evalE cf C N (n + 1) (.Subscript o i pos) = fun env st => (evalE cf C N n o env st).bind fun v st => (evV (evalE cf C N n) i env st).bind fun k st => subR v k st := by
      cases i <;> first | rfl | cases hs
    have e2 : (wfE cf N n sc o && wfE cf N n sc i) = true := by
      rw [← h]
      cases i <;> first | rfl | cases hs
    obtain ⟨h1, h2⟩ := and2 e2
    rw [e1]
    exact pe_sub (w := X.w) O.un (hE o h1) (hE i h2) hs
theorem pe_step (IH : EOk cf C N xr n) (O : XOk cf C N xr X sc) (hx : ∀ σ, PassesAt (L2.CX X.prog X.w) X σ (E σ)) (e : Expr) (h : wfE cf N (n + 1) sc e = true) : PE X e (tEv X.K X.w xr E (evalE cf C N (n + 1) e)) := by
  have hB : ∀ e, wfE cf N n sc e = true → PE X e (tEv X.K X.w xr E (evalE cf C N n e)) ∧ PT X e (tT X.K X.w xr E (evT (evalE cf C N n) e)) := fun e we => IH.ok X sc E e O hx we
  have hE := fun e we => (hB e we).1
  have hT := fun e we => (hB e we).2
  cases e with
  | Name x p =>
    have h' : (match ix N x with
      | some _ => visB sc x && nmB x
      | none => (cf.glob x).isNone) = true := h
    cases hi : ix N x with
    | none =>
      rw [hi] at h'
      rw [ev_name, hi]
      dsimp only at h' ⊢
      rw [Option.isNone_iff_eq_none.mp h']
      exact pe_err
    | some i =>
      rw [hi] at h'
      obtain ⟨v, nm⟩ := and2 h'
      obtain ⟨n1, n2⟩ := nmB_ok nm
      refine PE.imp (pe_name (xr := xr) (E := E) O.hN hi (by rw [O.hs]; exact visB_ok v) n1 n2) fun σ H Q ⟨W, env, st, F, q⟩ => ⟨W, env, st, F, ?_⟩
      rw [ev_name, hi] at q
      exact q
  | Constant c k p =>
    cases c with
    | none => exact pe_con pe_non fun _ _ => .non
    | bool b => exact pe_con pe_bl fun _ _ => .bl b
    | int i => exact pe_con pe_int fun _ _ => .int i
    | str s => exact pe_con pe_str fun _ _ => .str s
    | _ => exact pe_err
  | Tuple es k p =>
    have h' : (es.all (wfE cf N n sc) && es.all unstar && decide (es.length ≤ 1000)) = true := h
    obtain ⟨h1, h3⟩ := and2 h'
    obtain ⟨h1, h2⟩ := and2 h1
    exact pe_tuple (fun e m => hE e (all_mem h1 e m)) (all_mem h2) (of_decide_eq_true h3)
  | List es p =>
    have h' : (es.all (wfE cf N n sc) && es.all unstar && decide (es.length ≤ 1000)) = true := h
    obtain ⟨h1, h3⟩ := and2 h'
    obtain ⟨h1, h2⟩ := and2 h1
    rw [show evalE cf C N (n + 1) (.List es p) = fun env st => if cf.cell p then (evCells (evalE cf C N n) es env st).bind fun vs st => .ok (.ref st.length) (st ++ [.lst vs])
      else (evL (evalE cf C N n) es env st).bind fun vs st => (ofO (elems vs) st).bind fun ws st => .ok (.own ws) st from rfl]
    cases hc : cf.cell p with
    | true =>
      simp only [if_true]
      exact pe_cell (fun e m => hE e (all_mem h1 e m)) (all_mem h2) (of_decide_eq_true h3)
    | false =>
      simp only [Bool.false_eq_true, if_false]
      exact pe_list (fun e m => hE e (all_mem h1 e m)) (all_mem h2) (of_decide_eq_true h3)
  | Dict ks vs p =>
    have h' : (ks.all (·.isSome) && decide (ks.length = vs.length) && decide (ks.length ≤ 15) && ks.all (wfO (wfE cf N n sc)) && vs.all (wfE cf N n sc)) = true := h
    obtain ⟨h', h5⟩ := and2 h'
    obtain ⟨h', h4⟩ := and2 h'
    obtain ⟨h', h3⟩ := and2 h'
    obtain ⟨h1, h2⟩ := and2 h'
    have hk : ∀ k, some k ∈ ks → PE X k (tEv X.K X.w xr E (evalE cf C N n k)) := fun k m => hE k (all_mem h4 _ m)
    rw [show evalE cf C N (n + 1) (.Dict ks vs p) = fun env st => if cf.cell p then (evPairs (evalE cf C N n) ks vs env st).bind fun kvs st => (ofO (putAll [] kvs) st).bind fun kvs st => .ok (.ref st.length) (st ++ [.dct kvs])
      else (evPairsO (evalE cf C N n) ks vs env st).bind fun kvs st => (ofO (putAll [] kvs) st).bind fun kvs st => .ok (.odi kvs) st from rfl]
    cases hc : cf.cell p with
    | true =>
      simp only [if_true]
      exact pe_dictC h1 (of_decide_eq_true h2) (of_decide_eq_true h3) hk fun v m => hE v (all_mem h5 v m)
    | false =>
      simp only [Bool.false_eq_true, if_false]
      exact pe_dictO h1 (of_decide_eq_true h2) (of_decide_eq_true h3) hk fun v m => hE v (all_mem h5 v m)
  | BinOp a op b p =>
    obtain ⟨h1, h2⟩ := and2 (show (wfE cf N n sc a && wfE cf N n sc b) = true from h)
    exact pe_bin (hE a h1) (hE b h2)
  | UnaryOp op a p =>
    have h' : wfE cf N n sc a = true := h
    cases op with
    | Not => exact pe_not' (hE a h')
    | USub => exact pe_neg' (hE a h')
    | _ => exact pe_err
  | BoolOp op es p =>
    obtain ⟨h1, h2⟩ := and2 (show (!es.isEmpty && es.all (wfE cf N n sc)) = true from h)
    have hne : es ≠ [] := fun z => by subst z; cases h1
    cases op with
    | And => exact pe_and' hne fun e m => hE e (all_mem h2 e m)
    | Or => exact pe_or' hne fun e m => hE e (all_mem h2 e m)
  | Compare a ops bs p =>
    match ops, bs, h with
    | [op], [b], h =>
      obtain ⟨h1, h3⟩ := and2 (show (wfE cf N n sc a && wfE cf N n sc b && !behindInMarks op b) = true from h)
      obtain ⟨h1, h2⟩ := and2 h1
      exact pe_cmp1 O.un (hE a h1) (hE b h2) (by simpa using h3)
    | [op, op'], [b, c], h =>
      obtain ⟨h1, h4⟩ := and2 (show (wfE cf N n sc a && wfE cf N n sc b && wfE cf N n sc c && !lastMarks [op, op'] [b, c]) = true from h)
      obtain ⟨h1, h3⟩ := and2 h1
      obtain ⟨h1, h2⟩ := and2 h1
      exact pe_chain2 O.un (hE a h1) (hE b h2) (hE c h3) (by simpa using h4)
    | [], _, h => exact pe_err
    | [_], [], h => exact pe_err
    | [_], _ :: _ :: _, h => exact pe_err
    | [_, _], [], h => exact pe_err
    | [_, _], [_], h => exact pe_err
    | [_, _], _ :: _ :: _ :: _, h => exact pe_err
    | _ :: _ :: _ :: _, _, h => exact pe_err
  | IfExp t a b p =>
    obtain ⟨h1, h3⟩ := and2 (show (wfE cf N n sc t && wfE cf N n sc a && wfE cf N n sc b) = true from h)
    obtain ⟨h1, h2⟩ := and2 h1
    exact pe_if' (hT t h1) (hE a h2) (hE b h3)
  | Call f as ks p =>
    cases f with
    | Name x q => exact call_name_ok IH O hx h
    | Attribute o m q =>
      cases ks with
      | nil => exact call_attr_ok IH O hx h
      | cons k ks => exact pe_err
    | _ => exact pe_err
  | Subscript o i p => exact sub_ok IH O hx h
  | ListComp elt gs sc' p => exact lcomp_ok IH O hx h
  | DictComp k v gs sc' p => exact dcomp_ok IH O hx h
  | _ => exact pe_err
end
end Z

set_option linter.all false
set_option maxRecDepth 100000
set_option maxHeartbeats 1000000
/-! Z57: expressions, as values and as tests. -/
namespace Z
open PySem PySem.Spec PyProof.Rows L2
section
variable {cf : Cfg} {C : Str → List RV → Sto → R RV} {N : List Str} {xr : XR} {X : Cx} {sc : Scope} {E : L2.St → XW} {n : Nat}
theorem pt_err {e : Expr} : PT X e (tT X.K X.w xr E fun _ _ => .err) := ⟨fun _ _ _ _ _ _ ⟨_, _, _, _, h⟩ => h.elim⟩
theorem pt_step (IH : EOk cf C N xr n) (O : XOk cf C N xr X sc) (hx : ∀ σ, PassesAt (L2.CX X.prog X.w) X σ (E σ)) (e : Expr) (h : wfE cf N (n + 1) sc e = true) : PT X e (tT X.K X.w xr E (evT (evalE cf C N (n + 1)) e)) := by
  have hB : ∀ e, wfE cf N n sc e = true → PE X e (tEv X.K X.w xr E (evalE cf C N n e)) ∧ PT X e (tT X.K X.w xr E (evT (evalE cf C N n) e)) := fun e we => IH.ok X sc E e O hx we
  have hE := fun e we => (hB e we).1
  have hT := fun e we => (hB e we).2
  have hP := pe_step IH O hx e h
  cases e with
  | UnaryOp op a p =>
    have h' : wfE cf N n sc a = true := h
    cases op with
    | Not => exact pt_not' (f := evalE cf C N (n + 1) (.UnaryOp .Not a p)) (hT a h') rfl
    | _ => exact pt_of hP fun _ => rfl
  | BoolOp op es p =>
    obtain ⟨h1, h2⟩ := and2 (show (!es.isEmpty && es.all (wfE cf N n sc)) = true from h)
    have hne : es ≠ [] := fun z => by subst z; cases h1
    cases op with
    | And => exact (pw_and' hne fun e m => hT e (all_mem h2 e m)).pt
    | Or => exact (pw_or' hne fun e m => hT e (all_mem h2 e m)).pt
  | IfExp t a b p =>
    obtain ⟨h1, h3⟩ := and2 (show (wfE cf N n sc t && wfE cf N n sc a && wfE cf N n sc b) = true from h)
    obtain ⟨h1, h2⟩ := and2 h1
    exact pt_if' (hT t h1) (hT a h2) (hT b h3)
  | Compare a ops bs p =>
    match ops, bs, h with
    | [op], [b], h =>
      obtain ⟨h1, h3⟩ := and2 (show (wfE cf N n sc a && wfE cf N n sc b && !behindInMarks op b) = true from h)
      obtain ⟨h1, h2⟩ := and2 h1
      exact pt_cmp1 O.un (hE a h1) (hE b h2) (by simpa using h3)
    | [op, op'], [b, c], h =>
      obtain ⟨h1, h4⟩ := and2 (show (wfE cf N n sc a && wfE cf N n sc b && wfE cf N n sc c && !lastMarks [op, op'] [b, c]) = true from h)
      obtain ⟨h1, h3⟩ := and2 h1
      obtain ⟨h1, h2⟩ := and2 h1
      exact pt_chain2 O.un (hE a h1) (hE b h2) (hE c h3) (by simpa using h4)
    | [], _, h => exact pt_err
    | [_], [], h => exact pt_err
    | [_], _ :: _ :: _, h => exact pt_err
    | [_, _], [], h => exact pt_err
    | [_, _], [_], h => exact pt_err
    | [_, _], _ :: _ :: _ :: _, h => exact pt_err
    | _ :: _ :: _ :: _, _, h => exact pt_err
  | _ => exact pt_of hP fun _ => rfl
theorem eok : ∀ n, EOk cf C N xr n
  | 0 => ⟨fun X sc E e O hx h => ⟨pe_err, pt_err⟩⟩
  | n + 1 => ⟨fun X sc E e O hx h => ⟨pe_step (eok n) O hx e h, pt_step (eok n) O hx e h⟩⟩
end
end Z

set_option linter.all false
set_option maxRecDepth 100000
set_option maxHeartbeats 1000000
/-! Z58: statements: what is seen ahead. -/
namespace Z
open PySem PySem.Spec PyProof.Rows L2
/-- the names of a tuple of targets that are plain locals on one line -/
def swNames (sc : Scope) (ts : List Expr) : List Str := ts.filterMap fun
  | .Name id pos => if sc.names.lookup id == some .local && pos.line == (ts.head?.map (·.pos.line)).getD 0 then some id else none
  | _ => none
def isStar : Expr → Bool
  | .Starred _ _ => true
  | _ => false
/-- 0: stored in order; 1: from the right; 2: not known -/
def swKind (sc : Scope) (ts vs : List Expr) : Nat :=
  if !(ts.length == 2 || ts.length == 3) || vs.length != ts.length then 0
  else if vs.any isStar then 0
  else if (swNames sc ts).length != ts.length || (swNames sc ts).eraseDups.length != (swNames sc ts).length then 0
  else if vs.all (foldedForSure 8) then 0
  else if vs.all (constantsAlone 8) then 2
  else 1
theorem isStar_eq : isStar = fun | .Starred .. => true | _ => false := by
  funext e
  cases e <;> rfl
theorem sw_eq {sc : Scope} {env : Env} (hs : env.scope = sc) (hk : sc.kind = .function) (ts vs : List Expr) (k k2 : Nat) (p p2 : Pos) : (swKind sc ts vs = 0 → swappedStores [.Tuple ts k p] (.Tuple vs k2 p2) env = pure none) ∧ (swKind sc ts vs = 1 → swappedStores [.Tuple ts k p] (.Tuple vs k2 p2) env = pure (some (swNames sc ts))) := by
  have hb : env.blockKind = .function := by
    unfold Env.blockKind
    rw [hs, hk]
    rfl
  subst hs
  have e : swappedStores [.Tuple ts k p] (.Tuple vs k2 p2) env = (if !(ts.length == 2 || ts.length == 3) || vs.length != ts.length || env.blockKind != .function then pure none
    else if vs.any isStar then pure none
    else if (swNames env.scope ts).length != ts.length || (swNames env.scope ts).eraseDups.length != (swNames env.scope ts).length then pure none
    else if vs.all (foldedForSure 8) then pure none
    else if vs.all (constantsAlone 8) then (do unsupported "assign.tuple-of-constant-expressions:order-of-the-stores"; pure (some (swNames env.scope ts)))
    else pure (some (swNames env.scope ts))) := by
    rw [isStar_eq]
    rfl
  rw [e, hb]
  unfold swKind
  cases h1 : (!(ts.length == 2 || ts.length == 3) || vs.length != ts.length)
  · simp only [Bool.false_eq_true, if_false, bne_self_eq_false, Bool.or_false]
    cases h2 : vs.any isStar
    · simp only [Bool.false_eq_true, if_false]
      cases h3 : ((swNames env.scope ts).length != ts.length || (swNames env.scope ts).eraseDups.length != (swNames env.scope ts).length)
      · simp only [Bool.false_eq_true, if_false]
        cases h4 : vs.all (foldedForSure 8)
        · simp only [Bool.false_eq_true, if_false]
          cases h5 : vs.all (constantsAlone 8)
          · exact ⟨fun h => by simp at h, fun _ => rfl⟩
          · exact ⟨fun h => by simp at h, fun h => by simp at h⟩
        · exact ⟨fun _ => rfl, fun h => by simp at h⟩
      · exact ⟨fun _ => rfl, fun h => by simp at h⟩
    · exact ⟨fun _ => rfl, fun h => by simp at h⟩
  · simp only [Bool.true_or, if_true]
    exact ⟨fun _ => by trivial, fun h => by simp at h⟩
/-- what a comprehension that is stored at once must be -/
def isComp : Expr → Bool
  | .ListComp _ _ _ _ => true
  | .SetComp _ _ _ _ => true
  | .DictComp _ _ _ _ _ => true
  | _ => false
theorem swaps_not {e : Expr} (h : isComp e = false) (t : Option Expr) (l : Nat) (env : Env) : swapsWith e t l env = pure false := by
  cases e <;> first | rfl | cases h
theorem swaps_sub {e : Expr} {b i : Expr} {p : Pos} {l : Nat} {env : Env} : swapsWith e (some (.Subscript b i p)) l env = pure false := by
  cases e <;> rfl
theorem swaps_tup {e : Expr} {ts : List Expr} {k : Nat} {p : Pos} {l : Nat} {env : Env} : swapsWith e (some (.Tuple ts k p)) l env = pure false := by
  cases e <;> rfl
/-- is a comprehension's list stored at once -/
def swB (sc sc' : Scope) (y : Str) (py pos : Pos) : Bool := (match sc.names.lookup y with | some .local => true | _ => false) && py.line == pos.line && !(sc'.names.any fun (n, k) => n == y && (k == .local || k == .cell))
theorem swB_ok {sc sc' : Scope} {y : Str} {py pos : Pos} {elt : Expr} {gs : List Comprehension} {l : Nat} {env : Env} (hs : env.scope = sc) (hk : sc.kind = .function) : swapsWith (.ListComp elt gs sc' pos) (some (.Name y py)) l env = pure (swB sc sc' y py pos) := by
  have hb : env.blockKind = .function := by
    unfold Env.blockKind
    rw [hs, hk]
    rfl
  unfold swapsWith swB
  dsimp only
  rw [hb]
  have : (env.kindOf y == some .local) = (match sc.names.lookup y with | some .local => true | _ => false) := by
    unfold Env.kindOf
    rw [hs]
    cases sc.names.lookup y with
    | none => rfl
    | some k => cases k <;> rfl
  rw [this]
  rfl
theorem PS.impI {X : Cx} {s : Stmt} {t u : TS} (h : PS X s t) (k : ∀ pins sh D σ H, Inv X pins σ H sh → u D σ H → t D σ H) : PS X s u := ⟨fun pins sh σ H D I q => h.run pins sh σ H D I (k pins sh D σ H I q)⟩
theorem ix_lt {N : List Str} {x : Str} {i : Nat} (h : ix N x = some i) : i < N.length := (List.getElem?_eq_some_iff.mp (ix_at h)).1
section
variable {X : Cx} {xr : XR} {W0 : Wd} {H0 : Hp} {E : L2.St → XW} {N : List Str}
/-- what is asked ahead of a statement: a point, and where it goes -/
def tP (K : PySem.W.Frag) (w : World) (xr : XR) (W0 : Wd) (H0 : Hp) (E : L2.St → XW) (n : Nat) (c : Ev → Prop) (f : Ev → Sto → R Fl) : TS := fun D σ H => ∃ Wb Hb W env st, Pt K w W0 H0 Wb Hb W H env st σ ∧ env.length = n ∧ c env ∧ GoodS K w xr W0 H0 Wb Hb E (f env st) D
theorem tP_of {s : Stmt} {f : Ev → Sto → R Fl} (h : PS X s (tP X.K X.w xr W0 H0 E X.N.length (fun _ => True) f)) : PS X s (tS X.K X.w xr W0 H0 E f) :=
  PS.impI h fun pins sh D σ H I ⟨Wb, Hb, W, env, st, p, g⟩ => ⟨Wb, Hb, W, env, st, p, by rw [p.fr.sig, I.len], True.intro, g⟩
/-- two cases of the slots -/
theorem tP_or {s : Stmt} {f : Ev → Sto → R Fl} {n : Nat} {c : Ev → Prop} (c1 : Ev → Prop) (h1 : PS X s (tP X.K X.w xr W0 H0 E n (fun e => c e ∧ c1 e) f)) (h2 : PS X s (tP X.K X.w xr W0 H0 E n (fun e => c e ∧ ¬ c1 e) f)) : PS X s (tP X.K X.w xr W0 H0 E n c f) := by
  refine ⟨fun pins sh σ H D I ⟨Wb, Hb, W, env, st, p, hl, hc, g⟩ => ?_⟩
  by_cases hh : c1 env
  · exact h1.run pins sh σ H D I ⟨Wb, Hb, W, env, st, p, hl, ⟨hc, hh⟩, g⟩
  · exact h2.run pins sh σ H D I ⟨Wb, Hb, W, env, st, p, hl, ⟨hc, hh⟩, g⟩
/-- the freezing ahead of a statement -/
theorem ps_frz (hO : ∀ a, W0.O a → H0 a = none) {s : Stmt} {l : List Nat} {f : Ev → Sto → R Fl} (h : PS X s (tS X.K X.w xr W0 H0 E f)) : PS X s (tS X.K X.w xr W0 H0 E fun env st => f (fzAll env l) st) :=
  PS.imp h fun D σ H ⟨Wb, Hb, W, env, st, p, g⟩ => by
    obtain ⟨W', p'⟩ := p.frz hO l
    exact ⟨Wb, Hb, W', _, st, p', g⟩
/-- x = e, where e is no slot's own list -/
theorem ps_name' {x : Str} {e : Expr} {px pos : Pos} {o : Bool} {i : Nat} {te : TE} {ev : Expr → Ev → Sto → R RV} (hN : X.N = N) (hi : ix N x = some i) (hR : PS X (.Assign [.Name x px] e pos) (tAsg te (gName i))) (hk : ∀ σ H Q, tEv X.K X.w xr E (ev e) σ H Q → te σ H Q) :
    PS X (.Assign [.Name x px] e pos) (tP X.K X.w xr W0 H0 E X.N.length (fun env => ownSlot N env e = none) fun env st => execAsg N ev o (.Name x px) e env st) := by
  refine PS.imp hR fun D σ H ⟨Wb, Hb, W, env, st, p, hl, hn, h⟩ => hk _ _ _ ⟨W, env, st, p.fr, ?_⟩
  have h' : GoodS X.K X.w xr W0 H0 Wb Hb E ((ev e env st).bind fun v st => match held o v with
      | some v => (ofO (asgN N x v env) st).bind fun env st => .ok (.nxt env) st
      | none => .err) D := by
    have : execAsg N ev o (.Name x px) e env st = (ev e env st).bind fun v st => match held o v with
      | some v => (ofO (asgN N x v env) st).bind fun env st => .ok (.nxt env) st
      | none => .err := by
      unfold execAsg
      dsimp only
      rw [hn]
      try rfl
    rw [← this]
    exact h
  refine GoodS.then h' p.up fun y st2 W2 H2 v A h2 u2 s2 r2 f2 => ?_
  cases eh : held o y with
  | none => rw [eh] at h2; exact h2.elim
  | some z =>
    rw [eh] at h2
    obtain ⟨W3, B, u3, s3, r3, f3, ok⟩ := held_ok u2 s2 r2 f2 eh
    have ea : asgN N x z env = some (setE env i z) := by
      unfold asgN
      rw [hi]
      rfl
    have h3 : GoodS X.K X.w xr W0 H0 Wb Hb E ((ofO (asgN N x z env) st2).bind fun env st => R.ok (Fl.nxt env) st) D := h2
    rw [ea] at h3
    exact h3 W3 H2 _ (p.put u3 s3 r3 f3 ok (by rw [hl, hN]; exact ix_lt hi))
end
end Z

set_option linter.all false
set_option maxRecDepth 100000
set_option maxHeartbeats 1000000
/-! Z59: a slot's own list is spoilt by a def that is handed it. -/
namespace Z
open PySem PySem.Spec PyProof.Rows L2
section
variable {K : PySem.W.Frag} {w : World} {W W' W0 Wb : Wd} {H H' H0 Hb : Hp} {env : Ev} {st : Sto} {σ : L2.St} {A : Nat → List Addr}
/-- lists at B may be others; more may have been laid -/
structure Spoil (H H' : Hp) (B : List Addr) : Prop where
  out : ∀ a o, a ∉ B → H a = some o → H' a = some o
  was : ∀ a ∈ B, ∃ vs, H a = some (.lst vs)
  now : ∀ a ∈ B, ∃ vs, H' a = some (.lst vs)
theorem Spoil.ks {B : List Addr} (s : Spoil H H' B) (nF : ∀ a ∈ B, ¬ W.F a) (dom : ∀ a, W.F a → ∃ o, H a = some o) : KS K W H W H' := by
  refine ⟨⟨fun b vs h => ?_, fun b ob vs h => ?_, fun b f => ⟨f, ?_⟩⟩, List.prefix_refl _⟩
  · rcases h with h | h
    · have hn : b ∉ B := fun m => by
        obtain ⟨us, e⟩ := s.was b m
        rcases h with h | ⟨o, h⟩ <;> (rw [e] at h; cases h)
      rcases h with h | ⟨ob, h⟩
      · exact .inl (.inl (s.out b _ hn h))
      · exact .inl (.inr ⟨ob, s.out b _ hn h⟩)
    · exact .inr h
  · exact s.out b _ (fun m => by
      obtain ⟨us, e⟩ := s.was b m
      rw [e] at h
      cases h) h
  · obtain ⟨o, e⟩ := dom b f
    rw [e]
    exact s.out b o (fun m => nF b m f) e
theorem Spoil.gone {B : List Addr} (sp : Spoil H H' B) {a : Addr} (h : H' a = none) : H a = none := by
  cases e : H a with
  | none => rfl
  | some o =>
    by_cases z : a ∈ B
    · obtain ⟨vs, e'⟩ := sp.now a z
      rw [h] at e'
      cases e'
    · rw [sp.out a o z e] at h
      cases h
theorem Spoil.sr {B : List Addr} (sp : Spoil H H' B) (nF : ∀ a ∈ B, ¬ W.F a) (nb : ∀ a ∈ B, a ∉ W.β) (s : SR K w W H st) : SR K w W H' st where
  len := s.len
  nd := s.nd
  bf := s.bf
  pf := fun a h => by
    obtain ⟨n, o, e⟩ := s.pf a h
    refine ⟨n, ?_⟩
    by_cases z : a ∈ B
    · obtain ⟨vs, e'⟩ := sp.now a z
      exact ⟨_, e'⟩
    · exact ⟨o, sp.out a o z e⟩
  dom := fun a f => by
    obtain ⟨o, e⟩ := s.dom a f
    exact ⟨o, sp.out a o (fun m => nF a m f) e⟩
  cells := fun i c a h1 h2 => by
    obtain ⟨o, e⟩ := s.βdom (List.mem_of_getElem? h2)
    exact (s.cells i c a h1 h2).keepF (sp.ks (K := K) nF s.dom).k (List.prefix_refl _) ((sp.out a o (fun m => nb a m (List.mem_of_getElem? h2)) e).trans e.symm)
  fr := fun a h => s.fr a (sp.gone h)
theorem Pt.spoil (hO : ∀ a, W0.O a → H0 a = none) (p : Pt K w W0 H0 Wb Hb W H env st σ) (e : EnvR K w W H env σ A) {j : Nat} (sp : Spoil H H' (A j)) : Pt K w W0 H0 Wb Hb W H' (env.set j none) st σ := by
  have nF : ∀ a ∈ A j, ¬ W.F a := fun a m => (e.no j a m).1
  have nb : ∀ a ∈ A j, a ∉ W.β := fun a m => (e.no j a m).2.1
  have ks := sp.ks (K := K) (W := W) nF p.fr.sr.dom
  have h0 : ∀ a ∈ A j, H0 a = none := fun a m => hO a (by rw [← p.up.O]; exact (e.no j a m).2.2)
  have e0 := e.drop j
  refine ⟨⟨sp.sr nF nb p.fr.sr, _, ⟨e0.len, fun i x h => ?_, e0.none_, e0.nd, e0.no, e0.np, e0.dj⟩⟩, ?_, p.ks.trans ks, okE_drop p.ok⟩
  · obtain ⟨v, h1, h2⟩ := e0.at_ i x h
    have hx : i ≠ j := fun z => by
      subst z
      by_cases hl : i < env.length
      · rw [List.getElem?_set_self hl] at h; cases h
      · rw [List.getElem?_eq_none (by rw [List.length_set]; omega)] at h; cases h
    have hx2 : env[i]? = some (some x) := by rw [List.getElem?_set_ne (Ne.symm hx)] at h; exact h
    refine ⟨v, h1, h2.okS ks (p.ok i x hx2) fun a m => ?_⟩
    unfold putA at m
    rw [if_neg hx] at m
    obtain ⟨o, eo⟩ := e.dom i a m
    rw [eo]
    exact sp.out a o (fun m2 => e.dj i j hx a m m2) eo
  · have u := p.up
    have ne : ∀ {a o}, H0 a = some o → a ∉ A j := fun eo m => by
      rw [h0 _ m] at eo
      cases eo
    exact ⟨u.F, u.O, u.P, u.β, fun a o eo n => sp.out a o (ne eo) (u.ext a o eo n), fun a o eo => by
      obtain ⟨o', e'⟩ := u.dom a o eo
      exact ⟨o', sp.out a o' (ne eo) e'⟩, u.Fn, u.βn⟩
theorem all_lists {p : RV → Bool} (ih : ∀ (x : RV) (v : V) (A : List Addr), RVr K w W H x v A → p x = true → ∀ a ∈ A, ∃ vs, H a = some (.lst vs)) : ∀ {xs : List RV} {vs : List V} {A : List Addr}, RVs K w W H xs vs A → xs.all p = true → ∀ a ∈ A, ∃ vs, H a = some (.lst vs)
  | _, _, _, .nil, _, _, m => absurd m (by simp)
  | _, _, _, .cons h hs, c, a, m => by
    rw [List.all_cons, Bool.and_eq_true] at c
    rcases List.mem_append.mp m with m | m
    · exact ih _ _ _ h c.1 a m
    · exact all_lists ih hs c.2 a m
/-- what is held by what may be spoilt are lists -/
theorem sp_lists : ∀ (n : Nat) (x : RV) (v : V) (A : List Addr), RVr K w W H x v A → spV n x = true → ∀ a ∈ A, ∃ vs, H a = some (.lst vs)
  | 0, _, _, _, _, c, _, _ => by cases c
  | n + 1, x, v, A, r, c, a, m => by
    cases r with
    | @own a0 xs us A' h hs =>
      rcases List.mem_cons.mp m with e | m
      · exact ⟨_, e ▸ h⟩
      · have c' : (decide (xs.length < lim) && xs.all (spV n)) = true := c
        rw [Bool.and_eq_true] at c'
        exact all_lists (sp_lists n) hs c'.2 a m
    | odi => cases c
    | _ => cases m
end
/-- what a spoiling def promises -/
def spK (K : PySem.W.Frag) (w : World) : Sp := fun vs H Q E => ∃ v x W A, vs = [v] ∧ RVr K w W H x v A ∧ spV 40 x = true ∧ A.Nodup ∧ ∀ H', Spoil H H' A → Q .non H'
structure KillX (X : Cx) (f : Str) : Prop where
  ex : ∃ k a fd p, FnOk X.prog X.w X.K X.mg X.base (L2.CX X.prog X.w) k a fd [p] (spK X.K X.w) ∧ Room k X.A ∧ X.mg f = some (.ref a) ∧ PySem.W.keepIn X.K (.ref a) = true ∧ Binds X.K fd [p] []
  db : (f == ("__debug__" : Str)) = false
section
variable {X : Cx} {xr : XR} {W0 : Wd} {H0 : Hp} {E : L2.St → XW} {N : List Str}
/-- spoil(x), x a slot's own list -/
theorem ps_kill (hO : ∀ a, W0.O a → H0 a = none) {f x : Str} {pf px cpos pos : Pos} {j : Nat} (Kx : KillX X f) (hg : Gl X f) (hx : ∀ σ, PassesAt (L2.CX X.prog X.w) X σ (E σ)) (hN : X.N = N) (hj : ix N x = some j) (hv : Vis X.env.scope x) (hd : (x == ("__debug__" : Str)) = false) (hcd : (x == ("__classdict__" : Str)) = false) :
    PS X (.Expr (.Call (.Name f pf) [.Name x px] [] cpos) pos) (tP X.K X.w xr W0 H0 E X.N.length (fun env => ∃ vs, env[j]? = some (some (.own vs)) ∧ spoilOk vs = true) fun env st => .ok (.nxt (env.set j none)) st) := by
  obtain ⟨k, a, fd, p, F, hr, hm, hk, hb⟩ := Kx.ex
  have pv := pe_var (X := X) (pos := px) (i := j) (by rw [hN]; exact ix_at hj) hv hd hcd
  have pc := pe_callS (pos := cpos) (p := pf) F hr hg hm hk hb hx (pa_cons pv pa_nil) Kx.db
  refine PS.imp (ps_expr pc rfl) fun D σ H ⟨Wb, Hb, W, env, st, p, hl, ⟨vs, hx, hs⟩, h⟩ => ?_
  obtain ⟨A, e⟩ := p.fr.env
  obtain ⟨v, h1, h2⟩ := e.at_ j _ hx
  exact ⟨v, h1, v, .own vs, W, A j, rfl, h2, hs, e.nd j, fun H' sp => h W H' σ (p.spoil hO e sp)⟩
end
end Z

set_option linter.all false
set_option maxRecDepth 100000
set_option maxHeartbeats 1000000
/-! Z60: the look at statements; stores. -/
namespace Z
open PySem PySem.Spec PyProof.Rows L2
def twoB (N : List Str) (sc : Scope) (ts es : List Expr) : Bool := match ts, es with
  | [.Name x _, .Name y _], [_, _] => (ix N x).isSome && (ix N y).isSome && decide (ix N x ≠ ix N y) && (match sc.names.lookup x with | some .local => true | _ => false) && (match sc.names.lookup y with | some .local => true | _ => false) && decide (swNames sc ts = [x, y])
  | _, _ => false
def wfA (wf : Expr → Bool) (N : List Str) (sc : Scope) (t e : Expr) : Bool := match t with
  | .Name x px => (ix N x).isSome && locB sc true x && wf e && (match e with
    | .ListComp elt gs sc' p2 => true
    | .DictComp _ _ _ sc' p2 => !swB sc sc' x px p2
    | .SetComp _ _ _ _ => false
    | _ => true)
  | .Tuple ts _ _ => match e with
    | .Tuple es _ _ => es.all wf && es.all unstar && decide (es.length ≤ 1000) && (match swKind sc ts es with
      | 0 => tgsC N sc ts
      | 1 => twoB N sc ts es
      | _ => false)
    | e => wf e && tgsC N sc ts
  | .Subscript b i _ => !isSlice i && wf b && wf i && wf e
  | _ => true
def wfX (cf : Cfg) (wf : Expr → Bool) (N : List Str) (sc : Scope) (e : Expr) : Bool := match e with
  | .Call (.Attribute b m ap) [a] [] cp => wf e && (if seq' m "append" || seq' m "extend" then wf a && unstar a && wf b && baseB b && decide (ap.endLine = cp.line) else true)
  | .Call (.Name f _) [a] [] _ => if cf.kill f then glB sc f && (match a with
      | .Name x _ => visB sc x && nmB x
      | _ => true) else wf e
  | e => wf e && !isComp e
def isAdd : Operator → Bool
  | .Add => true
  | _ => false
def wfS (cf : Cfg) (N : List Str) (wf : Expr → Bool) (sc : Scope) : Nat → Stmt → Bool
  | 0, _ => true
  | n + 1, s => match s with
    | .Assign [t] e _ => wfA wf N sc t e
    | .AugAssign (.Name x _) op e _ => match ix N x with
      | some _ => isAdd op && locB sc true x && wf e
      | none => true
    | .Expr e _ => wfX cf wf N sc e
    | .Return (some e) _ => wf e
    | .If c a b _ => wf c && a.all (wfS cf N wf sc n) && b.all (wfS cf N wf sc n)
    | .For tg it body [] _ => wfI wf sc tg it && tgC N sc tg && body.all (wfS cf N wf sc n)
    | .While c body [] _ => wf c && body.all (wfS cf N wf sc n)
    | _ => true
/-- a def's context -/
structure SOk (cf : Cfg) (C : Str → List RV → Sto → R RV) (N : List Str) (xr : XR) (X : Cx) (sc : Scope) : Prop extends XOk cf C N xr X sc where
  kf : sc.kind = .function
  loc : ∀ x, locB sc true x = true → Loc X.env.scope x ∧ (X.fn x = true ∨ X.env.scope.names.lookup x = some .local)
  po : PassesOwn (model X.prog X.w) X.A X.env X.xe
  kl : ∀ f, cf.kill f = true → KillX X f
/-- what is known of expressions -/
structure WOk (cf : Cfg) (N : List Str) (sc : Scope) (ev : Expr → Ev → Sto → R RV) (xr : XR) (X : Cx) (E : L2.St → XW) (wf : Expr → Bool) : Prop where
  e : ∀ e, wf e = true → PE X e (tEv X.K X.w xr E (ev e)) ∧ PT X e (tT X.K X.w xr E (evT ev e))
  lc : ∀ elt gs sc' p x px pos i, wf (.ListComp elt gs sc' p) = true → swB sc sc' x px p = true → X.N[i]? = some x → ∃ te, PS X (.Assign [.Name x px] (.ListComp elt gs sc' p) pos) (tAsg te (gName i)) ∧ ∀ σ H Q, tEv X.K X.w xr E (ev (.ListComp elt gs sc' p)) σ H Q → te σ H Q
  nm : ∀ x p i, wf (.Name x p) = true → ix N x = some i → visB sc x = true ∧ nmB x = true
section
variable {cf : Cfg} {C : Str → List RV → Sto → R RV} {N : List Str} {xr : XR} {X : Cx} {sc : Scope} {W0 : Wd} {H0 : Hp} {E : L2.St → XW} {ev : Expr → Ev → Sto → R RV} {wf : Expr → Bool}
theorem ps_err {s : Stmt} : PS X s (tS X.K X.w xr W0 H0 E fun _ _ => .err) := ⟨fun _ _ _ _ _ _ ⟨_, _, _, _, _, _, h⟩ => h.elim⟩
theorem tP_err {s : Stmt} {n : Nat} {c : Ev → Prop} {f : Ev → Sto → R Fl} (h : ∀ env st, c env → f env st = .err) : PS X s (tP X.K X.w xr W0 H0 E n c f) := ⟨fun _ _ _ _ _ _ ⟨_, _, _, env, st, _, _, hc, g⟩ => by rw [h env st hc] at g; exact g.elim⟩
/-- the same, read otherwise -/
theorem tP_eq {s : Stmt} {n : Nat} {c c' : Ev → Prop} {f f' : Ev → Sto → R Fl} (h : PS X s (tP X.K X.w xr W0 H0 E n c' f')) (hc : ∀ env, env.length = n → c env → c' env) (e : ∀ env st, c env → f env st = f' env st) : PS X s (tP X.K X.w xr W0 H0 E n c f) :=
  PS.imp h fun D σ H ⟨Wb, Hb, W, env, st, p, hl, hcc, g⟩ => ⟨Wb, Hb, W, env, st, p, hl, hc env hl hcc, by rw [← e env st hcc]; exact g⟩
theorem tP_tS {s : Stmt} {n : Nat} {c : Ev → Prop} {f f' : Ev → Sto → R Fl} (h : PS X s (tS X.K X.w xr W0 H0 E f')) (e : ∀ env st, c env → f env st = f' env st) : PS X s (tP X.K X.w xr W0 H0 E n c f) :=
  PS.imp h fun D σ H ⟨Wb, Hb, W, env, st, p, hl, hcc, g⟩ => ⟨Wb, Hb, W, env, st, p, by rw [← e env st hcc]; exact g⟩
theorem ownSlot_not {e : Expr} (h : ∀ x p, e ≠ .Name x p) (env : Ev) : ownSlot N env e = none := by
  unfold ownSlot
  split
  · exact absurd rfl (h _ _)
  · rfl
theorem ownDict_not {e : Expr} (h : ∀ x p, e ≠ .Name x p) (env : Ev) : ownDict N env e = none := by
  unfold ownDict
  split
  · exact absurd rfl (h _ _)
  · rfl
theorem ownDict_some {env : Ev} {e : Expr} {j : Nat} {kvs : List (PyData × RV)} (h : ownDict N env e = some (j, kvs)) : ∃ x p, e = .Name x p ∧ ix N x = some j ∧ env[j]? = some (some (.odi kvs)) := by
  unfold ownDict at h
  split at h
  · split at h
    · split at h
      · cases h
        exact ⟨_, _, rfl, by assumption, by assumption⟩
      · cases h
    · cases h
  · cases h
/-- name = e -/
theorem asg_name_ok (O : SOk cf C N xr X sc) (hW : WOk cf N sc ev xr X E wf) {x : Str} {px : Pos} {e : Expr} {pos : Pos} {o : Bool} (h : wfA wf N sc (.Name x px) e = true) :
    PS X (.Assign [.Name x px] e pos) (tS X.K X.w xr W0 H0 E fun env st => execAsg N ev o (.Name x px) e env st) := by
  unfold wfA at h
  dsimp only at h
  obtain ⟨h, h4⟩ := and2 h
  obtain ⟨h, h3⟩ := and2 h
  obtain ⟨h1, h2⟩ := and2 h
  obtain ⟨i, hi⟩ := Option.isSome_iff_exists.mp h1
  obtain ⟨l1, l2⟩ := O.loc x h2
  have hnd : X.N.Nodup := by rw [O.hN]; exact O.nd
  have hix : X.N[i]? = some x := by rw [O.hN]; exact ix_at hi
  have set : ∀ te, PE X e te → swapsWith e (some (.Name x px)) pos.line X.env = pure false → PS X (.Assign [.Name x px] e pos) (tAsg te (gName i)) := fun te pe hs => ps_set hnd hix l1 pe hs l2
  have plain : swapsWith e (some (.Name x px)) pos.line X.env = pure false → PS X (.Assign [.Name x px] e pos) (tP X.K X.w xr W0 H0 E X.N.length (fun env => ownSlot N env e = none) fun env st => execAsg N ev o (.Name x px) e env st) := fun hs =>
    ps_name' O.hN hi (set _ (hW.e e h3).1 hs) fun σ H Q q => q
  have noown : PS X (.Assign [.Name x px] e pos) (tP X.K X.w xr W0 H0 E X.N.length (fun env => ownSlot N env e = none) fun env st => execAsg N ev o (.Name x px) e env st) → (∀ y p, e ≠ .Name y p) → PS X (.Assign [.Name x px] e pos) (tS X.K X.w xr W0 H0 E fun env st => execAsg N ev o (.Name x px) e env st) := fun hp hn =>
    tP_of (tP_eq hp (fun env _ _ => ownSlot_not hn env) fun _ _ _ => rfl)
  by_cases hc : isComp e = true
  · cases e with
    | ListComp elt gs sc' p2 =>
      refine noown ?_ fun _ _ z => by cases z
      have hsw := swB_ok (elt := elt) (gs := gs) (sc' := sc') (y := x) (py := px) (pos := p2) (l := pos.line) O.hs O.kf
      cases hb : swB sc sc' x px p2 with
      | false => exact plain (by rw [hsw, hb])
      | true =>
        obtain ⟨te, hR, hk⟩ := hW.lc elt gs sc' p2 x px pos i h3 hb hix
        exact ps_name' O.hN hi hR hk
    | DictComp k v gs sc' p2 =>
      refine noown (plain ?_) fun _ _ z => by cases z
      have hsw := swB_ok (elt := k) (gs := gs) (sc' := sc') (y := x) (py := px) (pos := p2) (l := pos.line) O.hs O.kf
      have : swB sc sc' x px p2 = false := by simpa using h4
      rw [this] at hsw
      exact hsw
    | SetComp => cases h4
    | _ => cases hc
  · have hc : isComp e = false := by simpa using hc
    have hs := swaps_not hc (some (.Name x px)) pos.line X.env
    by_cases hn : ∃ y p, e = .Name y p
    · obtain ⟨y, p, rfl⟩ := hn
      refine tP_of (tP_or (fun env => ownSlot N env (.Name y p) = none) (tP_eq (plain hs) (fun _ _ q => q.2) fun _ _ _ => rfl) ?_)
      cases hj : ix N y with
      | none =>
        exact ⟨fun pins sh σ H D I ⟨Wb, Hb, W, env, st, pt, hl, ⟨_, hc⟩, g⟩ => absurd (by unfold ownSlot; dsimp only; rw [hj]) hc⟩
      | some j =>
        obtain ⟨v1, v2⟩ := hW.nm y p j h3 hj
        obtain ⟨n1, n2⟩ := nmB_ok v2
        refine PS.imp (ps_move (xr := xr) (W0 := W0) (H0 := H0) (E := E) (px := px) (pos := pos) O.hN hj (by rw [O.hs]; exact visB_ok v1) n1 n2 fun te pe => set te pe hs) fun D σ H ⟨Wb, Hb, W, env, st, pt, hl, ⟨_, hc⟩, g⟩ => ?_
        cases ho : ownSlot N env (.Name y p) with
        | none => exact absurd ho hc
        | some q =>
          obtain ⟨j', vs⟩ := q
          obtain ⟨a1, a2⟩ := ownSlot_name ho
          rw [hj] at a1
          cases a1
          refine ⟨Wb, Hb, W, env, st, vs, pt, by rw [hl, O.hN]; exact ix_lt hi, a2, ?_⟩
          have e1 : execAsg N ev o (.Name x px) (.Name y p) env st = .ok (.nxt ((env.set j none).set i (some (.own vs)))) st := by
            unfold execAsg
            dsimp only
            rw [ho]
            dsimp only
            rw [hi]
          rw [← e1]
          exact g
    · exact noown (plain hs) fun y p z => hn ⟨y, p, z⟩
end
end Z

set_option linter.all false
set_option maxRecDepth 100000
set_option maxHeartbeats 1000000
/-! Z61: tuples stored, items stored. -/
namespace Z
open PySem PySem.Spec PyProof.Rows L2
section
variable {cf : Cfg} {C : Str → List RV → Sto → R RV} {N : List Str} {xr : XR} {X : Cx} {sc : Scope} {W0 : Wd} {H0 : Hp} {E : L2.St → XW} {ev : Expr → Ev → Sto → R RV} {wf : Expr → Bool}
theorem swapsSole {t e : Expr} {l : Nat} {env : Env} : swapsWithSole [t] e l env = swapsWith e (some t) l env := rfl
theorem dats_map : ∀ {vs : List RV} {ds : List PyData}, dats vs = some ds → vs = ds.map .dat ∧ okTs vs = true
  | [], _, e => by
    rw [dats] at e
    cases e
    exact ⟨rfl, rfl⟩
  | .dat d :: r, _, e => by
    rw [dats] at e
    obtain ⟨ds, h1, rfl⟩ := Option.map_eq_some_iff.mp e
    obtain ⟨a, b⟩ := dats_map h1
    exact ⟨by rw [a]; rfl, by rw [okTs, b]; rfl⟩
  | .ref _ :: _, _, e => by simp [dats] at e
  | .own _ :: _, _, e => by simp [dats] at e
  | .odi _ :: _, _, e => by simp [dats] at e
  | .bor _ :: _, _, e => by simp [dats] at e
  | .tpl _ :: _, _, e => by simp [dats] at e
  | .scr _ :: _, _, e => by simp [dats] at e
theorem asgTup_all : ∀ {ts es : List Expr} {env : Ev} {l : List (Nat × Expr)} {vs : List RV}, asgTup N ts es env = some l → vs.length = es.length → ∀ env, asgNs N ts vs env = some (setAll (l.map (·.1)) vs env)
  | [], [], _, l, vs, e, hl, env => by
    cases e
    match vs, hl with
    | [], _ => rfl
  | .Name x p :: ts, e1 :: es, env0, l, vs, e, hl, env => by
    rw [asgTup] at e
    split at e
    · rename_i i l' hi hl'
      cases e
      match vs, hl with
      | v :: vs, hl =>
        have ih := asgTup_all hl' (vs := vs) (by simpa using hl) (setE env i v)
        show (asgN N x v env).bind (asgNs N ts vs) = _
        unfold asgN
        rw [hi]
        exact ih
    · cases e
theorem evK_len' {es : List Expr} {env : Ev} {st st' : Sto} {vs : List RV} (h : evK ev es env st = .ok vs st') : vs.length = es.length := by
  obtain ⟨xs, st1, h1, h2⟩ := bind_ok h
  obtain ⟨h3, _⟩ := ofO_ok h2
  rw [keeps_len h3, evL_len h1]
/-- (a, b) = (x, y), as a tuple's parts -/
theorem tup_eq {ts es : List Expr} {env : Ev} {st : Sto} {l : List (Nat × Expr)} (h : asgTup N ts es env = some l) :
    ((evK ev es env st).bind fun vs st => if okTs vs then R.ok (Fl.nxt (setAll (l.map (·.1)) vs env)) st else .err) =
    (((evK ev es env st).bind fun vs st => R.ok (match dats vs with | some ds => RV.dat (.tuple ds) | none => .tpl vs) st).bind fun v st => match v with
      | .dat (.tuple ds) => (ofO (asgNs N ts (ds.map .dat) env) st).bind fun env st => .ok (.nxt env) st
      | .tpl vs => if okTs vs then (ofO (asgNs N ts vs env) st).bind fun env st => .ok (.nxt env) st else .err
      | _ => .err) := by
  cases e : evK ev es env st with
  | err => rfl
  | exc c xs st' => rfl
  | ok vs st' =>
    have hl := evK_len' e
    have ha := asgTup_all h hl env
    show (if okTs vs then R.ok (Fl.nxt (setAll (l.map (·.1)) vs env)) st' else .err) = R.bind (R.ok (match dats vs with | some ds => RV.dat (.tuple ds) | none => .tpl vs) st') _
    cases d : dats vs with
    | some ds =>
      obtain ⟨m1, m2⟩ := dats_map d
      rw [m2, if_pos rfl]
      show _ = (ofO (asgNs N ts (ds.map .dat) env) st').bind fun env st => R.ok (Fl.nxt env) st
      rw [← m1, ha]
      rfl
    | none =>
      show _ = if okTs vs then (ofO (asgNs N ts vs env) st').bind fun env st => R.ok (Fl.nxt env) st else .err
      rw [ha]
      rfl
theorem asg_tup_ok (O : SOk cf C N xr X sc) (hW : WOk cf N sc ev xr X E wf) {ts : List Expr} {kt : Nat} {pt : Pos} {e : Expr} {pos : Pos} {o : Bool} (h : wfA wf N sc (.Tuple ts kt pt) e = true) :
    PS X (.Assign [.Tuple ts kt pt] e pos) (tS X.K X.w xr W0 H0 E fun env st => execAsg N ev o (.Tuple ts kt pt) e env st) := by
  have hN := O.hN
  have hnd : X.N.Nodup := by rw [O.hN]; exact O.nd
  by_cases ht : ∃ es k2 p2, e = .Tuple es k2 p2
  · obtain ⟨es, k2, p2, rfl⟩ := ht
    have h' : (es.all wf && es.all unstar && decide (es.length ≤ 1000) && (match swKind sc ts es with
      | 0 => tgsC N sc ts
      | 1 => twoB N sc ts es
      | _ => false)) = true := h
    obtain ⟨h', h4⟩ := and2 h'
    obtain ⟨h', h3⟩ := and2 h'
    obtain ⟨h1, h2⟩ := and2 h'
    have hE := fun e m => (hW.e e (all_mem h1 e m)).1
    obtain ⟨s0, s1⟩ := sw_eq O.hs O.kf ts es kt k2 pt p2
    refine tP_of (tP_or (fun env => asgTup N ts es env = none) (tP_err fun env st q => ?_) ?_)
    · unfold execAsg
      dsimp only
      rw [q.2]
    split at h4
    · rename_i hk
      have pe := pe_tuple (w := X.w) (xr := xr) (E := E) (k := k2) (pos := p2) hE (all_mem h2) (of_decide_eq_true h3)
      have pg := pg_of' (t := .Tuple ts kt pt) O.calm hnd O.loc (by rw [hN]; exact h4)
      have hR := ps_asg (pos := pos) pe pg (by rw [swapsSole]; exact swaps_tup) (s0 hk) rfl
      rw [hN] at hR
      have := ps_tupV (W0 := W0) (H0 := H0) (N := N) (ev := fun _ env st => (evK ev es env st).bind fun vs st => .ok (match dats vs with | some ds => .dat (.tuple ds) | none => .tpl vs) st) hR
      refine PS.imp this fun D σ H ⟨Wb, Hb, W, env, st, p, hl, ⟨_, hc⟩, g⟩ => ⟨Wb, Hb, W, env, st, p, ?_⟩
      cases ha : asgTup N ts es env with
      | none => exact absurd ha hc
      | some l =>
        have e1 : execAsg N ev o (.Tuple ts kt pt) (.Tuple es k2 p2) env st = (evK ev es env st).bind fun vs st => if okTs vs then R.ok (Fl.nxt (setAll (l.map (·.1)) vs env)) st else .err := by
          unfold execAsg
          dsimp only
          rw [ha]
        dsimp only at g
        rw [e1, tup_eq ha] at g
        exact g
    · rename_i hk
      match ts, es, h4, hE, h2, hk, s1 with
      | [.Name x px, .Name y py], [a, b], h4, hE, h2, hk, s1 =>
        unfold twoB at h4
        dsimp only at h4
        obtain ⟨h4, h9⟩ := and2 h4
        obtain ⟨h4, h8⟩ := and2 h4
        obtain ⟨h4, h7⟩ := and2 h4
        obtain ⟨h4, h6⟩ := and2 h4
        obtain ⟨h4, h5⟩ := and2 h4
        obtain ⟨i, hi⟩ := Option.isSome_iff_exists.mp h4
        obtain ⟨j, hj⟩ := Option.isSome_iff_exists.mp h5
        have hij : i ≠ j := fun z => by
          have := of_decide_eq_true h6
          rw [hi, hj, z] at this
          exact this rfl
        have look : ∀ z, (match sc.names.lookup z with | some .local => true | _ => false) = true → X.env.scope.names.lookup z = some .local := fun z hz => by
          rw [O.hs]
          split at hz
          · assumption
          · cases hz
        have hw := s1 hk
        rw [of_decide_eq_true h9] at hw
        refine PS.imp (ps_two (W0 := W0) (H0 := H0) (E := E) (xr := xr) (ev := ev) O.calm hnd (by rw [hN]; exact hi) (by rw [hN]; exact hj) hij (look x h7) (look y h8) hE (all_mem h2) hw (by rw [swapsSole]; exact swaps_tup)) fun D σ H ⟨Wb, Hb, W, env, st, p, hl, ⟨_, hc⟩, g⟩ => ⟨Wb, Hb, W, env, st, p, by rw [hl, hN]; exact ix_lt hi, by rw [hl, hN]; exact ix_lt hj, ?_⟩
        have ha : asgTup N [.Name x px, .Name y py] [a, b] env = some [(i, a), (j, b)] := by
          rw [asgTup, asgTup, asgTup, hi, hj]
        have e1 : execAsg N ev o (.Tuple [.Name x px, .Name y py] kt pt) (.Tuple [a, b] k2 p2) env st = (evK ev [a, b] env st).bind fun vs st => if okTs vs then R.ok (Fl.nxt (setAll [i, j] vs env)) st else .err := by
          unfold execAsg
          dsimp only
          rw [ha]
          rfl
        dsimp only at g
        rw [e1] at g
        exact g
    · cases h4
  · have h' : (wf e && tgsC N sc ts) = true := by
      rw [← h]
      unfold wfA
      dsimp only
      split
      · exact absurd ⟨_, _, _, rfl⟩ ht
      · rfl
    obtain ⟨h1, h2⟩ := and2 h'
    have pg := pg_of' (t := .Tuple ts kt pt) O.calm hnd O.loc (by rw [hN]; exact h2)
    have hw : swappedStores [.Tuple ts kt pt] e X.env = pure none := by
      cases e <;> first | rfl | exact absurd ⟨_, _, _, rfl⟩ ht
    have hR := ps_asg (pos := pos) (hW.e e h1).1 pg (by rw [swapsSole]; exact swaps_tup) hw rfl
    rw [hN] at hR
    have := ps_tupV (W0 := W0) (H0 := H0) (N := N) (ev := ev) hR
    refine PS.imp this fun D σ H ⟨Wb, Hb, W, env, st, p, g⟩ => ⟨Wb, Hb, W, env, st, p, ?_⟩
    have e1 : execAsg N ev o (.Tuple ts kt pt) e env st = (ev e env st).bind fun v st => match v with
        | .dat (.tuple ds) => (ofO (asgNs N ts (ds.map .dat) env) st).bind fun env st => .ok (.nxt env) st
        | .tpl vs => if okTs vs then (ofO (asgNs N ts vs env) st).bind fun env st => .ok (.nxt env) st else .err
        | _ => .err := by
      unfold execAsg
      dsimp only
      split
      · exact absurd ⟨_, _, _, rfl⟩ ht
      · rfl
    dsimp only at g
    rw [e1] at g
    exact g
theorem swapped_sub {b i e : Expr} {ps : Pos} {env : Env} : swappedStores [.Subscript b i ps] e env = pure none := rfl
/-- b[i] = e -/
theorem asg_sub_ok (hO : ∀ a, W0.O a → H0 a = none) (O : SOk cf C N xr X sc) (hW : WOk cf N sc ev xr X E wf) {b i e : Expr} {ps pos : Pos} {o : Bool} (h : wfA wf N sc (.Subscript b i ps) e = true) :
    PS X (.Assign [.Subscript b i ps] e pos) (tS X.K X.w xr W0 H0 E fun env st => execAsg N ev o (.Subscript b i ps) e env st) := by
  have h' : (!isSlice i && wf b && wf i && wf e) = true := h
  obtain ⟨h', h4⟩ := and2 h'
  obtain ⟨h', h3⟩ := and2 h'
  obtain ⟨h1, h2⟩ := and2 h'
  have hsl : isSlice i = false := by simpa using h1
  have hs : swapsWithSole [.Subscript b i ps] e pos.line X.env = pure false := by rw [swapsSole]; exact swaps_sub
  have pb := (hW.e b h2).1
  have pi := (hW.e i h3).1
  have pe := (hW.e e h4).1
  refine tP_of (tP_or (fun env => (ownSlot N env b).isSome = true) ?_ (tP_or (fun env => (ownDict N env b).isSome = true) ?_ ?_))
  · by_cases hb : ∃ x p, b = .Name x p
    · obtain ⟨x, p, rfl⟩ := hb
      cases hj : ix N x with
      | none => exact ⟨fun pins sh σ H D I ⟨Wb, Hb, W, env, st, pt, hl, ⟨_, hc⟩, g⟩ => by
          unfold ownSlot at hc
          dsimp only at hc
          rw [hj] at hc
          cases hc⟩
      | some j =>
        obtain ⟨v1, v2⟩ := hW.nm x p j h2 hj
        obtain ⟨n1, n2⟩ := nmB_ok v2
        refine PS.imp (ps_putL (xr := xr) (E := E) (W0 := W0) (H0 := H0) hO O.hN hj (by rw [O.hs]; exact visB_ok v1) n1 n2 hsl O.un pi pe hs swapped_sub) fun D σ H ⟨Wb, Hb, W, env, st, pt, hl, ⟨_, hc⟩, g⟩ => ?_
        obtain ⟨⟨j', vs⟩, ho⟩ := Option.isSome_iff_exists.mp hc
        obtain ⟨a1, a2⟩ := ownSlot_name ho
        rw [hj] at a1
        cases a1
        refine ⟨Wb, Hb, W, env, st, vs, pt, a2, ?_⟩
        unfold execAsg at g
        dsimp only at g
        rw [ho] at g
        exact g
    · exact ⟨fun pins sh σ H D I ⟨Wb, Hb, W, env, st, pt, hl, ⟨_, hc⟩, g⟩ => by
        rw [ownSlot_not (fun x p z => hb ⟨x, p, z⟩)] at hc
        cases hc⟩
  · by_cases hb : ∃ x p, b = .Name x p
    · obtain ⟨x, p, rfl⟩ := hb
      cases hj : ix N x with
      | none => exact ⟨fun pins sh σ H D I ⟨Wb, Hb, W, env, st, pt, hl, ⟨_, hc⟩, g⟩ => by
          unfold ownDict at hc
          dsimp only at hc
          rw [hj] at hc
          cases hc⟩
      | some j =>
        obtain ⟨v1, v2⟩ := hW.nm x p j h2 hj
        obtain ⟨n1, n2⟩ := nmB_ok v2
        refine PS.imp (ps_putD (xr := xr) (E := E) (W0 := W0) (H0 := H0) hO O.hN hj (by rw [O.hs]; exact visB_ok v1) n1 n2 hsl O.un pi pe hs swapped_sub) fun D σ H ⟨Wb, Hb, W, env, st, pt, hl, ⟨⟨_, hn⟩, hc⟩, g⟩ => ?_
        obtain ⟨⟨j', kvs⟩, ho⟩ := Option.isSome_iff_exists.mp hc
        obtain ⟨x', p', ex, a1, a2⟩ := ownDict_some ho
        cases ex
        rw [hj] at a1
        cases a1
        have hn' : ownSlot N env (.Name x p) = none := by simpa using hn
        refine ⟨Wb, Hb, W, env, st, kvs, pt, a2, ?_⟩
        unfold execAsg at g
        dsimp only at g
        rw [hn', ho] at g
        exact g
    · exact ⟨fun pins sh σ H D I ⟨Wb, Hb, W, env, st, pt, hl, ⟨_, hc⟩, g⟩ => by
        rw [ownDict_not (fun x p z => hb ⟨x, p, z⟩)] at hc
        cases hc⟩
  · refine tP_tS (ps_putC (xr := xr) (E := E) (W0 := W0) (H0 := H0) hsl O.un pb pi pe hs swapped_sub) fun env st ⟨⟨_, h1⟩, h2⟩ => ?_
    have e1 : ownSlot N env b = none := by simpa using h1
    have e2 : ownDict N env b = none := by simpa using h2
    unfold execAsg
    dsimp only
    rw [e1, e2]
    try rfl
end
end Z

set_option linter.all false
set_option maxRecDepth 100000
set_option maxHeartbeats 1000000
/-! Z62: every statement that passes the look does what the reader says. -/
namespace Z
open PySem PySem.Spec PyProof.Rows L2
section
variable {cf : Cfg} {C : Str → List RV → Sto → R RV} {N : List Str} {xr : XR} {X : Cx} {sc : Scope} {W0 : Wd} {H0 : Hp} {E : L2.St → XW} {ev : Expr → Ev → Sto → R RV} {wf : Expr → Bool}
/-- a method's call, as a statement -/
theorem ex_attr_ok (hO : ∀ a, W0.O a → H0 a = none) (O : SOk cf C N xr X sc) (hW : WOk cf N sc ev xr X E wf) {b a : Expr} {m : Str} {ap cp pos : Pos} (h : wfX cf wf N sc (.Call (.Attribute b m ap) [a] [] cp) = true) :
    PS X (.Expr (.Call (.Attribute b m ap) [a] [] cp) pos) (tS X.K X.w xr W0 H0 E fun env st => execExpr cf N ev (.Call (.Attribute b m ap) [a] [] cp) env st) := by
  obtain ⟨h1, h2⟩ := and2 (show (wf (.Call (.Attribute b m ap) [a] [] cp) && (if seq' m "append" || seq' m "extend" then wf a && unstar a && wf b && baseB b && decide (ap.endLine = cp.line) else true)) = true from h)
  have pc := (hW.e _ h1).1
  refine tP_of (tP_or (fun env => (ownSlot N env b).isSome = true) ?_ ?_)
  · by_cases hb : ∃ x p, b = .Name x p
    · obtain ⟨x, p, rfl⟩ := hb
      cases hj : ix N x with
      | none => exact ⟨fun pins sh σ H D I ⟨Wb, Hb, W, env, st, pt, hl, ⟨_, hc⟩, g⟩ => by
          unfold ownSlot at hc
          dsimp only at hc
          rw [hj] at hc
          cases hc⟩
      | some j =>
        have own : ∀ {env : Ev}, (ownSlot N env (.Name x p)).isSome = true → ∃ vs, ownSlot N env (.Name x p) = some (j, vs) ∧ env[j]? = some (some (.own vs)) := fun {env} hc => by
          obtain ⟨⟨j', vs⟩, ho⟩ := Option.isSome_iff_exists.mp hc
          obtain ⟨a1, a2⟩ := ownSlot_name ho
          rw [hj] at a1
          cases a1
          exact ⟨vs, ho, a2⟩
        cases hm : (seq' m "append" || seq' m "extend") with
        | false =>
          refine tP_err fun env st ⟨_, hc⟩ => ?_
          obtain ⟨vs, ho, _⟩ := own hc
          have hm' : seq' m "append" = false ∧ seq' m "extend" = false := by simpa using hm
          unfold execExpr
          dsimp only
          rw [ho]
          simp only [hm'.1, hm'.2, Bool.false_eq_true, if_false]
        | true =>
          rw [hm, if_pos rfl] at h2
          obtain ⟨h2, k5⟩ := and2 h2
          obtain ⟨h2, k4⟩ := and2 h2
          obtain ⟨h2, k3⟩ := and2 h2
          obtain ⟨k1, k2⟩ := and2 h2
          obtain ⟨v1, v2⟩ := hW.nm x p j k3 hj
          obtain ⟨n1, n2⟩ := nmB_ok v2
          have M := mcall_ok (X := X) (o := .Name x p) (e := a) (es := []) (apos := ap) (cpos := cp) k4 (fun y hy => by rw [List.mem_singleton.mp hy]; exact k2) (of_decide_eq_true k5) (by simp)
          have hv : Vis X.env.scope x := by rw [O.hs]; exact visB_ok v1
          have pa := (hW.e a k1).1
          cases ha : seq' m "append" with
          | true =>
            obtain rfl := seq_eq ha
            refine PS.imp (ps_append (xr := xr) (E := E) (W0 := W0) (H0 := H0) (pos := pos) hO O.hN hj hv n1 n2 M pa k2) fun D σ H ⟨Wb, Hb, W, env, st, pt, hl, ⟨_, hc⟩, g⟩ => ?_
            obtain ⟨vs, ho, hx⟩ := own hc
            refine ⟨Wb, Hb, W, env, st, vs, pt, hx, ?_⟩
            unfold execExpr at g
            dsimp only at g
            rw [ho] at g
            dsimp only at g
            rw [if_pos ha] at g
            exact g
          | false =>
            have he : seq' m "extend" = true := by rw [ha, Bool.false_or] at hm; exact hm
            obtain rfl := seq_eq he
            refine PS.imp (ps_extend (xr := xr) (E := E) (W0 := W0) (H0 := H0) (pos := pos) hO O.hN hj hv n1 n2 M pa k2) fun D σ H ⟨Wb, Hb, W, env, st, pt, hl, ⟨_, hc⟩, g⟩ => ?_
            obtain ⟨vs, ho, hx⟩ := own hc
            refine ⟨Wb, Hb, W, env, st, vs, pt, hx, ?_⟩
            unfold execExpr at g
            dsimp only at g
            rw [ho] at g
            dsimp only at g
            rw [if_neg (by rw [ha]; exact Bool.false_ne_true), if_pos he] at g
            exact g
    · exact ⟨fun pins sh σ H D I ⟨Wb, Hb, W, env, st, pt, hl, ⟨_, hc⟩, g⟩ => by
        rw [ownSlot_not (fun x p z => hb ⟨x, p, z⟩)] at hc
        cases hc⟩
  · refine tP_tS (ps_ex (W0 := W0) (H0 := H0) (pos := pos) pc rfl) fun env st ⟨_, hc⟩ => ?_
    have e1 : ownSlot N env b = none := by simpa using hc
    unfold execExpr
    dsimp only
    rw [e1]
theorem wfX_call {a : Expr} {f : Str} {fp cp : Pos} : wfX cf wf N sc (.Call (.Name f fp) [a] [] cp) = if cf.kill f then glB sc f && (match a with
      | .Name x _ => visB sc x && nmB x
      | _ => true) else wf (.Call (.Name f fp) [a] [] cp) := rfl
/-- a def's call, as a statement -/
theorem ex_call_ok (hO : ∀ a, W0.O a → H0 a = none) (O : SOk cf C N xr X sc) (hx : ∀ σ, PassesAt (L2.CX X.prog X.w) X σ (E σ)) (hW : WOk cf N sc ev xr X E wf) {a : Expr} {f : Str} {fp cp pos : Pos} (h : wfX cf wf N sc (.Call (.Name f fp) [a] [] cp) = true) :
    PS X (.Expr (.Call (.Name f fp) [a] [] cp) pos) (tS X.K X.w xr W0 H0 E fun env st => execExpr cf N ev (.Call (.Name f fp) [a] [] cp) env st) := by
  rw [wfX_call] at h
  have h' := h
  have e0 : (fun env st => execExpr cf N ev (.Call (.Name f fp) [a] [] cp) env st) = fun env st => if cf.kill f then match ownSlot N env a with
      | some (j, vs) => if spoilOk vs then .ok (.nxt (env.set j none)) st else .err
      | none => .err
    else (ev (.Call (.Name f fp) [a] [] cp) env st).bind fun _ st => .ok (.nxt env) st := rfl
  rw [e0]
  cases hk : cf.kill f with
  | false =>
    rw [hk, if_neg Bool.false_ne_true] at h'
    simp only [Bool.false_eq_true, if_false]
    exact ps_ex (hW.e _ h').1 rfl
  | true =>
    rw [hk, if_pos rfl] at h'
    simp only [if_true]
    obtain ⟨g, h2⟩ := and2 h'
    by_cases hb : ∃ x p, a = .Name x p
    · obtain ⟨x, p, rfl⟩ := hb
      obtain ⟨v1, v2⟩ := and2 h2
      obtain ⟨n1, n2⟩ := nmB_ok v2
      cases hj : ix N x with
      | none =>
        refine tP_of (tP_err fun env st _ => ?_)
        have : ownSlot N env (.Name x p) = none := by
          unfold ownSlot
          dsimp only
          rw [hj]
        rw [this]
      | some j =>
        refine tP_of (tP_or (fun env => ∃ vs, ownSlot N env (.Name x p) = some (j, vs) ∧ spoilOk vs = true) (tP_eq (ps_kill (pf := fp) (px := p) (cpos := cp) (pos := pos) hO (O.kl f hk) (glB_ok O.hs g) hx O.hN hj (by rw [O.hs]; exact visB_ok v1) n1 n2) (fun env _ ⟨_, vs, ho, hs⟩ => ⟨vs, (ownSlot_name ho).2, hs⟩) fun env st ⟨_, vs, ho, hs⟩ => ?_) (tP_err fun env st ⟨_, hn⟩ => ?_))
        · rw [ho]
          dsimp only
          rw [if_pos hs]
        · cases ho : ownSlot N env (.Name x p) with
          | none => rfl
          | some q =>
            obtain ⟨j', vs⟩ := q
            have := (ownSlot_name ho).1
            rw [hj] at this
            cases this
            dsimp only
            rw [if_neg fun z => hn ⟨vs, ho, z⟩]
    · refine tP_of (tP_err fun env st _ => ?_)
      rw [ownSlot_not (fun x p z => hb ⟨x, p, z⟩)]
theorem ex_ok (hO : ∀ a, W0.O a → H0 a = none) (O : SOk cf C N xr X sc) (hx : ∀ σ, PassesAt (L2.CX X.prog X.w) X σ (E σ)) (hW : WOk cf N sc ev xr X E wf) {e : Expr} {pos : Pos} (h : wfX cf wf N sc e = true) :
    PS X (.Expr e pos) (tS X.K X.w xr W0 H0 E fun env st => execExpr cf N ev e env st) := by
  have gen : (wf e && !isComp e) = true → PS X (.Expr e pos) (tS X.K X.w xr W0 H0 E fun env st => (ev e env st).bind fun _ st => .ok (.nxt env) st) := fun h => by
    obtain ⟨h1, h2⟩ := and2 h
    exact ps_ex (hW.e e h1).1 (swaps_not (by simpa using h2) none pos.line X.env)
  by_cases h1 : ∃ b m ap a cp, e = .Call (.Attribute b m ap) [a] [] cp
  · obtain ⟨b, m, ap, a, cp, rfl⟩ := h1
    exact ex_attr_ok hO O hW h
  by_cases h2 : ∃ f fp a cp, e = .Call (.Name f fp) [a] [] cp
  · obtain ⟨f, fp, a, cp, rfl⟩ := h2
    exact ex_call_ok hO O hx hW h
  have e1 : wfX cf wf N sc e = (wf e && !isComp e) := by
    unfold wfX
    split
    · exact absurd ⟨_, _, _, _, _, rfl⟩ h1
    · exact absurd ⟨_, _, _, _, rfl⟩ h2
    · rfl
  have e2 : (fun env st => execExpr cf N ev e env st) = fun env st => (ev e env st).bind fun _ st => .ok (.nxt env) st := by
    funext env st
    unfold execExpr
    split
    · exact absurd ⟨_, _, _, _, _, rfl⟩ h1
    · exact absurd ⟨_, _, _, _, rfl⟩ h2
    · rfl
  rw [e2]
  rw [e1] at h
  exact gen h
/-- return e -/
def retR (N : List Str) (ev : Expr → Ev → Sto → R RV) (e : Expr) (env : Ev) (st : Sto) : R Fl := match ownSlot N env e with
  | some (_, vs) => .ok (.ret (.own vs)) st
  | none => match ownDict N env e with
    | some (_, kvs) => .ok (.ret (.odi kvs)) st
    | none => (ev e env st).bind fun v st => match v with
      | .bor d => if noL d then .ok (.ret (.dat d)) st else .err
      | v => .ok (.ret v) st
theorem ret_ok (hO : ∀ a, W0.O a → H0 a = none) (O : SOk cf C N xr X sc) (hW : WOk cf N sc ev xr X E wf) {e : Expr} {pos : Pos} (h : wf e = true) :
    PS X (.Return (some e) pos) (tS X.K X.w xr W0 H0 E fun env st => retR N ev e env st) := by
  have pe := (hW.e e h).1
  refine tP_of (tP_or (fun env => (ownSlot N env e).isSome = true ∨ (ownDict N env e).isSome = true) ?_ ?_)
  · by_cases hb : ∃ x p, e = .Name x p
    · obtain ⟨x, p, rfl⟩ := hb
      cases hj : ix N x with
      | none => exact ⟨fun pins sh σ H D I ⟨Wb, Hb, W, env, st, pt, hl, ⟨_, hc⟩, g⟩ => by
          unfold ownSlot ownDict at hc
          dsimp only at hc
          rw [hj] at hc
          rcases hc with hc | hc <;> cases hc⟩
      | some j =>
        obtain ⟨v1, v2⟩ := hW.nm x p j h hj
        obtain ⟨n1, n2⟩ := nmB_ok v2
        refine PS.imp (ps_rtOwn (xr := xr) (E := E) (W0 := W0) (H0 := H0) (py := p) (pos := pos) hO O.hN hj (by rw [O.hs]; exact visB_ok v1) n1 n2) fun D σ H ⟨Wb, Hb, W, env, st, pt, hl, ⟨_, hc⟩, g⟩ => ?_
        unfold retR at g
        dsimp only at g
        cases ho : ownSlot N env (.Name x p) with
        | some q =>
          obtain ⟨j', vs⟩ := q
          rw [ho] at g
          obtain ⟨a1, a2⟩ := ownSlot_name ho
          rw [hj] at a1
          cases a1
          exact ⟨Wb, Hb, W, env, st, _, pt, a2, g⟩
        | none =>
          rw [ho] at g hc
          cases hd : ownDict N env (.Name x p) with
          | some q =>
            obtain ⟨j', kvs⟩ := q
            rw [hd] at g
            obtain ⟨x', p', ex, a1, a2⟩ := ownDict_some hd
            cases ex
            rw [hj] at a1
            cases a1
            exact ⟨Wb, Hb, W, env, st, _, pt, a2, g⟩
          | none =>
            rw [hd] at hc
            rcases hc with hc | hc <;> cases hc
    · exact ⟨fun pins sh σ H D I ⟨Wb, Hb, W, env, st, pt, hl, ⟨_, hc⟩, g⟩ => by
        rw [ownSlot_not (fun x p z => hb ⟨x, p, z⟩), ownDict_not (fun x p z => hb ⟨x, p, z⟩)] at hc
        rcases hc with hc | hc <;> cases hc⟩
  · refine tP_tS (ps_rt (W0 := W0) (H0 := H0) (pos := pos) pe) fun env st ⟨_, hc⟩ => ?_
    have e1 : ownSlot N env e = none := by
      cases q : ownSlot N env e with
      | none => rfl
      | some _ => exact absurd (.inl (by rw [q]; rfl)) hc
    have e2 : ownDict N env e = none := by
      cases q : ownDict N env e with
      | none => rfl
      | some _ => exact absurd (.inr (by rw [q]; rfl)) hc
    unfold retR
    rw [e1, e2]
    try rfl
end
end Z

set_option linter.all false
set_option maxRecDepth 100000
set_option maxHeartbeats 1000000
/-! Z63: bodies. -/
namespace Z
open PySem PySem.Spec PyProof.Rows L2
section
variable {cf : Cfg} {C : Str → List RV → Sto → R RV} {N : List Str} {xr : XR} {X : Cx} {sc : Scope} {W0 : Wd} {H0 : Hp} {E : L2.St → XW}
theorem wok (O : SOk cf C N xr X sc) (hx : ∀ σ, PassesAt (L2.CX X.prog X.w) X σ (E σ)) : WOk cf N sc (evalE cf C N evN) xr X E (wfE cf N evN sc) where
  e := fun e h => (eok evN).ok X sc E e O.toXOk hx h
  lc := fun elt gs sc' p x px pos i h hs hi => by
    have h' : wfC N (wfE cf N 59 sc) (wfE cf N 59 (relS sc' sc)) sc [elt] gs sc' = true := h
    have hsw := swB_ok (elt := elt) (gs := gs) (sc' := sc') (y := x) (py := px) (pos := p) (l := pos.line) O.hs O.kf
    rw [hs] at hsw
    have hxl : X.env.scope.names.lookup x = some .local := by
      unfold swB at hs
      obtain ⟨hs, _⟩ := and2 hs
      obtain ⟨hs, _⟩ := and2 hs
      rw [O.hs]
      split at hs
      · assumption
      · cases hs
    cases gs with
    | nil => exact ⟨fun _ _ _ => False, ⟨fun _ _ _ _ _ _ q => q.elim⟩, fun σ H Q ⟨W, env, st, F, q⟩ => q⟩
    | cons g gs =>
      obtain ⟨tg, it, ifs, rfl, rfl, h1, h2, h3, h4, h5, h6, h7⟩ := wfC_ok h'
      have hE : ∀ e, wfE cf N 59 sc e = true → PE X e (tEv X.K X.w xr E (evalE cf C N 59 e)) := fun e we => ((eok 59).ok X sc E e O.toXOk hx we).1
      obtain ⟨p1, p2⟩ := pi_evI O.toXOk hE (fs := false) h1
      have hN := O.hN
      have nd := O.nd
      subst hN
      refine ⟨_, ps_setLc (tt := tT X.K X.w xr E0 (tests (evalE cf C X.N 59) ifs)) (te := tEv X.K X.w xr E0 (evalE cf C X.N 59 elt)) O.calm nd hi hxl hsw p1 (by rw [O.hs]; exact blkC_ok h2) (fun s H K cl fp => pg_blk O.calm nd h5) (fun s H K cl fp => tests_ok (X' := X.blk s H sc' (compEnvC sc' cl K X.env) fp) h4 fun c m => ?_) (fun s H K cl fp => ?_) (folded_pure p2 _), fun σ H Q ⟨W, env, st, F, q⟩ => ⟨W, env, st, F, ?_⟩⟩
      · exact ((eok 59).ok _ _ E0 c (O.toXOk.blk (s := s) (H := H) (K := K) (cl := cl) (fp := fp) (sc' := sc')) pass_blk (h6 c m)).2
      · exact ((eok 59).ok _ _ E0 elt (O.toXOk.blk (s := s) (H := H) (K := K) (cl := cl) (fp := fp) (sc' := sc')) pass_blk (h7 elt List.mem_cons_self)).1
      · have := lc_good (ev := evalE cf C X.N 59) (tg := tg) (ifs := ifs) (r := evI (evalE cf C X.N 59) false it env st) F h3 q
        rw [← ownL_ix] at this
        exact this
  nm := fun x p i h hi => by
    have h' : (match ix N x with
      | some _ => visB sc x && nmB x
      | none => (cf.glob x).isNone) = true := h
    rw [hi] at h'
    exact and2 h'
theorem pss_all {ex : Stmt → Ev → Sto → R Fl} : ∀ {l : List Stmt}, (∀ s ∈ l, PS X s (tS X.K X.w xr W0 H0 E (ex s))) → PSs X l (tS X.K X.w xr W0 H0 E (execL ex l))
  | [], _ => pss_nil'
  | s :: r, h => pss_cons' (h s List.mem_cons_self) (pss_all fun x m => h x (List.mem_cons_of_mem _ m))
theorem st_ok (hO : ∀ a, W0.O a → H0 a = none) (O : SOk cf C N xr X sc) (hx : ∀ σ, PassesAt (L2.CX X.prog X.w) X σ (E σ)) : ∀ (n : Nat) (s : Stmt), wfS cf N (wfE cf N evN sc) sc n s = true → PS X s (tS X.K X.w xr W0 H0 E (execS cf C N n s))
  | 0, s, _ => ps_err
  | n + 1, s, h => by
    have hW := wok O hx (E := E)
    have IH := fun s hs => st_ok hO O hx n s hs
    have hnd : X.N.Nodup := by rw [O.hN]; exact O.nd
    cases s with
    | Assign ts e p =>
      match ts, h with
      | [], _ => exact ps_err
      | [t], h =>
        have h' : wfA (wfE cf N evN sc) N sc t e = true := h
        refine ps_frz hO (l := cf.fz p) (f := fun env st => execAsg N (evalE cf C N evN) (cf.own p) t e env st) ?_
        cases t with
        | Name x px => exact asg_name_ok O hW h'
        | Tuple ts k pt => exact asg_tup_ok O hW h'
        | Subscript b i q => exact asg_sub_ok hO O hW h'
        | _ => exact ps_err
      | _ :: _ :: _, _ => exact ps_err
    | AugAssign t op e p =>
      cases t with
      | Name x px =>
        have h' : (match ix N x with
          | some _ => isAdd op && locB sc true x && wfE cf N evN sc e
          | none => true) = true := h
        refine ps_frz hO (l := cf.fz p) (f := fun env st => match ix N x with
          | some i => match env[i]? with
            | some (some (.dat a)) => (evalE cf C N evN e env st).bind fun b st => match augD op a b with
              | some d => .ok (.nxt (setE env i (.dat d))) st
              | none => .err
            | _ => .err
          | none => .err) ?_
        cases hi : ix N x with
        | none => exact ps_err
        | some i =>
          rw [hi] at h'
          dsimp only at h'
          obtain ⟨h1, h3⟩ := and2 h'
          obtain ⟨h1, h2⟩ := and2 h1
          obtain ⟨l1, l2⟩ := O.loc x h2
          have hop : op = .Add := by cases op <;> first | rfl | cases h1
          have := ps_augI (W0 := W0) (H0 := H0) (px := px) (pos := p) hnd O.hN hi l1 hop (hW.e e h3).1 l2
          rw [hi] at this
          exact this
      | _ => exact ps_err
    | Expr e p => exact ps_frz hO (l := cf.fz p) (ex_ok hO O hx hW (show wfX cf (wfE cf N evN sc) N sc e = true from h))
    | Return e p =>
      cases e with
      | none => exact ps_frz hO (l := cf.fz p) (f := fun env st => .ok (.ret (.dat .none)) st) ps_rtN
      | some e => exact ps_frz hO (l := cf.fz p) (f := fun env st => retR N (evalE cf C N evN) e env st) (ret_ok hO O hW (show wfE cf N evN sc e = true from h))
    | If c a b p =>
      obtain ⟨h1, h3⟩ := and2 (show (wfE cf N evN sc c && a.all (wfS cf N (wfE cf N evN sc) sc n) && b.all (wfS cf N (wfE cf N evN sc) sc n)) = true from h)
      obtain ⟨h1, h2⟩ := and2 h1
      exact ps_frz hO (l := cf.fz p) (ps_if' (hW.e c h1).2 (pss_all fun s m => IH s (all_mem h2 s m)) (pss_all fun s m => IH s (all_mem h3 s m)))
    | While c a b p =>
      cases b with
      | cons => exact ps_err
      | nil =>
        obtain ⟨h1, h2⟩ := and2 (show (wfE cf N evN sc c && a.all (wfS cf N (wfE cf N evN sc) sc n)) = true from h)
        exact ps_frz hO (l := cf.fz p) (ps_while' O.po (hW.e c h1).2 (pss_all fun s m => IH s (all_mem h2 s m)))
    | For tg it a b p =>
      cases b with
      | cons => exact ps_err
      | nil =>
        obtain ⟨h1, h3⟩ := and2 (show (wfI (wfE cf N evN sc) sc tg it && tgC N sc tg && a.all (wfS cf N (wfE cf N evN sc) sc n)) = true from h)
        obtain ⟨h1, h2⟩ := and2 h1
        obtain ⟨p1, p2⟩ := pi_evI O.toXOk (fun e we => (hW.e e we).1) (fs := true) h1
        have pg := pg_of' (t := tg) O.calm hnd O.loc (by rw [O.hN]; exact h2)
        rw [O.hN] at pg
        refine ps_frz hO (l := cf.fz p) (ps_forO hO (ps_for' O.po O.calm p1 pg (pss_all fun s m => IH s (all_mem h3 s m)) (folded_pure p2 _)) fun x q j env st ds ei hj hv => ?_)
        subst ei
        show ((evalE cf C N evN (.Name x q) env st).bind fun v st => ofO (itemsV true st v) st) = _
        rw [show evN = 59 + 1 from rfl, ev_name]
        dsimp only
        rw [hj]
        dsimp only
        rw [hv]
        rfl
    | Pass p => exact ps_frz hO (l := cf.fz (spos (.Pass p))) (f := fun env st => .ok (.nxt env) st) ps_pass'
    | Break p => exact ps_frz hO (l := cf.fz (spos (.Break p))) (f := fun env st => .ok (.brk env) st) ps_break'
    | Continue p => exact ps_frz hO (l := cf.fz (spos (.Continue p))) (f := fun env st => .ok (.cnt env) st) ps_cont'
    | _ => exact ps_err
end
end Z

set_option linter.all false
set_option maxRecDepth 100000
set_option maxHeartbeats 1000000
/-! Z64: a def is begun, and left. -/
namespace Z
open PySem PySem.Spec PyProof.Rows L2
section
variable {K : PySem.W.Frag} {w : World} {W W' : Wd} {H H' : Hp} {st : Sto}
mutual
theorem RVr.okV0 (e : W'.F = W.F) : ∀ {x : RV} {v : V} {A : List Addr}, RVr K w W H x v A → Z.okV x = true → RVr K w W' H x v A
  | _, _, _, .dat h, _ => .dat (e ▸ h)
  | _, _, _, .own h hs, c => .own h (RVs.okV0 e hs (by simpa [Z.okV] using c))
  | _, _, _, .odi h ko hs, c => .odi h ko (RKv.okV0 e hs (by simpa [Z.okV] using c))
  | _, _, _, .ref _, c => by simp [Z.okV] at c
  | _, _, _, .bor _, c => by simp [Z.okV] at c
  | _, _, _, .scr _, c => by simp [Z.okV] at c
  | _, _, _, .tpl _ _, c => by simp [Z.okV] at c
theorem RVs.okV0 (e : W'.F = W.F) : ∀ {x : List RV} {v : List V} {A : List Addr}, RVs K w W H x v A → Z.okVs x = true → RVs K w W' H x v A
  | _, _, _, .nil, _ => .nil
  | _, _, _, .cons h hs, c => by
    rw [Z.okVs, Bool.and_eq_true] at c
    exact .cons (RVr.okV0 e h c.1) (RVs.okV0 e hs c.2)
theorem RKv.okV0 (e : W'.F = W.F) : ∀ {x : List (PyData × RV)} {v : List DictEntry} {A : List Addr}, RKv K w W H x v A → Z.okKv x = true → RKv K w W' H x v A
  | _, _, _, .nil, _ => .nil
  | _, _, _, .cons a l b c d f g hs, q => by
    rw [Z.okKv, Bool.and_eq_true] at q
    exact .cons a l b (e ▸ c) d (RVr.okV0 e f q.1) g (RKv.okV0 e hs q.2)
end
/-- a cell's things, where the later cells are gone -/
theorem RVs.flat {n i : Nat} (e : W'.F = W.F) (eβ : W'.β = W.β.take n) (hi : i < n) : ∀ {x : List RV} {v : List V} {A : List Addr}, RVs K w W H x v A → (∀ y ∈ x, flatC i y) → RVs K w W' H x v A
  | _, _, _, .nil, _ => .nil
  | _, _, _, .cons (x := x) h hs, c => by
    refine .cons ?_ (RVs.flat e eβ hi hs fun y m => c y (List.mem_cons_of_mem _ m))
    have cx := c x List.mem_cons_self
    cases h with
    | dat h => exact .dat (e ▸ h)
    | @ref j a hj =>
      have lj : j < i := cx
      exact .ref (by rw [eβ, List.getElem?_take_of_lt (by omega)]; exact hj)
    | _ => exact cx.elim
theorem RKv.flat {n i : Nat} (e : W'.F = W.F) (eβ : W'.β = W.β.take n) (hi : i < n) : ∀ {x : List (PyData × RV)} {v : List DictEntry} {A : List Addr}, RKv K w W H x v A → (∀ p ∈ x, flatC i p.2) → RKv K w W' H x v A
  | _, _, _, .nil, _ => .nil
  | _, _, _, .cons (x := x) a l b c d h g hs, q => by
    refine .cons a l b (e ▸ c) d ?_ g (RKv.flat e eβ hi hs fun y m => q y (List.mem_cons_of_mem _ m))
    have cx := q _ List.mem_cons_self
    cases h with
    | dat h => exact .dat (e ▸ h)
    | @ref j a hj =>
      have lj : j < i := cx
      exact .ref (by rw [eβ, List.getElem?_take_of_lt (by omega)]; exact hj)
    | _ => exact cx.elim
/-- the world that is left behind a def: the later cells are gone, O as the caller has it -/
def Wd.leave (W' : Wd) (n : Nat) (O : Addr → Prop) : Wd := { W' with β := W'.β.take n, O := O }
theorem SR.leave {n : Nat} {O : Addr → Prop} (s : SR K w W H st) (hO : ∀ a, H a = none → O a) : SR K w (W.leave n O) H (st.take n) where
  len := by
    show (W.β.take n).length = (st.take n).length
    rw [List.length_take, List.length_take, s.len]
  nd := (List.take_sublist n W.β).nodup s.nd
  bf := fun a m => s.bf a (List.mem_of_mem_take m)
  pf := s.pf
  dom := s.dom
  cells := fun i c a h1 h2 => by
    have hi : i < n := by
      rcases Nat.lt_or_ge i n with h | h
      · exact h
      · rw [List.getElem?_take_eq_none h] at h1
        cases h1
    have h2 : (W.β.take n)[i]? = some a := h2
    rw [List.getElem?_take_of_lt hi] at h1 h2
    cases s.cells i c a h1 h2 with
    | lst q1 q2 q3 => exact .lst q1 (RVs.flat (W := W) (W' := W.leave n O) rfl rfl hi q2 q3) q3
    | dct q1 ko q2 q3 => exact .dct q1 ko (RKv.flat (W := W) (W' := W.leave n O) rfl rfl hi q2 q3) q3
  fr := hO
theorem SR.leaveO {O : Addr → Prop} (s : SR K w W H st) (hO : ∀ a, H a = none → O a) : SR K w { W with O := O } H st where
  len := s.len
  nd := s.nd
  bf := s.bf
  pf := s.pf
  dom := s.dom
  cells := fun i c a h1 h2 => by
    have k : KeepR K W H { W with O := O } H := ⟨⟨fun _ _ h => h, fun _ _ _ h => h, fun _ f => ⟨f, rfl⟩⟩, List.prefix_refl _, ⟨fun _ _ h => h, fun _ _ _ h => h, fun _ f => ⟨f, rfl⟩⟩⟩
    exact (s.cells i c a h1 h2).keep k rfl
  fr := hO
theorem RVr.leaveO {O : Addr → Prop} {x : RV} {v : V} {A : List Addr} (h : RVr K w W H x v A) : RVr K w { W with O := O } H x v A :=
  h.keep (W := W) (W' := { W with O := O }) ⟨⟨fun _ _ h => h, fun _ _ _ h => h, fun _ f => ⟨f, rfl⟩⟩, List.prefix_refl _, ⟨fun _ _ h => h, fun _ _ _ h => h, fun _ f => ⟨f, rfl⟩⟩⟩ fun _ _ => rfl
/-- a frame's own: what was not there at its entry -/
def Wd.enter (W : Wd) (H : Hp) : Wd := { W with O := fun a => H a = none }
theorem SR.enter (s : SR K w W H st) : SR K w (W.enter H) H st := s.leaveO fun a h => h
/-- how a raised thing lies does not lean on what a frame may hold alone -/
def XRO (xr : XR) : Prop := ∀ c xs cls d W H O, xr c xs cls d W H → xr c xs cls d { W with O := O } H
/-- left with a value -/
theorem exit_ok {xr : XR} (hX : XRO xr) {E : XW} {Q : VK} {r : R Fl} (s : SR K w W H st)
    (h : Good K w xr (r.bind fun r st' => match r with
      | .ret v => exitR st.length v st'
      | .nxt _ => exitR st.length (.dat .none) st'
      | _ => .err) W H E Q) : GoodS K w xr (W.enter H) H (W.enter H) H (fun _ => E) r { nx := fun _ H' => Q .non H', rt := Q } := by
  have upL : ∀ {W1 : Wd} {H1 : Hp}, Up (W.enter H) H W1 H1 → Up W H (W1.leave st.length W.O) H1 := fun {W1 H1} u => by
    have hb : W1.β.take st.length = W.β := by
      obtain ⟨t, ht⟩ := u.β
      rw [← ht]
      show ((W.β ++ t).take st.length) = W.β
      rw [List.take_append_of_le_length (by rw [s.len]; exact Nat.le_refl _), ← s.len, List.take_length]
    exact ⟨u.F, rfl, u.P, by show W.β <+: W1.β.take _; rw [hb]; exact List.prefix_refl _, u.ext, u.dom, u.Fn, fun a m => u.βn a (List.mem_of_mem_take m)⟩
  have upO : ∀ {W1 : Wd} {H1 : Hp}, Up (W.enter H) H W1 H1 → Up W H { W1 with O := W.O } H1 := fun {W1 H1} u => ⟨u.F, rfl, u.P, u.β, u.ext, u.dom, u.Fn, u.βn⟩
  have oL : ∀ {W1 : Wd} {H1 : Hp}, Up (W.enter H) H W1 H1 → ∀ a, H1 a = none → W.O a := fun {W1 H1} u a e => s.fr a (u.gone e)
  have fin : ∀ {v : RV} {st' : Sto}, Good K w xr (exitR st.length v st') W H E Q → ∀ {W1 : Wd} {H1 : Hp} {u : V} {A : List Addr}, Up (W.enter H) H W1 H1 → SR K w W1 H1 st' → RVr K w W1 H1 v u A → Fresh W1 H A → Q u H1 := fun {v st'} g {W1 H1 u A} up sr rv fr => by
    have frL : Fresh (W1.leave st.length W.O) H A := ⟨fr.nd, fun a m => ⟨(fr.no a m).1, fun z => (fr.no a m).2.1 (List.mem_of_mem_take z), (fr.no a m).2.2⟩, fr.np⟩
    cases rv with
    | dat h => exact g _ H1 u [] (upL up) (sr.leave (oL up)) (.dat h) ⟨List.nodup_nil, fun a m => (by cases m), fun a m => (by cases m)⟩
    | @ref i a hb => exact g { W1 with O := W.O } H1 _ [] (upO up) (sr.leaveO (oL up)) (.ref hb) Fresh.nil
    | bor h => exact g.elim
    | scr h => exact g.elim
    | @tpl a xs vs h hs =>
      have g' : Good K w xr (if anyBor xs then .err else .ok (.tpl xs) st') W H E Q := g
      split at g'
      · exact g'.elim
      · exact g' { W1 with O := W.O } H1 _ [] (upO up) (sr.leaveO (oL up)) (RVr.leaveO (.tpl h hs)) Fresh.nil
    | @own a xs vs A' h hs =>
      have g' : Good K w xr (if okVs xs then .ok (.own xs) (st'.take st.length) else .err) W H E Q := g
      split at g'
      · rename_i hk
        exact g' _ H1 _ _ (upL up) (sr.leave (oL up)) (.own h (RVs.okV0 (W := W1) (W' := W1.leave st.length W.O) rfl hs hk)) frL
      · exact g'.elim
    | @odi a kvs es A' h ko hs =>
      have g' : Good K w xr (if okKv kvs then .ok (.odi kvs) (st'.take st.length) else .err) W H E Q := g
      split at g'
      · rename_i hk
        exact g' _ H1 _ _ (upL up) (sr.leave (oL up)) (.odi h ko (RKv.okV0 (W := W1) (W' := W1.leave st.length W.O) rfl hs hk)) frL
      · exact g'.elim
  cases r with
  | err => exact h
  | exc c xs st' => exact fun W1 H1 cls d σ up sr x => h _ H1 cls d (upO up) (sr.leaveO (oL up)) (hX _ _ _ _ _ _ _ x)
  | ok f st' =>
    cases f with
    | nxt env => exact fun W1 H1 σ p => fin (v := .dat .none) (st' := st') h p.up p.fr.sr (.dat .non) Fresh.nil
    | ret v => exact fun W1 H1 u A up sr rv fr => fin (v := v) (st' := st') h up sr rv fr
    | brk env => exact h.elim
    | cnt env => exact h.elim
end
end Z

set_option linter.all false
set_option maxRecDepth 100000
set_option maxHeartbeats 1000000
/-! Z65: a def keeps the reader's promise. -/
namespace Z
open PySem PySem.Spec PyProof.Rows L2
section
variable {K : PySem.W.Frag} {w : World} {W : Wd} {H : Hp} {st : Sto}
theorem RVs.at_ : ∀ {xs : List RV} {vs : List V} {A : List Addr} {i : Nat} {x : RV}, RVs K w W H xs vs A → xs[i]? = some x → ∃ v B, vs[i]? = some v ∧ RVr K w W H x v B ∧ ∀ a ∈ B, a ∈ A
  | _, _, _, _, _, .nil, e => by simp at e
  | _, _, _, 0, _, .cons (A := A) (B := B) h _, e => by
    simp at e
    subst e
    exact ⟨_, _, rfl, h, fun a m => List.mem_append_left _ m⟩
  | _, _, _, i + 1, _, .cons _ hs, e => by
    obtain ⟨v, B, h1, h2, h3⟩ := RVs.at_ (i := i) hs (by simpa using e)
    exact ⟨v, B, by simpa using h1, h2, fun a m => List.mem_append_right _ (h3 a m)⟩
mutual
/-- what is handed over may stand in a slot -/
theorem RVr.okT_of : ∀ {x : RV} {v : V} {A : List Addr}, RVr K w W H x v A → A = [] → isBor x = false → Z.okT x = true
  | _, _, _, .dat _, _, _ => rfl
  | _, _, _, .ref _, _, _ => rfl
  | _, _, _, .scr _, _, _ => rfl
  | _, _, _, .bor _, _, c => by cases c
  | _, _, _, .tpl _ hs, _, c => RVs.okT_of hs rfl c
  | _, _, _, .own _ _, e, _ => by cases e
  | _, _, _, .odi _ _ _, e, _ => by cases e
theorem RVs.okT_of : ∀ {x : List RV} {v : List V} {A : List Addr}, RVs K w W H x v A → A = [] → anyBor x = false → Z.okTs x = true
  | _, _, _, .nil, _, _ => rfl
  | _, _, _, .cons h hs, e, c => by
    obtain ⟨e1, e2⟩ := List.append_eq_nil_iff.mp e
    rw [anyBor, Bool.or_eq_false_iff] at c
    rw [Z.okTs, RVr.okT_of h e1 c.1, RVs.okT_of hs e2 c.2]
    rfl
end
theorem okTs_mem : ∀ {xs : List RV}, okTs xs = true → ∀ x ∈ xs, okT x = true
  | [], _, _, m => by cases m
  | y :: ys, h, x, m => by
    rw [okTs, Bool.and_eq_true] at h
    rcases List.mem_cons.mp m with rfl | m
    · exact h.1
    · exact okTs_mem h.2 x m
theorem slot_start {xs : List RV} {n i : Nat} {x : RV} (h : (xs.map some ++ List.replicate n (none : Option RV))[i]? = some (some x)) : xs[i]? = some x := by
  rcases Nat.lt_or_ge i xs.length with q | q
  · rw [List.getElem?_append_left (by simpa using q), List.getElem?_map] at h
    obtain ⟨y, hy, e⟩ := Option.map_eq_some_iff.mp h
    cases e
    exact hy
  · rw [List.getElem?_append_right (by simpa using q), List.getElem?_replicate] at h
    split at h <;> cases h
theorem start_env {xs : List RV} {vs : List V} {N : List Str} (r : RVs K w W H xs vs []) : EnvR K w W H (xs.map some ++ List.replicate (N.length - xs.length) none) (start N vs) (fun _ => []) where
  len := by
    unfold L2.start
    simp [r.length]
  at_ := fun i x h => by
    have hy := slot_start h
    obtain ⟨v, B, h1, h2, h3⟩ := r.at_ hy
    have hB : B = [] := List.eq_nil_iff_forall_not_mem.mpr fun a m => by cases h3 a m
    subst hB
    refine ⟨v, ?_, h2⟩
    have hi : i < vs.length := (List.getElem?_eq_some_iff.mp h1).1
    unfold L2.start
    rw [List.getElem?_append_left (by rw [List.length_map]; exact hi), List.getElem?_map, h1]
    rfl
  none_ := fun _ _ => rfl
  nd := fun _ => List.nodup_nil
  no := fun _ _ m => by cases m
  np := fun _ _ m => by cases m
  dj := fun _ _ _ _ m => by cases m
end
/-- the look at a def -/
def dfB (cf : Cfg) (fn : Fn) (pa : Arguments) (sc : Scope) : Bool :=
  pa.posonlyargs.isEmpty && decide (pa.args.map (·.arg) = fn.ps) && pa.kwonlyargs.isEmpty && pa.vararg.isNone && pa.kwarg.isNone && decide fn.ps.Nodup &&
  (decide (sc.kind = .function) && !sc.isCoroutine && !sc.isGenerator && decide fn.N.Nodup && decide (fn.N.take fn.ps.length = fn.ps) &&
    fn.ps.all (fun x => locB sc true x) && sc.names.all (fun y => match y.2 with | .free => false | _ => true)) &&
  fn.body.all (wfS cf fn.N (wfE cf fn.N evN sc) sc evN)
theorem locB_or {sc : Scope} {x : Str} (h : locB sc true x = true) : sc.names.lookup x = some .local ∨ sc.names.lookup x = some .cell := by
  unfold locB at h
  split at h
  · exact .inl (by assumption)
  · exact .inr (by assumption)
  · cases h
theorem dfB_ok {cf : Cfg} {fn : Fn} {pa : Arguments} {sc : Scope} (h : dfB cf fn pa sc = true) : FnScope fn.N fn.ps sc ∧ (∀ s ∈ fn.body, wfS cf fn.N (wfE cf fn.N evN sc) sc evN s = true) ∧
    (pa.posonlyargs = [] ∧ pa.args.map (·.arg) = fn.ps ∧ pa.kwonlyargs = [] ∧ pa.vararg = none ∧ pa.kwarg = none ∧ fn.ps.Nodup) := by
  unfold dfB at h
  obtain ⟨h, hb⟩ := and2 h
  obtain ⟨h, hs⟩ := and2 h
  obtain ⟨h, p6⟩ := and2 h
  obtain ⟨h, p5⟩ := and2 h
  obtain ⟨h, p4⟩ := and2 h
  obtain ⟨h, p3⟩ := and2 h
  obtain ⟨p1, p2⟩ := and2 h
  obtain ⟨hs, s7⟩ := and2 hs
  obtain ⟨hs, s6⟩ := and2 hs
  obtain ⟨hs, s5⟩ := and2 hs
  obtain ⟨hs, s4⟩ := and2 hs
  obtain ⟨hs, s3⟩ := and2 hs
  obtain ⟨s1, s2⟩ := and2 hs
  refine ⟨⟨of_decide_eq_true s1, by simpa using s2, by simpa using s3, of_decide_eq_true s4, of_decide_eq_true s5, fun x m => locB_or (all_mem s6 x m), fun y m e => ?_⟩, all_mem hb, by simpa using p1, of_decide_eq_true p2, by simpa using p3, by simpa using p4, by simpa using p5, of_decide_eq_true p6⟩
  have := all_mem s7 y m
  rw [e] at this
  cases this
section
variable {P : Program} {w : World} {K : PySem.W.Frag} {mg : Str → Option Value} {base : Heap} {xr : XR}
theorem plain_of_fun {x : Str} {pa : Arguments} {body : List Stmt} {sc : Scope} {f : Addr} {fd : FuncData} {ps : List Str} (F : FunD K x x pa body sc [] [] f fd) (h : pa.posonlyargs = [] ∧ pa.args.map (·.arg) = ps ∧ pa.kwonlyargs = [] ∧ pa.vararg = none ∧ pa.kwarg = none ∧ ps.Nodup) : PlainP fd ps := by
  obtain ⟨oc, od, dV, kV, doc, pm, an, cdv, ct, osl, rfl, lk, hcd, hD, hK⟩ := F.ex
  rcases hD with ⟨_, rfl⟩ | ⟨e, _⟩
  · exact ⟨h.1, h.2.1, h.2.2.1, h.2.2.2.1, h.2.2.2.2.1, rfl, h.2.2.2.2.2⟩
  · exact absurd rfl e
/-- a def, at a depth -/
theorem fn_ok (hX : XRO xr) {cf : Cfg} {C : Str → List RV → Sto → R RV} {fn : Fn} {x : Str} {pa : Arguments} {sc : Scope} {f : Addr} {fd : FuncData} {d : Nat} (F : FunD K x x pa fn.body sc [] [] f fd) (h : dfB cf fn pa sc = true) (hbm : ∀ x ∈ blNames, mg x = none)
    (hd : ∀ (X : Cx), X.prog = P → X.w = w → X.K = K → X.mg = mg → X.base = base → Room d X.A → (∀ g ps, cf.ps g = some ps → DefX X xr C g ps) ∧ ∀ g, cf.kill g = true → KillX X g) :
    FnOk P w K mg base (L2.CX P w) (d + 1) f fd fn.ps (spC K w xr fn.ps.length fun args st => if args.length = fn.ps.length then runFn cf C fn args st else .err) := by
  obtain ⟨S, hb, _⟩ := dfB_ok h
  refine F.ok S (fun vs H Q E q => q.1) fun cdv A outer s H vs Q E hr ⟨hl, W, st, xs, sr, rv, g⟩ => ?_
  generalize hXX : cxOf (L2.CX P w) P w K mg base fn.N x sc f cdv A outer s H E = X
  have e1 : X.prog = P := by rw [← hXX]; rfl
  have e2 : X.w = w := by rw [← hXX]; rfl
  have e3 : X.K = K := by rw [← hXX]; rfl
  have e4 : X.mg = mg := by rw [← hXX]; rfl
  have e5 : X.base = base := by rw [← hXX]; rfl
  have eA : X.A = A.deeper (envOfC x sc s.heap.objs.size f cdv) := by rw [← hXX]; rfl
  have hrX : Room d X.A := by rw [eA]; exact hr
  obtain ⟨d1, d2⟩ := hd X e1 e2 e3 e4 e5 hrX
  have tk : Takes X (fun cls d _ H => E cls d H) := by rw [← hXX]; exact takes_of rfl rfl rfl rfl
  have hx : ∀ σ, PassesAt (L2.CX X.prog X.w) X σ ((fun _ => E : L2.St → XW) σ) := fun σ => passAt tk σ
  have hsc : X.env.scope = sc := by rw [← hXX]; rfl
  have hfn : ∀ y, X.fn y = true := fun y => by rw [← hXX]; rfl
  have O : SOk cf C fn.N xr X sc := {
    hN := by rw [← hXX]; rfl
    nd := S.nd
    hs := hsc
    calm := by rw [← hXX]; rfl
    un := by have := hrX.un; omega
    defs := d1
    bm := fun y m => by rw [e4]; exact hbm y m
    kf := S.kind
    loc := fun y hy => ⟨by rw [hsc]; exact locB_or hy, .inl (hfn y)⟩
    po := by rw [← hXX]; exact passes_of rfl
    kl := d2 }
  have hO : ∀ a, (W.enter H).O a → H a = none := fun a q => q
  have pss : PSs X fn.body (tS X.K X.w xr (W.enter H) H (fun _ => E) (execL (execS cf C fn.N evN) fn.body)) := pss_all fun st m => st_ok hO O hx evN st (hb st m)
  refine ⟨_, pss, ?_⟩
  rw [e2, e3]
  have hxl : xs.length = fn.ps.length := by rw [rv.length]; exact hl
  dsimp only at g
  rw [if_pos hxl] at g
  unfold runFn at g
  cases hB : anyBor xs with
  | true => rw [hB] at g; exact g.elim
  | false =>
    rw [hB, if_neg Bool.false_ne_true] at g
    have rv' : RVs K w (W.enter H) H xs vs [] := rv.keep (W := W) (W' := W.enter H) ⟨⟨fun _ _ h => h, fun _ _ _ h => h, fun _ f => ⟨f, rfl⟩⟩, List.prefix_refl _, ⟨fun _ _ h => h, fun _ _ _ h => h, fun _ f => ⟨f, rfl⟩⟩⟩ fun _ m => by cases m
    refine ⟨W.enter H, H, W.enter H, _, st, ⟨⟨sr.enter, _, start_env rv'⟩, Up.refl, KS.refl, fun i y hy => ?_⟩, exit_ok hX sr g⟩
    have := okTs_mem (rv.okT_of rfl hB) y (List.mem_of_getElem? (slot_start hy))
    unfold okS
    rw [this]
    rfl
end
end Z

set_option linter.all false
set_option maxRecDepth 100000
set_option maxHeartbeats 1000000
/-! Z66: a whole program's defs, by depth. -/
namespace Z
open PySem PySem.Spec PyProof.Rows L2
/-- how deep beneath the reader's calls there is room -/
def lvl : Nat := 50
/-- a program's defs as they stand behind its top -/
structure Prg (P : Program) (w : World) (K : PySem.W.Frag) (mg : Str → Option Value) (base : Heap) (cf : Cfg) (defs : Str → Option Fn) : Prop where
  fn : ∀ x fn, defs x = some fn → ∃ a fd pa sc, FunD K x x pa fn.body sc [] [] a fd ∧ mg x = some (.ref a) ∧ dfB cf fn pa sc = true ∧ (x == ("__debug__" : Str)) = false
  ps : ∀ x ps, cf.ps x = some ps → ∃ fn, defs x = some fn ∧ fn.ps = ps
  bm : ∀ x ∈ blNames, mg x = none
  kl : ∀ x, cf.kill x = true → (x == ("__debug__" : Str)) = false ∧ ∃ k a fd p, k ≤ lvl ∧ FnOk P w K mg base (L2.CX P w) k a fd [p] (spK K w) ∧ mg x = some (.ref a) ∧ PySem.W.keepIn K (.ref a) = true ∧ Binds K fd [p] []
theorem fnOk_none {P : Program} {w : World} {K : PySem.W.Frag} {mg : Str → Option Value} {base : Heap} {k : Nat} {a : Addr} {fd : FuncData} {ps : List Str} {sp : Sp} (len : ∀ vs H Q E, sp vs H Q E → vs.length = ps.length) (h : ∀ vs H Q E, ¬ sp vs H Q E) : FnOk P w K mg base (L2.CX P w) k a fd ps sp :=
  ⟨len, fun A outer s H args us vs Q E hr he hb hv hs => (h _ _ _ _ hs).elim⟩
section
variable {P : Program} {w : World} {K : PySem.W.Frag} {mg : Str → Option Value} {base : Heap} {xr : XR} {cf : Cfg} {defs : Str → Option Fn}
theorem fun_look {x : Str} {pa : Arguments} {body : List Stmt} {sc : Scope} {f : Addr} {fd : FuncData} (F : FunD K x x pa body sc [] [] f fd) : ∃ oc od osl, K.lookup f = some ⟨oc, od, .func fd, osl⟩ := by
  obtain ⟨oc, od, dV, kV, doc, pm, an, cdv, ct, osl, rfl, lk, _⟩ := F.ex
  exact ⟨oc, od, osl, lk⟩
/-- each def keeps the reader's promise, at every depth -/
theorem prg_ok (hX : XRO xr) (G : Prg P w K mg base cf defs) : ∀ (d : Nat) (x : Str) (fn : Fn), defs x = some fn → ∃ a fd, FnOk P w K mg base (L2.CX P w) (d + lvl) a fd fn.ps (spC K w xr fn.ps.length (callF cf defs d x)) ∧ mg x = some (.ref a) ∧ PySem.W.keepIn K (.ref a) = true ∧ PlainP fd fn.ps ∧ (x == ("__debug__" : Str)) = false ∧ ∃ oc od osl, K.lookup a = some ⟨oc, od, .func fd, osl⟩
  | 0, x, fn, h => by
    obtain ⟨a, fd, pa, sc, F, hm, hd, hdb⟩ := G.fn x fn h
    exact ⟨a, fd, fnOk_none (fun vs H Q E q => q.1) fun vs H Q E ⟨_, W, st, xs, _, _, g⟩ => g, hm, F.kp, plain_of_fun F (dfB_ok hd).2.2, hdb, fun_look F⟩
  | d + 1, x, fn, h => by
    obtain ⟨a, fd, pa, sc, F, hm, hd, hdb⟩ := G.fn x fn h
    refine ⟨a, fd, ?_, hm, F.kp, plain_of_fun F (dfB_ok hd).2.2, hdb, fun_look F⟩
    have := fn_ok (P := P) (w := w) (mg := mg) (base := base) (xr := xr) (C := callF cf defs d) (d := d + lvl) hX F hd G.bm fun X e1 e2 e3 e4 e5 hr => ?_
    · have e : callF cf defs (d + 1) x = fun args st => if args.length = fn.ps.length then runFn cf (callF cf defs d) fn args st else .err := by
        funext args st
        show (match defs x with | some fn => if args.length = fn.ps.length then runFn cf (callF cf defs d) fn args st else .err | none => .err) = _
        rw [h]
      rw [e, show d + 1 + lvl = d + lvl + 1 by omega]
      exact this
    · refine ⟨fun g ps hg => ?_, fun g hg => ?_⟩
      · obtain ⟨fg, h1, rfl⟩ := G.ps g ps hg
        obtain ⟨a', fd', q1, q2, q3, q4, q5, _⟩ := prg_ok hX G d g fg h1
        exact ⟨⟨d + lvl, a', fd', by rw [e1, e2, e3, e4, e5]; exact q1, hr, by rw [e4]; exact q2, by rw [e3]; exact q3, q4⟩, q5⟩
      · obtain ⟨h0, k, a', fd', p, hk, q1, q2, q3, q4⟩ := G.kl g hg
        exact ⟨⟨k, a', fd', p, by rw [e1, e2, e3, e4, e5]; exact q1, hr.mono (by omega), by rw [e4]; exact q2, by rw [e3]; exact q3, by rw [e3]; exact q4⟩, h0⟩
/-- the law's own promise: handed a script, it tells True -/
theorem law_sp {r : List RV → Sto → R RV} {ns : List Int} (h : ∃ st, r [.scr ns] [] = .ok (.dat (.bool true)) st) (H : Hp) (a : Addr) (ho : Only H) (hs : SqL K H a (ns.map V.int)) :
    spC K w xr 1 r [.ref a] H (fun v _ => v = .bl true) fun _ _ _ => False := by
  obtain ⟨st, e⟩ := h
  have hs' : (∃ o, H a = some (.frz o (.lst (ns.map V.int)))) ∨ ∀ H', SqL K H' a (ns.map V.int) := by
    rcases hs with (q | ⟨o, q⟩) | q
    · rcases ho a with z | ⟨o, xs, z⟩ <;> rw [q] at z <;> cases z
    · exact .inl ⟨o, q⟩
    · exact .inr fun H' => .inr q
  refine ⟨rfl, ⟨fun _ => False, [], fun _ => True, fun _ => False⟩, [], [.scr ns], ⟨rfl, List.nodup_nil, fun a m => (by cases m), fun a f => f.elim, fun a f => f.elim, fun i c a h1 h2 => (by simp at h1), fun _ _ => trivial⟩, .cons (A := []) (B := []) (.scr hs') .nil, ?_⟩
  rw [e]
  intro W' H' v A u s rv fr
  cases rv with
  | dat q => cases q; rfl
end
end Z

set_option linter.all false
set_option maxRecDepth 100000
set_option maxHeartbeats 2000000
/-! Z67: the def that spoils what it is handed. -/
namespace Z
open PySem PySem.Spec PyProof.Rows L2
/-- the look at such a def -/
def klB (f : Str) (pa : Arguments) (body : List Stmt) (sc : Scope) : Bool := match body with
  | [.If (.Call (.Name a1 _) [.Name a2 _, .Tuple [.Name a3 _, .Name a4 _] _ _] [] _) [.For (.Name a5 _) (.Name a6 _) [.Expr (.Call (.Name a7 _) [.Name a8 _] [] _) _] [] _] [] _,
     .If (.Call (.Name a9 _) [.Name a10 _, .Name a11 _] [] _) [.Expr (.Call (.Attribute (.Name a12 _) a13 p20) [.Constant (.str a14) _ _] [] p22) _] [] _] =>
    seq' a1 "isinstance" && seq' a2 "thing" && seq' a3 "list" && seq' a4 "tuple" && seq' a5 "part" && seq' a6 "thing" && seq' a7 f && seq' a8 "part" && seq' a9 "isinstance" && seq' a10 "thing" && seq' a11 "list" && seq' a12 "thing" && seq' a13 "append" && decide (p20.endLine = p22.line) &&
    (glB sc "isinstance" && glB sc "list" && glB sc "tuple" && glB sc f && locB sc true "thing" && locB sc true "part" && !(f == ("__debug__" : Str))) &&
    dfB ⟨fun _ => none, fun _ => none, fun _ => false, fun _ => false, fun _ => [], fun _ => false, 0⟩ ⟨["thing"], ["thing", "part"], []⟩ pa sc
  | _ => false
inductive KlShape (f : Str) : List Stmt → Prop where
  | mk {p1 p2 p3 p4 p5 p6 p7 p8 p9 p10 p11 p12 p13 p14 p15 p16 p17 p18 p19 p20 p21 p22 p23 p24 : Pos} {k1 k2 : Nat} {late : Str} : p20.endLine = p22.line → KlShape f
    [.If (.Call (.Name "isinstance" p1) [.Name "thing" p2, .Tuple [.Name "list" p3, .Name "tuple" p4] k1 p5] [] p6) [.For (.Name "part" p7) (.Name "thing" p8) [.Expr (.Call (.Name f p9) [.Name "part" p10] [] p11) p12] [] p13] [] p14,
     .If (.Call (.Name "isinstance" p15) [.Name "thing" p16, .Name "list" p17] [] p18) [.Expr (.Call (.Attribute (.Name "thing" p19) "append" p20) [.Constant (.str late) k2 p21] [] p22) p23] [] p24]
theorem klB_ok {f : Str} {pa : Arguments} {body : List Stmt} {sc : Scope} (h : klB f pa body sc = true) : KlShape f body ∧ (glB sc "isinstance" = true ∧ glB sc "list" = true ∧ glB sc "tuple" = true ∧ glB sc f = true ∧ locB sc true "thing" = true ∧ locB sc true "part" = true ∧ (f == ("__debug__" : Str)) = false) ∧
    dfB ⟨fun _ => none, fun _ => none, fun _ => false, fun _ => false, fun _ => [], fun _ => false, 0⟩ ⟨["thing"], ["thing", "part"], []⟩ pa sc = true := by
  unfold klB at h
  split at h
  · obtain ⟨h, hd⟩ := and2 h
    obtain ⟨h, hs⟩ := and2 h
    obtain ⟨h, h14⟩ := and2 h
    obtain ⟨h, h13⟩ := and2 h
    obtain ⟨h, h12⟩ := and2 h
    obtain ⟨h, h11⟩ := and2 h
    obtain ⟨h, h10⟩ := and2 h
    obtain ⟨h, h9⟩ := and2 h
    obtain ⟨h, h8⟩ := and2 h
    obtain ⟨h, h7⟩ := and2 h
    obtain ⟨h, h6⟩ := and2 h
    obtain ⟨h, h5⟩ := and2 h
    obtain ⟨h, h4⟩ := and2 h
    obtain ⟨h, h3⟩ := and2 h
    obtain ⟨h1, h2⟩ := and2 h
    obtain ⟨hs, s7⟩ := and2 hs
    obtain ⟨hs, s6⟩ := and2 hs
    obtain ⟨hs, s5⟩ := and2 hs
    obtain ⟨hs, s4⟩ := and2 hs
    obtain ⟨hs, s3⟩ := and2 hs
    obtain ⟨s1, s2⟩ := and2 hs
    rw [seq_eq h1, seq_eq h2, seq_eq h3, seq_eq h4, seq_eq h5, seq_eq h6, seq_eq h7, seq_eq h8, seq_eq h9, seq_eq h10, seq_eq h11, seq_eq h12, seq_eq h13]
    exact ⟨.mk (of_decide_eq_true h14), ⟨s1, s2, s3, s4, s5, s6, by simpa using s7⟩, hd⟩
  · cases h
section
variable {K : PySem.W.Frag} {w : World} {W : Wd} {H H' : Hp}
def wNone : Wd := ⟨fun _ => False, [], fun _ => True, fun _ => False⟩
theorem spD_noL : ∀ (n : Nat) (d : PyData), spD n d = true → noL d = true
  | 0, _, h => by cases h
  | n + 1, d, h => by
    cases d with
    | tuple xs =>
      have h' : xs.all (spD n) = true := h
      rw [noL]
      clear h
      induction xs with
      | nil => rfl
      | cons x xs ih =>
        rw [List.all_cons, Bool.and_eq_true] at h'
        rw [noLs, spD_noL n x h'.1, ih h'.2]
        rfl
    | list => cases h
    | dict => cases h
    | _ => rfl
theorem spV_all {p q : RV → Bool} {f : List RV → Bool} (hn : f [] = true) (hc : ∀ x r, f (x :: r) = (q x && f r)) (h : ∀ x, p x = true → q x = true) : ∀ {xs : List RV}, xs.all p = true → f xs = true
  | [], _ => hn
  | x :: xs, hh => by
    rw [List.all_cons, Bool.and_eq_true] at hh
    rw [hc, h x hh.1, spV_all hn hc h hh.2]
    rfl
theorem spV_clean : ∀ (n : Nat) (x : RV), spV n x = true → clean x = true ∧ okV x = true
  | 0, _, h => by cases h
  | n + 1, x, h => by
    cases x with
    | dat d => exact ⟨by rw [clean]; exact spD_noL (n + 1) d h, rfl⟩
    | own vs =>
      obtain ⟨_, h2⟩ := and2 (show (decide (vs.length < lim) && vs.all (spV n)) = true from h)
      exact ⟨by rw [clean]; exact spV_all (f := cleans) (q := clean) rfl (fun _ _ => rfl) (fun x hx => (spV_clean n x hx).1) h2, by rw [okV]; exact spV_all (f := okVs) (q := okV) rfl (fun _ _ => rfl) (fun x hx => (spV_clean n x hx).2) h2⟩
    | _ => cases h
theorem Spoil.refl {B : List Addr} (h : ∀ a ∈ B, ∃ vs, H a = some (.lst vs)) : Spoil H H B := ⟨fun _ _ _ e => e, h, h⟩
/-- more is laid -/
theorem Spoil.new {B : List Addr} (s : Spoil H H' B) {p : Addr} {o : HO} (hp : H' p = none) : Spoil H (upd H' p o) B :=
  ⟨fun a q n e => by
    have e' := s.out a q n e
    rw [upd_ne (ne_of_none e' hp)]
    exact e', s.was, fun a m => by
    obtain ⟨vs, e⟩ := s.now a m
    exact ⟨vs, by rw [upd_ne (ne_of_none e hp)]; exact e⟩⟩
/-- a value's kind, for isinstance -/
theorem ty_data {F : Addr → Prop} {d : PyData} {v : V} (r : Rep K w F H d v) (h : noL d = true) : TyX K H v (.type (tyN d)) := by
  cases r with
  | non => exact .base .non
  | bl b => exact .base (.bl b)
  | int i => exact .base (.int i)
  | str s => exact .base (.str s)
  | tup ht _ =>
    rcases ht with (e | ⟨o, e⟩) | ⟨o, its, n, e1, e2, _⟩
    · exact .base (.tup e)
    · exact .fTuple e
    · exact .kTuple e1 e2
  | lst => simp [noL] at h
  | dct => simp [noL] at h
end
/-- the promise at a depth -/
def spKn (K : PySem.W.Frag) (w : World) (n : Nat) : Sp := fun vs H Q E => ∃ v x W A, vs = [v] ∧ RVr K w W H x v A ∧ spV n x = true ∧ A.Nodup ∧ ∀ H', Spoil H H' A → Q .non H'
/-- the parts from here on stand; those behind may be spoilt -/
structure Half (K : PySem.W.Frag) (w : World) (H0 H : Hp) (B : List Addr) (xs : List RV) (us : List V) : Prop where
  ex : ∃ A, RVs K w wNone H xs us A ∧ A.Nodup ∧ ∀ a ∈ A, a ∈ B
  sp : Spoil H0 H B
theorem Half.step {K : PySem.W.Frag} {w : World} {H0 H : Hp} {B : List Addr} {x : RV} {xs : List RV} {u : V} {us : List V} (h : Half K w H0 H B (x :: xs) (u :: us)) (ok : okVs xs = true) : ∃ A, RVr K w wNone H x u A ∧ A.Nodup ∧ ∀ H', Spoil H H' A → Half K w H0 H' B xs us := by
  obtain ⟨C, r, nd, sub⟩ := h.ex
  cases r with
  | @cons _ _ _ _ A1 A2 r1 rs =>
    have nd' := List.nodup_append.mp nd
    refine ⟨A1, r1, nd'.1, fun H' s => ⟨⟨A2, rs.okV (s.ks (W := wNone) (fun a _ z => z) fun a f => f.elim) ok fun a m => ?_, nd'.2.1, fun a m => sub a (List.mem_append_right _ m)⟩, ⟨fun a o n e => ?_, h.sp.was, fun a m => ?_⟩⟩⟩
    · obtain ⟨o, e⟩ := rs.dom a m
      rw [e]
      exact s.out a o (fun m1 => nd'.2.2 a m1 a m rfl) e
    · exact s.out a o (fun m1 => n (sub a (List.mem_append_left _ m1))) (h.sp.out a o n e)
    · by_cases z : a ∈ A1
      · exact s.now a z
      · obtain ⟨vs, e⟩ := h.sp.now a m
        exact ⟨vs, s.out a _ z e⟩
theorem spV_okVs {n : Nat} {xs : List RV} (h : xs.all (spV n) = true) : okVs xs = true := spV_all (f := okVs) (q := okV) rfl (fun _ _ => rfl) (fun x hx => (spV_clean n x hx).2) h
theorem spV_cleans {n : Nat} {xs : List RV} (h : xs.all (spV n) = true) : cleans xs = true := spV_all (f := cleans) (q := clean) rfl (fun _ _ => rfl) (fun x hx => (spV_clean n x hx).1) h
abbrev tK1 (K : PySem.W.Frag) : TT := tB (tCB (rIsiT K) (tCons (tVar 0) (tCons (tTup (tCons (tC (.ty "list")) (tCons (tC (.ty "tuple")) tNil))) tNil)))
abbrev tK2 (K : PySem.W.Frag) : TT := tB (tCB (rIsi K) (tCons (tVar 0) (tCons (tC (.ty "list")) tNil)))
theorem rd1 {K : PySem.W.Frag} {σ : L2.St} {H : Hp} {v : V} {T : String} {Qc : Bool → Hp → Prop} (h0 : σ[0]? = some (some v)) (hT : T ∈ valNames) (ty : ∀ p, H p = none → TyX K (upd H p (.tup [.ty "list", .ty "tuple"])) v (.type T)) (q : ∀ p, H p = none → Qc (subT T "list" || subT T "tuple") (upd H p (.tup [.ty "list", .ty "tuple"]))) : tK1 K σ H Qc := by
  refine ⟨v, h0, by show 2 ≤ sizeLine; decide, fun p hp => ?_⟩
  refine ⟨v, p, [.ty "list", .ty "tuple"], .type T, [.type "list", .type "tuple"], (subT T "list" || subT T "tuple"), rfl, upd_same, .cons (.ty _) (.cons (.ty _) .nil), ty p hp, ?_, _, rfl, q p hp⟩
  refine kitAny_cons (kit_ty (kit_tab _ hT _ (by decide))) (fun e => ?_) fun e => by rw [e]; rfl
  refine kitAny_cons (kit_ty (kit_tab _ hT _ (by decide))) (fun e2 => ?_) fun e2 => by rw [e2, Bool.or_true]
  rw [e, e2]
  rfl
theorem rd2 {K : PySem.W.Frag} {σ : L2.St} {H : Hp} {v : V} {T : String} {Qc : Bool → Hp → Prop} (h0 : σ[0]? = some (some v)) (hT : T ∈ valNames) (ty : TyX K H v (.type T)) (q : Qc (subT T "list") H) : tK2 K σ H Qc :=
  ⟨v, h0, v, .ty "list", .type T, .type "list", subT T "list", rfl, .ty _, ty, kit_ty (kit_tab _ hT _ (by decide)), _, rfl, q⟩
theorem start1 (v : V) : (L2.start ["thing", "part"] [v])[0]? = some (some v) ∧ (L2.start ["thing", "part"] [v]).length = 2 := ⟨rfl, rfl⟩
section
variable {P : Program} {w : World} {K : PySem.W.Frag} {mg : Str → Option Value} {base : Heap} {f : Str} {a : Addr} {fd : FuncData} {pa : Arguments} {body : List Stmt} {sc : Scope}
theorem kl_ok (F : FunD K f f pa body sc [] [] a fd) (hm : mg f = some (.ref a)) (hb : klB f pa body sc = true) (hbm : ∀ x ∈ blNames, mg x = none) : ∀ n, FnOk P w K mg base (L2.CX P w) (n + 1) a fd ["thing"] (spKn K w n)
  | 0 => fnOk_none (fun vs H Q E ⟨v, x, W, A, e, _⟩ => by rw [e]; rfl) fun vs H Q E ⟨v, x, W, A, e, _, c, _⟩ => by cases c
  | n + 1 => by
    obtain ⟨sh, ⟨g1, g2, g3, g4, l1, l2, hdb⟩, hd⟩ := klB_ok hb
    obtain ⟨S, _, hpl⟩ := dfB_ok hd
    have S : FnScope ["thing", "part"] ["thing"] sc := S
    have IH := kl_ok F hm hb hbm n
    have hbd : Binds K fd ["thing"] [] := binds_pos (plain_of_fun F hpl)
    refine F.ok S (fun vs H Q E ⟨v, x, W, A, e, _⟩ => by rw [e]; rfl) fun cdv A outer s H vs Q E hr ⟨v, x, W, A0, ev, rv, hsp, nd, q⟩ => ?_
    subst ev
    generalize hXX : cxOf (L2.CX P w) P w K mg base ["thing", "part"] f sc a cdv A outer s H E = X
    have e1 : X.prog = P := by rw [← hXX]; rfl
    have e2 : X.w = w := by rw [← hXX]; rfl
    have e3 : X.K = K := by rw [← hXX]; rfl
    have e4 : X.mg = mg := by rw [← hXX]; rfl
    have e5 : X.base = base := by rw [← hXX]; rfl
    have eN : X.N = (["thing", "part"] : List Str) := by rw [← hXX]; rfl
    have eA : X.A = A.deeper (envOfC f sc s.heap.objs.size a cdv) := by rw [← hXX]; rfl
    have hsc : X.env.scope = sc := by rw [← hXX]; rfl
    have hfn : ∀ y, X.fn y = true := fun y => by rw [← hXX]; rfl
    have hcalm : X.calm = true := by rw [← hXX]; rfl
    have hpo : PassesOwn (model X.prog X.w) X.A X.env X.xe := by rw [← hXX]; exact passes_of rfl
    have tk : Takes X (fun cls d _ H => E cls d H) := by rw [← hXX]; exact takes_of rfl rfl rfl rfl
    have hrX : Room (n + 1) X.A := by rw [eA]; exact hr
    have nN : X.N.Nodup := by rw [eN]; exact S.nd
    have lo : ∀ y, locB sc true y = true → Loc X.env.scope y := fun y hy => by rw [hsc]; exact locB_or hy
    have vi : ∀ y, locB sc true y = true → Vis X.env.scope y := fun y hy => (lo y hy).elim .inl fun z => .inr (.inl z)
    have bl : ∀ y u, (y, u) ∈ blVal → glB sc y = true → Bl X y u := fun y u m g => by
      obtain ⟨q1, q2, q3, q4⟩ := blBoot _ m
      exact ⟨glB_ok hsc g, by rw [e4]; exact hbm y q4, q1, q2, q3⟩
    have bI := bl "isinstance" (.builtin "isinstance") (by simp [blVal]) g1
    have bL := bl "list" (.type "list") (by simp [blVal]) g2
    have bT := bl "tuple" (.type "tuple") (by simp [blVal]) g3
    obtain ⟨hline⟩ := sh
    rename_i p1 p2 p3 p4 p5 p6 p7 p8 p9 p10 p11 p12 p13 p14 p15 p16 p17 p18 p19 p20 p21 p22 p23 p24 k1 k2 late
    have th : ∀ p, PE X (.Name "thing" p) (tVar 0) := fun p => pe_var (by rw [eN]; rfl) (vi _ l1)
    have pr : ∀ p, PE X (.Name "part" p) (tVar 1) := fun p => pe_var (by rw [eN]; rfl) (vi _ l2)
    have nL : ∀ p, PE X (.Name "list" p) (tC (.ty "list")) := fun p => pe_bltn (v := .ty "list") bL.gl bL.mg bL.bt rfl bL.nn bL.db
    have nT : ∀ p, PE X (.Name "tuple" p) (tC (.ty "tuple")) := fun p => pe_bltn (v := .ty "tuple") bT.gl bT.mg bT.bt rfl bT.nn bT.db
    have tt : PE X (.Tuple [.Name "list" p3, .Name "tuple" p4] k1 p5) (tTup (tCons (tC (.ty "list")) (tCons (tC (.ty "tuple")) tNil))) := pe_tup (pa_cons (nL p3) (pa_cons (nT p4) pa_nil))
    have t1 : PT X (.Call (.Name "isinstance" p1) [.Name "thing" p2, .Tuple [.Name "list" p3, .Name "tuple" p4] k1 p5] [] p6) (tK1 X.K) := pt_val (pe_callB call_isiT bI.gl bI.mg bI.bt (pa_cons (th p2) (pa_cons tt pa_nil)))
    have t2 : PT X (.Call (.Name "isinstance" p15) [.Name "thing" p16, .Name "list" p17] [] p18) (tK2 X.K) := pt_val (pe_callB call_isi bI.gl bI.mg bI.bt (pa_cons (th p16) (pa_cons (nL p17) pa_nil)))
    have IH' : FnOk X.prog X.w X.K X.mg X.base (L2.CX X.prog X.w) (n + 1) a fd ["thing"] (spKn K w n) := by rw [e1, e2, e3, e4, e5]; exact IH
    have cl := ps_expr (pos := p12) (pe_callS (pos := p11) (p := p9) (E := fun _ => E) IH' hrX (glB_ok hsc g4) (by rw [e4]; exact hm) (by rw [e3]; exact F.kp) (by rw [e3]; exact hbd) (fun σ => passAt tk σ) (pa_cons (pr p10) pa_nil) hdb)
    have fo := ps_for (pos := p13) hpo hcalm (pi_seq (th p8)) (pg_name (pos := p7) nN (by rw [eN]; rfl : X.N[1]? = some ("part" : Str)) (lo _ l2) (.inl (hfn _))) (pss_one cl)
    have sl : PE X (.Constant (.str late) k2 p21) (tC (.str late)) := pe_str
    have ap := ps_expr (pos := p23) (pe_bm (apos := p20) (cpos := p22) PySem.F.plainAttrs_list PySem.F.slot_list_append PySem.F.type_list_append mt_append (th p19) (pa_cons sl pa_nil) rfl rfl (by simp [hline]))
    refine ⟨_, pss_cons (ps_if (pos := p14) t1 (pss_one fo) pss_nil) (pss_one (ps_if (pos := p24) t2 (pss_one ap) pss_nil)), ?_⟩
    rw [e3]
    have walk : ∀ {us : List V} {xs : List RV} {B : List Addr} {b0 : Addr} {σ : L2.St} {H1 : Hp} {Dn : Ends}, xs.all (spV n) = true → ((H1 b0 = some (.lst us) ∧ b0 ∉ B) ∨ SqT K H1 b0 us) → σ[0]? = some (some (.ref b0)) → σ.length = 2 → Half K w H1 H1 B xs us →
        (∀ σ2 H2, σ2[0]? = some (some (.ref b0)) → Spoil H1 H2 B → Dn.nx σ2 H2) → tFor (iSeq K (tVar 0)) (gName 1) (tDrop (tCallS (spKn K w n) (fun _ => E) (tCons (tVar 1) tNil))) Dn σ H1 := fun {us xs B b0 σ H1 Dn} hall hseq h0 hlen half fin => by
      have hxu : xs.length = us.length := let ⟨_, r, _⟩ := half.ex; r.length
      let Pv : Nat → L2.St → Hp → Prop := fun i σ2 H2 => σ2[0]? = some (some (.ref b0)) ∧ σ2.length = 2 ∧ Half K w H1 H2 B (xs.drop i) (us.drop i)
      have turn : ∀ i u σ2 H2, us[i]? = some u → Pv i σ2 H2 → ∀ Qn : L2.St → Hp → Prop, (∀ σ3 H3, Pv (i + 1) σ3 H3 → Qn σ3 H3) → ∀ D2 : Ends, D2.nx = Qn → gName 1 u σ2 H2 fun σ3 H3 => tDrop (tCallS (spKn K w n) (fun _ => E) (tCons (tVar 1) tNil)) D2 σ3 H3 := fun i u σ2 H2 hu ⟨p0, p1, p2⟩ Qn hq D2 hD => by
        have hi : i < us.length := (List.getElem?_eq_some_iff.mp hu).1
        have hx : xs.drop i = xs[i] :: xs.drop (i + 1) := List.drop_eq_getElem_cons (by omega)
        have hd2 : us.drop i = u :: us.drop (i + 1) := by
          rw [List.drop_eq_getElem_cons hi]
          rw [List.getElem?_eq_getElem hi] at hu
          rw [Option.some.inj hu]
        rw [hx, hd2] at p2
        have hd3 : (xs.drop (i + 1)).all (spV n) = true := List.all_eq_true.mpr fun y my => List.all_eq_true.mp hall y (List.mem_of_mem_drop my)
        obtain ⟨A1, r1, nd1, k1⟩ := p2.step (spV_okVs hd3)
        have hs1 : (σ2.set 1 (some u))[1]? = some (some u) := List.getElem?_set_self (by omega)
        refine ⟨u, hs1, u, xs[i], wNone, A1, rfl, r1, List.all_eq_true.mp hall _ (List.getElem_mem _), nd1, fun H3 sp => ?_⟩
        show D2.nx (σ2.set 1 (some u)) H3
        rw [hD]
        exact hq _ _ ⟨by rw [List.getElem?_set_ne (by decide)]; exact p0, by rw [List.length_set]; exact p1, k1 H3 sp⟩
      have init : Pv 0 σ H1 := ⟨h0, hlen, by simpa using half⟩
      have done : ∀ σ2 H2, Pv us.length σ2 H2 → Dn.nx σ2 H2 := fun σ2 H2 ⟨q0, _, q2⟩ => fin σ2 H2 q0 q2.sp
      refine ⟨.ref b0, h0, b0, rfl, ?_⟩
      rcases hseq with ⟨q1, q2⟩ | q
      · exact .inl ⟨us, SqL.of q1, for_list (xs := us) Pv init (fun i σ2 H2 _ p => SqL.of (p.2.2.sp.out b0 _ q2 q1)) (fun i u σ2 H2 hu p => turn i u σ2 H2 hu p _ (fun _ _ z => z) _ rfl) done⟩
      · exact .inr ⟨us, q, for_tup (xs := us) Pv init (fun i σ2 H2 _ p => (p.2.2.sp.ks (K := K) (W := wNone) (fun _ _ z => z) fun _ z => z.elim).k.tup _ _ q) (fun i u σ2 H2 hu p => turn i u σ2 H2 hu p _ (fun _ _ z => z) _ rfl) done⟩
    have grow : ∀ {H1 : Hp} {p : Addr} {o : HO} {B : List Addr}, (∀ b ∈ B, ∃ vs, H1 b = some (.lst vs)) → H1 p = none → Spoil H1 (upd H1 p o) B := fun {H1 p o B} hB hp => (Spoil.refl hB).new hp
    have tupk : ∀ {H1 H2 : Hp} {B : List Addr}, Spoil H1 H2 B → ∀ b ys, SqT K H1 b ys → SqT K H2 b ys := fun sp => (sp.ks (K := K) (W := wNone) (fun _ _ z => z) fun _ z => z.elim).k.tup
    have nob : ∀ b ∈ ([] : List Addr), ∃ vs, H b = some (.lst vs) := fun _ m => by cases m
    obtain ⟨s0, sl⟩ := start1 v
    cases rv with
    | @dat d _ rd =>
      have hn : noL d = true := spD_noL (n + 1) d hsp
      have rdk : ∀ {H2 : Hp}, Spoil H H2 [] → Rep K w W.F H2 d v := fun sp => rd.keepN (tupk sp) hn
      by_cases ht : ∃ ds, d = .tuple ds
      · obtain ⟨ds, rfl⟩ := ht
        cases rd with
        | @tup b _ us hsq hrs =>
          refine rd1 (T := "tuple") s0 (by decide) (fun p hp => ty_data (rdk (grow nob hp)) hn) fun p hp => ?_
          have sp1 : Spoil H (upd H p (.tup [.ty "list", .ty "tuple"])) [] := grow nob hp
          refine walk (xs := ds.map .dat) (B := []) ?_ (.inr (tupk sp1 _ _ hsq)) s0 sl ⟨⟨[], ?_, List.nodup_nil, fun _ m => m⟩, Spoil.refl fun _ m => by cases m⟩ fun σ2 H2 h0 sp2 => ?_
          · have h' : ds.all (spD n) = true := hsp
            rw [List.all_map]
            refine List.all_eq_true.mpr fun y my => ?_
            have := List.all_eq_true.mp h' y my
            show spV n (.dat y) = true
            cases n with
            | zero => exact this
            | succ m => exact this
          · have hn' : noLs ds = true := by simpa [noL] using hn
            exact reps_rvs (W := wNone) (hrs.keepN (tupk sp1) hn')
          · have sp3 : Spoil H H2 [] := ⟨fun a o m e => sp2.out a o m (sp1.out a o m e), (fun _ m => by cases m), (fun _ m => by cases m)⟩
            refine rd2 (T := "tuple") h0 (by decide) (ty_data (rdk sp3) hn) ?_
            exact q H2 sp3
      · have hkind : (subT (tyN d) "list" || subT (tyN d) "tuple") = false ∧ subT (tyN d) "list" = false := by
          cases d with
          | tuple ds => exact absurd ⟨ds, rfl⟩ ht
          | list => simp [noL] at hn
          | dict => simp [noL] at hn
          | _ => exact ⟨rfl, rfl⟩
        refine rd1 (T := tyN d) s0 (tyN_mem d) (fun p hp => ty_data (rdk (grow nob hp)) hn) fun p hp => ?_
        rw [hkind.1]
        have sp1 : Spoil H (upd H p (.tup [.ty "list", .ty "tuple"])) [] := grow nob hp
        refine rd2 (T := tyN d) s0 (tyN_mem d) (ty_data (rdk sp1) hn) ?_
        rw [hkind.2]
        exact q _ sp1
    | @own a0 xs us A' h0 hs =>
      obtain ⟨hlen, hall⟩ := and2 (show (decide (xs.length < lim) && xs.all (spV n)) = true from hsp)
      have hlen := of_decide_eq_true hlen
      have nd' := List.nodup_cons.mp nd
      have hA' : ∀ b ∈ A', ∃ vs, H b = some (.lst vs) := all_lists (sp_lists n) hs hall
      refine rd1 (T := "list") s0 (by decide) (fun p hp => .base (.lst (xs := us) (by rw [upd_ne (ne_of_none h0 hp)]; exact h0))) fun p hp => ?_
      have sp1 : Spoil H (upd H p (.tup [.ty "list", .ty "tuple"])) A' := grow hA' hp
      have h1 : upd H p (.tup [.ty "list", .ty "tuple"]) a0 = some (.lst us) := by rw [upd_ne (ne_of_none h0 hp)]; exact h0
      have r0 : RVs K w wNone H xs us A' := RVs.clean hs (spV_cleans hall)
      have r1 : RVs K w wNone (upd H p (.tup [.ty "list", .ty "tuple"])) xs us A' := r0.okV (sp1.ks (W := wNone) (fun _ _ z => z) fun _ z => z.elim) (spV_okVs hall) fun b m => by
        obtain ⟨vs, e⟩ := hA' b m
        rw [upd_ne (ne_of_none e hp)]
      refine walk hall (.inl ⟨h1, nd'.1⟩) s0 sl ⟨⟨A', r1, nd'.2, fun _ m => m⟩, Spoil.refl sp1.now⟩ fun σ2 H2 g0 sp2 => ?_
      have h2 : H2 a0 = some (.lst us) := sp2.out a0 _ nd'.1 h1
      refine rd2 (T := "list") g0 (by decide) (.base (.lst h2)) ?_
      refine ⟨.ref a0, g0, .inl ⟨rfl, us, SqL.of h2⟩, a0, us, .str late, rfl, rfl, h2, by rw [← hs.length, ← lim_eq]; exact hlen, ?_⟩
      refine q _ ⟨fun b o nb e => ?_, fun b m => ?_, fun b m => ?_⟩
      · have nb' : b ≠ a0 ∧ b ∉ A' := by simpa using nb
        rw [upd_ne nb'.1]
        exact sp2.out b o nb'.2 (sp1.out b o nb'.2 e)
      · rcases List.mem_cons.mp m with rfl | m
        · exact ⟨_, h0⟩
        · exact hA' b m
      · by_cases z : b = a0
        · exact ⟨_, by rw [z]; exact upd_same⟩
        · rcases List.mem_cons.mp m with e | m
          · exact absurd e z
          · obtain ⟨vs, e⟩ := sp2.now b m
            exact ⟨vs, by rw [upd_ne z]; exact e⟩
    | _ => cases hsp
end
end Z

set_option linter.all false
set_option maxRecDepth 100000
set_option maxHeartbeats 2000000
/-! Z68: from a head's facts to the law's end. -/
namespace Z
open PySem PySem.Spec PyProof.Rows L2
/-- a def of the top: its name, its statement, its parameters, its slots -/
structure Ent where
  x : Str
  st : Stmt
  ps : List Str
  N : List Str
def Ent.fn (e : Ent) : Fn := ⟨e.ps, e.N, defBody e.st⟩
def Ent.d (e : Ent) : He.DefD := ⟨(e.x, none), e.x, e.x, defArgs e.st, defBody e.st, defScope e.st, [], []⟩
def lookE : List Ent → Str → Option Ent
  | [], _ => none
  | e :: r, x => if seq' e.x x then some e else lookE r x
theorem lookE_mem : ∀ {l : List Ent} {x : Str} {e : Ent}, lookE l x = some e → e ∈ l ∧ e.x = x
  | [], _, _, h => by cases h
  | a :: r, x, e, h => by
    rw [lookE] at h
    split at h
    · rename_i hs
      cases h
      exact ⟨List.mem_cons_self, seq_eq hs⟩
    · obtain ⟨h1, h2⟩ := lookE_mem h
      exact ⟨List.mem_cons_of_mem _ h1, h2⟩
/-- marks by place -/
structure Marks where
  cells : List (Nat × Nat)
  own : List (Nat × Nat)
  fz : List ((Nat × Nat) × List Nat)
def hasP (l : List (Nat × Nat)) (p : Pos) : Bool := l.any fun q => q.1 == p.line && q.2 == p.col
def fzP : List ((Nat × Nat) × List Nat) → Pos → List Nat
  | [], _ => []
  | (q, l) :: r, p => if q.1 == p.line && q.2 == p.col then l else fzP r p
def cfgOf (tb : List Ent) (m : Marks) (kl : Option Str) : Cfg := ⟨fun x => (lookE tb x).map (·.ps), fun _ => none, hasP m.cells, hasP m.own, fzP m.fz, fun x => match kl with | some k => seq' x k | none => false, 100000⟩
def defsOf (tb : List Ent) (x : Str) : Option Fn := (lookE tb x).map Ent.fn
def entB (cf : Cfg) (e : Ent) : Bool := dfB cf e.fn (defArgs e.st) (defScope e.st) && !(e.x == ("__debug__" : Str))
def klE (tb : List Ent) : Option Str → Bool
  | none => true
  | some k => match lookE tb k with
    | some e => klB k (defArgs e.st) (defBody e.st) (defScope e.st) && !(k == ("__debug__" : Str))
    | none => false
theorem prg_of {P : Program} {w : World} {K : PySem.W.Frag} {mg : Str → Option Value} {base h : Heap} {fa : List He.Fa} {fnl : List He.DefD} {tb : List Ent} {m : Marks} {kl : Option Str} (X : K.In h) (G : h.Ns mainGlobals mg) (c : He.SaysD fa fnl K)
    (hfn : ∀ e ∈ tb, e.d ∈ fnl) (hfa : ∀ e ∈ tb, He.Fa.glo e.x ∈ fa) (hfr : ∀ x ∈ blNames, He.Fa.free x ∈ fa) (hck : tb.all (entB (cfgOf tb m kl)) = true) (hkl : klE tb kl = true) : Prg P w K mg base (cfgOf tb m kl) (defsOf tb) := by
  have bm : ∀ x ∈ blNames, mg x = none := fun x hx => He.free_ok X G (c.facts (hfr x hx))
  have ent : ∀ e ∈ tb, ∃ a fd, FunD K e.x e.x (defArgs e.st) (defBody e.st) (defScope e.st) [] [] a fd ∧ mg e.x = some (.ref a) := fun e he => by
    obtain ⟨fd, F⟩ := c.defs (hfn e he)
    exact ⟨_, fd, F, He.glo_ok X G (c.facts (hfa e he))⟩
  refine ⟨fun x fn hx => ?_, fun x ps hx => ?_, bm, fun x hx => ?_⟩
  · obtain ⟨e, h1, rfl⟩ := Option.map_eq_some_iff.mp hx
    obtain ⟨m1, rfl⟩ := lookE_mem h1
    obtain ⟨a, fd, F, hm⟩ := ent e m1
    obtain ⟨b1, b2⟩ := and2 (all_mem hck e m1)
    exact ⟨a, fd, _, _, F, hm, b1, by simpa using b2⟩
  · obtain ⟨e, h1, rfl⟩ := Option.map_eq_some_iff.mp hx
    exact ⟨e.fn, by unfold defsOf; rw [h1]; rfl, rfl⟩
  · cases kl with
    | none => cases hx
    | some k =>
      obtain rfl := seq_eq hx
      unfold klE at hkl
      dsimp only at hkl
      cases he : lookE tb x with
      | none => rw [he] at hkl; cases hkl
      | some e =>
        rw [he] at hkl
        obtain ⟨k1, k2⟩ := and2 hkl
        obtain ⟨m1, rfl⟩ := lookE_mem he
        obtain ⟨a, fd, F, hm⟩ := ent e m1
        have kf := kl_ok (P := P) (w := w) (base := base) F hm k1 bm 40
        exact ⟨by simpa using k2, 41, a, fd, "thing", by decide, kf, hm, F.kp, binds_pos (plain_of_fun F (dfB_ok (klB_ok k1).2.2).2.2)⟩
/-- nothing raised is told of -/
def xrNo : XR := fun _ _ _ _ _ _ => True
theorem xrNo_o : XRO xrNo := fun _ _ _ _ _ _ _ h => h
theorem walk_end {l : PySem.W.OpenLaw} {n k : Nat} {q : Program} {loose : List Str} {XP : (Str → Option Value) → Heap → Prop} {YP : World → Heap → Prop} {d : DefRec} {x : Str} (hn : l.most = some n) (hn2 : n ≤ sizeLine) (hdf : d.params.defaults = []) (hr : Room k callerA)
    (F : ∀ (w : World) (mg : Str → Option Value) (fa : Addr) (h : Heap), YP w h → h.Ns mainGlobals mg → mg d.name = some (.ref fa) → ∃ (K : PySem.W.Frag) (fd : FuncData) (sp : Sp), K.In h ∧ (∀ (s : Shared) (u : Value), BindsTo s fd ⟨[u], []⟩ [(x, u)]) ∧
      (∀ (H : Hp) (a : Addr) (ns : List Int), ns.length ≤ n → (∀ z ∈ ns, Builtin.Int.intBits z ≤ 1048576) → Only H → SqL K H a (ns.map V.int) → sp [.ref a] H (fun v _ => v = .bl true) fun _ _ _ => False) ∧
      ∀ base : Heap, K.In base → base.Ns mainGlobals mg → FnOk l.prog w K mg base (L2.CX l.prog w) k fa fd [x] sp) : PySem.W.WalkO q loose XP YP l.row.toRowW d [] (fun f vs => PySem.call f vs) := by
  refine Att.attach_callB hn hdf fun w s₀ s₁ mg mb fa o pm cd doc a vs ns G Y ho hd hcd hmg hobj hints hlen hbits hg => ?_
  obtain ⟨K, fd, sp, KX, hb, hsp, hF⟩ := F w mg fa _ Y G.T.g hmg
  refine law_call KX G.T.g G.T.b G.T.builtins G.T.nolimit hg hobj hints (Nat.le_trans hlen hn2) hr hF hb (fun H hO hS => hsp H a ns hlen hbits hO hS) fun H e s' h => ?_
  obtain ⟨_, _, _, _, _, _, _, _, _, _, _, _, z⟩ := h
  exact z.elim
/-- the law's end -/
theorem law_end {P : Program} {w : World} {K : PySem.W.Frag} {mg : Str → Option Value} {h : Heap} {fa : List He.Fa} {fnl : List He.DefD} {tb : List Ent} {m : Marks} {kl : Option Str} {d : Nat} {f : Addr} (X : K.In h) (G : h.Ns mainGlobals mg) (c : He.SaysD fa fnl K)
    (hfn : ∀ e ∈ tb, e.d ∈ fnl) (hfa : ∀ e ∈ tb, He.Fa.glo e.x ∈ fa) (hfr : ∀ x ∈ blNames, He.Fa.free x ∈ fa) (hck : tb.all (entB (cfgOf tb m kl)) = true) (hkl : klE tb kl = true) (hf : mg ("law" : Str) = some (.ref f)) (hl : (lookE tb "law").map (·.ps) = some (["script"] : List Str))
    (law : ∀ ns : List Int, ns.length ≤ 63 → (∀ z ∈ ns, Builtin.Int.intBits z ≤ 1048576) → ∃ st, callF (cfgOf tb m kl) (defsOf tb) d "law" [.scr ns] [] = .ok (.dat (.bool true)) st) :
    ∃ (K : PySem.W.Frag) (fd : FuncData) (sp : Sp), K.In h ∧ (∀ (s : Shared) (u : Value), BindsTo s fd ⟨[u], []⟩ [("script", u)]) ∧
        (∀ (H : Hp) (a : Addr) (ns : List Int), ns.length ≤ 63 → (∀ z ∈ ns, Builtin.Int.intBits z ≤ 1048576) → Only H → SqL K H a (ns.map V.int) → sp [.ref a] H (fun v _ => v = .bl true) fun _ _ _ => False) ∧
        ∀ base : Heap, K.In base → base.Ns mainGlobals mg → FnOk P w K mg base (L2.CX P w) (d + lvl) f fd ["script"] sp := by
  obtain ⟨e, he, hps⟩ := Option.map_eq_some_iff.mp hl
  have hde : defsOf tb "law" = some e.fn := by unfold defsOf; rw [he]; rfl
  -- the function's data do not hang on base
  obtain ⟨m1, hx⟩ := lookE_mem he
  obtain ⟨fd, F⟩ := c.defs (hfn e m1)
  have hm := He.glo_ok X G (c.facts (hfa e m1))
  rw [hx, hf] at hm
  cases hm
  obtain ⟨b1, b2⟩ := and2 (all_mem hck e m1)
  have pl := plain_of_fun F (dfB_ok b1).2.2
  have hp : e.fn.ps = (["script"] : List Str) := hps
  rw [hp] at pl
  refine ⟨K, fd, spC K w xrNo 1 (callF (cfgOf tb m kl) (defsOf tb) d "law"), X, fun s u => .of_eq (bind_pos pl (us := [u]) rfl), fun H a ns hn hbt ho hs => law_sp (law ns hn hbt) H a ho hs, fun base hb1 hb2 => ?_⟩
  obtain ⟨a, fd', q1, q2, q3, q4, _, oc, od, osl, q6⟩ := prg_ok xrNo_o (prg_of (P := P) (w := w) (base := base) X G c hfn hfa hfr hck hkl) d "law" e.fn hde
  rw [hf] at q2
  cases q2
  obtain ⟨oc', od', osl', q7⟩ := fun_look F
  have q7 : K.lookup (He.ga K e.x) = some ⟨oc', od', .func fd, osl'⟩ := q7
  rw [hx, q6] at q7
  cases q7
  rw [hp] at q1
  exact q1
end Z

set_option linter.all false
set_option maxRecDepth 100000
set_option maxHeartbeats 2000000
/-! Z69: the reader's steps, as rewriting rules. -/
namespace Z
open PySem
section
variable {α β : Type} {cf : Cfg} {C : Str → List RV → Sto → R RV} {N : List Str} {n : Nat} {env : Ev} {st : Sto}
@[simp] theorem b_ok (a : α) (st : Sto) (f : α → Sto → R β) : (R.ok a st).bind f = f a st := rfl
@[simp] theorem b_err (f : α → Sto → R β) : (R.err : R α).bind f = .err := rfl
@[simp] theorem b_exc (c : Str) (xs : List RV) (st : Sto) (f : α → Sto → R β) : (R.exc c xs st : R α).bind f = .exc c xs st := rfl
@[simp] theorem o_some (a : α) (st : Sto) : ofO (some a) st = .ok a st := rfl
@[simp] theorem o_none (st : Sto) : (ofO none st : R α) = .err := rfl
theorem mkf {α : Type} {a b : α} (h : a = b) : a = b := h
/-! statements -/
@[simp] theorem x_nil (ex : Stmt → Ev → Sto → R Fl) (env : Ev) (st : Sto) : execL ex [] env st = .ok (.nxt env) st := rfl
@[simp] theorem x_cons (ex : Stmt → Ev → Sto → R Fl) (s : Stmt) (r : List Stmt) (env : Ev) (st : Sto) : execL ex (s :: r) env st = (ex s env st).bind fun f st => match f with | .nxt env => execL ex r env st | f => .ok f st := rfl
@[simp] theorem x_asg (t e : Expr) (p : Pos) : execS cf C N (n + 1) (.Assign [t] e p) env st = execAsg N (evalE cf C N evN) (cf.own p) t e (fzAll env (cf.fz p)) st := rfl
@[simp] theorem x_expr (e : Expr) (p : Pos) : execS cf C N (n + 1) (.Expr e p) env st = execExpr cf N (evalE cf C N evN) e (fzAll env (cf.fz p)) st := rfl
@[simp] theorem x_ret (e : Expr) (p : Pos) : execS cf C N (n + 1) (.Return (some e) p) env st = retR N (evalE cf C N evN) e (fzAll env (cf.fz p)) st := rfl
@[simp] theorem x_retN (p : Pos) : execS cf C N (n + 1) (.Return none p) env st = .ok (.ret (.dat .none)) st := rfl
@[simp] theorem x_if (c : Expr) (a b : List Stmt) (p : Pos) : execS cf C N (n + 1) (.If c a b p) env st = (evT (evalE cf C N evN) c (fzAll env (cf.fz p)) st).bind fun t st => if t then execL (execS cf C N n) a (fzAll env (cf.fz p)) st else execL (execS cf C N n) b (fzAll env (cf.fz p)) st := rfl
@[simp] theorem x_for (tg it : Expr) (body : List Stmt) (p : Pos) : execS cf C N (n + 1) (.For tg it body [] p) env st = match ownSlot N (fzAll env (cf.fz p)) it with
      | some (j, vs) => (ofO (deeps vs) st).bind fun ds st => forF N tg (execL (execS cf C N n) body) (ds.map .dat) ((fzAll env (cf.fz p)).set j (some (.dat (.list ds)))) st
      | none => (evI (evalE cf C N evN) true it (fzAll env (cf.fz p)) st).bind fun xs st => if okTs xs then forF N tg (execL (execS cf C N n) body) xs (fzAll env (cf.fz p)) st else .err := rfl
@[simp] theorem x_while (c : Expr) (body : List Stmt) (p : Pos) : execS cf C N (n + 1) (.While c body [] p) env st = whileF (evT (evalE cf C N evN) c) (execL (execS cf C N n) body) cf.turns (fzAll env (cf.fz p)) st := rfl
@[simp] theorem fz_nil (env : Ev) : fzAll env [] = env := rfl
/-! expressions -/
@[simp] theorem e_name (x : Str) (p : Pos) : evalE cf C N (n + 1) (.Name x p) env st = match ix N x with
        | some i => readS env i st
        | none => match cf.glob x with
          | some d => .ok (.dat d) st
          | none => .err := by
  rw [ev_name]
  cases ix N x <;> rfl
@[simp] theorem e_none (k : Nat) (p : Pos) : evalE cf C N (n + 1) (.Constant .none k p) env st = .ok (.dat .none) st := rfl
@[simp] theorem e_bool (b : Bool) (k : Nat) (p : Pos) : evalE cf C N (n + 1) (.Constant (.bool b) k p) env st = .ok (.dat (.bool b)) st := rfl
@[simp] theorem e_int (i : Int) (k : Nat) (p : Pos) : evalE cf C N (n + 1) (.Constant (.int i) k p) env st = .ok (.dat (.int i)) st := rfl
@[simp] theorem e_str (s : Str) (k : Nat) (p : Pos) : evalE cf C N (n + 1) (.Constant (.str s) k p) env st = .ok (.dat (.str s)) st := rfl
@[simp] theorem e_tup (es : List Expr) (k : Nat) (p : Pos) : evalE cf C N (n + 1) (.Tuple es k p) env st = (evK (evalE cf C N n) es env st).bind fun vs st => .ok (match dats vs with | some ds => .dat (.tuple ds) | none => .tpl vs) st := rfl
@[simp] theorem e_list (es : List Expr) (p : Pos) : evalE cf C N (n + 1) (.List es p) env st = if cf.cell p then (evCells (evalE cf C N n) es env st).bind fun vs st => .ok (.ref st.length) (st ++ [.lst vs])
      else (evL (evalE cf C N n) es env st).bind fun vs st => (ofO (elems vs) st).bind fun ws st => .ok (.own ws) st := rfl
@[simp] theorem e_dict (ks : List (Option Expr)) (vs : List Expr) (p : Pos) : evalE cf C N (n + 1) (.Dict ks vs p) env st = if cf.cell p then (evPairs (evalE cf C N n) ks vs env st).bind fun kvs st => (ofO (putAll [] kvs) st).bind fun kvs st => .ok (.ref st.length) (st ++ [.dct kvs])
      else (evPairsO (evalE cf C N n) ks vs env st).bind fun kvs st => (ofO (putAll [] kvs) st).bind fun kvs st => .ok (.odi kvs) st := rfl
@[simp] theorem e_bin (a b : Expr) (op : Operator) (p : Pos) : evalE cf C N (n + 1) (.BinOp a op b p) env st = (evalE cf C N n a env st).bind fun v st => (evalE cf C N n b env st).bind fun u st => (ofO (solid st v) st).bind fun x st => (ofO (solid st u) st).bind fun y st => ofO (binD op x y) st := rfl
@[simp] theorem e_not (a : Expr) (p : Pos) : evalE cf C N (n + 1) (.UnaryOp .Not a p) env st = (evT (evalE cf C N n) a env st).bind fun b st => .ok (.dat (.bool (!b))) st := rfl
@[simp] theorem e_neg (a : Expr) (p : Pos) : evalE cf C N (n + 1) (.UnaryOp .USub a p) env st = (evV (evalE cf C N n) a env st).bind fun d st => match d with | .int i => .ok (.dat (.int (-i))) st | _ => .err := rfl
@[simp] theorem e_and (es : List Expr) (p : Pos) : evalE cf C N (n + 1) (.BoolOp .And es p) env st = evAnd (evalE cf C N n) es env st := rfl
@[simp] theorem e_or (es : List Expr) (p : Pos) : evalE cf C N (n + 1) (.BoolOp .Or es p) env st = evOr (evalE cf C N n) es env st := rfl
@[simp] theorem e_cmp (a b : Expr) (op : CmpOp) (p : Pos) : evalE cf C N (n + 1) (.Compare a [op] [b] p) env st = (evalE cf C N n a env st).bind fun x st => (evalE cf C N n b env st).bind fun y st => cmpR op x y st := rfl
@[simp] theorem e_cmp2 (a b c : Expr) (op op' : CmpOp) (p : Pos) : evalE cf C N (n + 1) (.Compare a [op, op'] [b, c] p) env st = (evalE cf C N n a env st).bind fun x st => (evalE cf C N n b env st).bind fun y st => (cmpR op x y st).bind fun t st => match t with
        | .dat (.bool true) => (evalE cf C N n c env st).bind fun z st => cmpR op' y z st
        | t => .ok t st := rfl
@[simp] theorem e_if (t a b : Expr) (p : Pos) : evalE cf C N (n + 1) (.IfExp t a b p) env st = (evT (evalE cf C N n) t env st).bind fun c st => if c then evalE cf C N n a env st else evalE cf C N n b env st := rfl
@[simp] theorem e_sub (o i : Expr) (p : Pos) (h : isSlice i = false) : evalE cf C N (n + 1) (.Subscript o i p) env st = (evalE cf C N n o env st).bind fun v st => (evV (evalE cf C N n) i env st).bind fun k st => subR v k st := by
  cases i <;> first | rfl | cases h
@[simp] theorem e_slice (o : Expr) (lo hi : Option Expr) (p p2 : Pos) : evalE cf C N (n + 1) (.Subscript o (.Slice lo hi none p2) p) env st = (evalE cf C N n o env st).bind fun v st => (evOpt (evalE cf C N n) lo env st).bind fun l st => (evOpt (evalE cf C N n) hi env st).bind fun h st => (ofO (solid st v) st).bind fun d st => ofO (sliceD d l h) st := rfl
@[simp] theorem e_rev (o : Expr) (p p2 p3 p4 : Pos) (k : Nat) : evalE cf C N (n + 1) (.Subscript o (.Slice none none (some (.UnaryOp .USub (.Constant (.int 1) k p3) p4)) p2) p) env st = (evS (evalE cf C N n) o env st).bind fun d st => match d with
          | .list xs => .ok (.own (xs.reverse.map .dat)) st
          | _ => .err := rfl
@[simp] theorem e_lc (elt tg it : Expr) (ifs : List Expr) (a : Int) (sc : Scope) (p : Pos) : evalE cf C N (n + 1) (.ListComp elt [⟨tg, it, ifs, a⟩] sc p) env st = (evI (evalE cf C N n) false it env st).bind fun xs st => (noExc (lcF N (evalE cf C N n) tg ifs (lcE (evalE cf C N n) elt) (wipeE env (ownIx N sc)) xs st)).bind fun ds st => if ds.length ≤ lim then .ok (.own ds) st else .err := by
  have h : evalE cf C N (n + 1) (.ListComp elt [⟨tg, it, ifs, a⟩] sc p) env st = R.bind (R.bind (evI (evalE cf C N n) false it env st) fun xs st => R.bind (noExc (lcF N (evalE cf C N n) tg ifs (lcE (evalE cf C N n) elt) (wipeE env (ownIx N sc)) xs st)) fun ds st => if ds.length ≤ lim then R.ok ds st else R.err) fun ds st => R.ok (RV.own ds) st := rfl
  rw [h, R.bind_assoc]
  congr 1
  funext xs st
  rw [R.bind_assoc]
  congr 1
  funext ds st
  split <;> rfl
@[simp] theorem e_dc (k v tg it : Expr) (ifs : List Expr) (a : Int) (sc : Scope) (p : Pos) : evalE cf C N (n + 1) (.DictComp k v [⟨tg, it, ifs, a⟩] sc p) env st = (evI (evalE cf C N n) false it env st).bind fun xs st => (noExc (dcF N (evalE cf C N n) tg ifs k v (wipeE env (ownIx N sc)) xs [] st)).bind fun kvs st => .ok (.odi kvs) st := rfl
/-- a def's call -/
@[simp] theorem e_call (f : Str) (p q : Pos) (as : List Expr) (ps : List Str) (h1 : ix N f = none) (h2 : cf.ps f = some ps) : evalE cf C N (n + 1) (.Call (.Name f p) as [] q) env st = (evK (evalE cf C N n) as env st).bind fun vs st => if vs.length = ps.length then callR C f vs st else .err := by
  rw [ev_call]
  simp only [h1, h2]
@[simp] theorem e_callK (f : Str) (p q : Pos) (k : Keyword) (ks : List Keyword) (ps ns : List Str) (h1 : ix N f = none) (h2 : cf.ps f = some ps) (h3 : kwNames (k :: ks) = some ns) : evalE cf C N (n + 1) (.Call (.Name f p) [] (k :: ks) q) env st = (evK (evalE cf C N n) (kwExprs (k :: ks)) env st).bind fun vs st => if vs.length = ps.length then (ofO (reorder (ns.zip vs) ps) st).bind fun vs st => callR C f vs st else .err := by
  rw [ev_call]
  simp only [h1, h2, h3]
@[simp] theorem e_blt (f : Str) (p q : Pos) (as : List Expr) (h1 : ix N f = none) (h2 : cf.ps f = none) : evalE cf C N (n + 1) (.Call (.Name f p) as [] q) env st = callB (evalE cf C N n) f as env st := by
  rw [ev_call]
  simp only [h1, h2]
@[simp] theorem e_meth (o a : Expr) (m : Str) (p q : Pos) (as : List Expr) (l : Bool) (h : methT m = some l) : evalE cf C N (n + 1) (.Call (.Attribute o m p) (a :: as) [] q) env st = (evalE cf C N n o env st).bind fun v st => if methOk l v st then (evK (evalE cf C N n) (a :: as) env st).bind fun vs st => methR m v vs st else .err := by
  rw [ev_attr]
  simp only [h]
/-! parts -/
variable (ev : Expr → Ev → Sto → R RV)
@[simp] theorem l_nil : evL ev [] env st = .ok [] st := rfl
@[simp] theorem l_cons (e : Expr) (r : List Expr) : evL ev (e :: r) env st = (ev e env st).bind fun v st => (evL ev r env st).bind fun vs st => .ok (v :: vs) st := rfl
@[simp] theorem and_one (e : Expr) : evAnd ev [e] env st = ev e env st := rfl
@[simp] theorem and_cons (e b : Expr) (r : List Expr) : evAnd ev (e :: b :: r) env st = (ev e env st).bind fun v st => (truthOf v st).bind fun t st => if t then evAnd ev (b :: r) env st else .ok v st := rfl
@[simp] theorem or_one (e : Expr) : evOr ev [e] env st = ev e env st := rfl
@[simp] theorem or_cons (e b : Expr) (r : List Expr) : evOr ev (e :: b :: r) env st = (ev e env st).bind fun v st => (truthOf v st).bind fun t st => if t then .ok v st else evOr ev (b :: r) env st := rfl
@[simp] theorem t_eq (e : Expr) : evT ev e env st = (ev e env st).bind truthOf := rfl
@[simp] theorem v_eq (e : Expr) : evV ev e env st = (ev e env st).bind fun v st => ofO (vw st v) st := rfl
@[simp] theorem k_eq (es : List Expr) : evK ev es env st = (evL ev es env st).bind fun vs st => ofO (keeps vs) st := rfl
@[simp] theorem c_len (a : Expr) : callB ev "len" [a] env st = (ev a env st).bind fun v st => (ofO (lenV st v) st).bind fun n st => .ok (.dat (.int n)) st := rfl
theorem c_b1 (f : Str) (a : Expr) (hl : seq' f "len" = false) (hli : seq' f "list" = false) (hb : isB1 f = true) : callB ev f [a] env st = (ev a env st).bind fun v st => blt1V f v st := by
  unfold callB
  dsimp only
  rw [hl, if_neg Bool.false_ne_true]
  split
  · rw [hli, Bool.false_and, if_neg Bool.false_ne_true, if_pos hb]
  · rw [if_pos hb]
@[simp] theorem c_all (a : Expr) : callB ev "all" [a] env st = (ev a env st).bind fun v st => blt1V "all" v st := c_b1 ev _ a rfl rfl rfl
@[simp] theorem c_any (a : Expr) : callB ev "any" [a] env st = (ev a env st).bind fun v st => blt1V "any" v st := c_b1 ev _ a rfl rfl rfl
@[simp] theorem c_tuple (a : Expr) : callB ev "tuple" [a] env st = (ev a env st).bind fun v st => blt1V "tuple" v st := c_b1 ev _ a rfl rfl rfl
@[simp] theorem c_int (a : Expr) : callB ev "int" [a] env st = (ev a env st).bind fun v st => blt1V "int" v st := c_b1 ev _ a rfl rfl rfl
@[simp] theorem c_abs (a : Expr) : callB ev "abs" [a] env st = (ev a env st).bind fun v st => blt1V "abs" v st := c_b1 ev _ a rfl rfl rfl
@[simp] theorem c_list (x : Str) (p : Pos) : callB ev "list" [.Name x p] env st = (ev (.Name x p) env st).bind fun v st => blt1V "list" v st := rfl
@[simp] theorem c_listRange (b : Expr) (p q : Pos) : callB ev "list" [.Call (.Name "range" p) [b] [] q] env st = (evV ev b env st).bind fun d st => match d with
          | .int j => (ofO (rangeL 0 j 1) st).bind fun xs st => .ok (.own xs) st
          | _ => .err := rfl
@[simp] theorem c_isi (a : Expr) (T : Str) (p : Pos) : callB ev "isinstance" [a, .Name T p] env st = (ev a env st).bind fun v st => (ofO (kindOf st v) st).bind fun d st => (ofO (typeHas T d) st).bind fun r st => .ok (.dat (.bool r)) st := rfl
@[simp] theorem c_isiT (a : Expr) (es : List Expr) (k : Nat) (p : Pos) : callB ev "isinstance" [a, .Tuple es k p] env st = (ev a env st).bind fun v st => (ofO (kindOf st v) st).bind fun d st => (ofO (typesHave es d) st).bind fun r st => .ok (.dat (.bool r)) st := rfl
/-! walks -/
@[simp] theorem i_range1 (fs : Bool) (a : Expr) (p q : Pos) : evI ev fs (.Call (.Name "range" p) [a] [] q) env st = (ev a env st).bind fun v st => (ofO (vw st v) st).bind fun d st => ofO (range1 d) st := rfl
@[simp] theorem i_range2 (fs : Bool) (a b : Expr) (p q : Pos) : evI ev fs (.Call (.Name "range" p) [a, b] [] q) env st = (ev a env st).bind fun v st => (ev b env st).bind fun u st => (ofO (vw st v) st).bind fun x st => (ofO (vw st u) st).bind fun y st => ofO (range2 x y) st := rfl
@[simp] theorem i_enum (fs : Bool) (a : Expr) (p q : Pos) : evI ev fs (.Call (.Name "enumerate" p) [a] [] q) env st = (ev a env st).bind fun v st => (ofO (solid' fs st v) st).bind fun d st => ofO (enumD d) st := rfl
@[simp] theorem i_zip (fs : Bool) (a b : Expr) (p q : Pos) : evI ev fs (.Call (.Name "zip" p) [a, b] [] q) env st = (ev a env st).bind fun v st => (ev b env st).bind fun u st => (ofO (solid' fs st v) st).bind fun x st => (ofO (solid' fs st u) st).bind fun y st => ofO (zipD x y) st := rfl
@[simp] theorem i_name (fs : Bool) (x : Str) (p : Pos) : evI ev fs (.Name x p) env st = (ev (.Name x p) env st).bind fun v st => ofO (itemsV fs st v) st := rfl
@[simp] theorem i_sub (fs : Bool) (a b : Expr) (p : Pos) : evI ev fs (.Subscript a b p) env st = (ev (.Subscript a b p) env st).bind fun v st => ofO (itemsV fs st v) st := rfl
@[simp] theorem i_call3 (fs : Bool) (f : Str) (a b c : Expr) (r : List Expr) (p q : Pos) : evI ev fs (.Call (.Name f p) (a :: b :: c :: r) [] q) env st = (ev (.Call (.Name f p) (a :: b :: c :: r) [] q) env st).bind fun v st => ofO (itemsV fs st v) st := rfl
/-! loops over what is known to go one way -/
theorem lcF_one {tg : Expr} {ifs : List Expr} {elt : Expr} {g : RV → RV} {p : RV → Bool} : ∀ {xs : List RV}, (∀ x ∈ xs, ∃ env', asgT N tg x env = some env' ∧ tests ev ifs env' st = .ok (p x) st ∧ (p x = true → lcE ev elt env' st = .ok [g x] st)) → lcF N ev tg ifs (lcE ev elt) env xs st = .ok ((xs.filter p).map g) st
  | [], _ => rfl
  | x :: xs, h => by
    obtain ⟨env', e1, e2, e3⟩ := h x List.mem_cons_self
    have ih := lcF_one (xs := xs) fun y m => h y (List.mem_cons_of_mem _ m)
    show ((ofO (asgT N tg x env) st).bind fun env' st => (tests ev ifs env' st).bind fun b st =>
      (if b then lcE ev elt env' st else .ok [] st).bind fun ds st => (lcF N ev tg ifs (lcE ev elt) env xs st).bind fun es st => .ok (ds ++ es) st) = _
    rw [e1]
    show ((tests ev ifs env' st).bind fun b st => _) = _
    rw [e2]
    cases hp : p x with
    | true =>
      rw [b_ok, if_pos rfl, e3 hp, b_ok, ih, b_ok, List.filter_cons, if_pos hp]
      rfl
    | false =>
      rw [b_ok, if_neg Bool.false_ne_true, b_ok, ih, b_ok, List.filter_cons, if_neg (by rw [hp]; exact Bool.false_ne_true)]
      rfl
end
section
variable {α β : Type}
/-- what comes behind waits for its turn -/
@[simp] theorem evN_eq : evN = 60 := mkf rfl
class Cont (α β : Type) where
  f : α → Sto → R β
def R.bindI (r : R α) [k : Cont α β] : R β := r.bind k.f
@[simp↓] theorem b_in (r : R α) (f : α → Sto → R β) : r.bind f = @R.bindI α β r ⟨f⟩ := mkf rfl
theorem b_out (r : R α) (k : Cont α β) : @R.bindI α β r k = r.bind k.f := mkf rfl
@[simp] theorem bi_ok (a : α) (st : Sto) (k : Cont α β) : @R.bindI α β (R.ok a st) k = k.f a st := mkf rfl
@[simp] theorem bi_err (k : Cont α β) : @R.bindI α β R.err k = .err := mkf rfl
@[simp] theorem bi_exc (c : Str) (xs : List RV) (st : Sto) (k : Cont α β) : @R.bindI α β (R.exc c xs st) k = .exc c xs st := mkf rfl
theorem bi_assoc {γ : Type} (r : R α) (k : Cont α β) (k2 : Cont β γ) : @R.bindI β γ (@R.bindI α β r k) k2 = @R.bindI α γ r ⟨fun a st => @R.bindI β γ (k.f a st) k2⟩ := R.bind_assoc r k.f k2.f
variable {cf : Cfg} {C : Str → List RV → Sto → R RV} {N : List Str} {env : Ev} {st : Sto} {ev : Expr → Ev → Sto → R RV}
/-! slots -/
@[simp] theorem rs_dat (d : PyData) (r : Ev) : readS (some (.dat d) :: r) 0 st = .ok (.dat d) st := rfl
@[simp] theorem rs_ref (i : Nat) (r : Ev) : readS (some (.ref i) :: r) 0 st = .ok (.ref i) st := rfl
@[simp] theorem rs_scr (i : List Int) (r : Ev) : readS (some (.scr i) :: r) 0 st = .ok (.scr i) st := rfl
@[simp] theorem rs_tpl (i : List RV) (r : Ev) : readS (some (.tpl i) :: r) 0 st = .ok (.tpl i) st := rfl
@[simp] theorem rs_own (i : List RV) (r : Ev) : readS (some (.own i) :: r) 0 st = (ofO (deeps i) st).bind fun ds st => .ok (.bor (.list ds)) st := rfl
@[simp] theorem rs_odi (i : List (PyData × RV)) (r : Ev) : readS (some (.odi i) :: r) 0 st = (ofO (deepKv i) st).bind fun ds st => .ok (.bor (.dict ds)) st := rfl
@[simp] theorem rs_succ (x : Option RV) (r : Ev) (i : Nat) : readS (x :: r) (i + 1) st = readS r i st := rfl
@[simp] theorem os_name (x : Str) (p : Pos) : ownSlot N env (.Name x p) = match ix N x with
    | some i => match env[i]? with
      | some (some (.own vs)) => some (i, vs)
      | _ => none
    | none => none := rfl
@[simp] theorem od_name (x : Str) (p : Pos) : ownDict N env (.Name x p) = match ix N x with
    | some i => match env[i]? with
      | some (some (.odi vs)) => some (i, vs)
      | _ => none
    | none => none := rfl
@[simp] theorem os_call (f : Expr) (as : List Expr) (ks : List Keyword) (p : Pos) : ownSlot N env (.Call f as ks p) = none := rfl
@[simp] theorem od_call (f : Expr) (as : List Expr) (ks : List Keyword) (p : Pos) : ownDict N env (.Call f as ks p) = none := rfl
@[simp] theorem os_sub (f a : Expr) (p : Pos) : ownSlot N env (.Subscript f a p) = none := rfl
@[simp] theorem od_sub (f a : Expr) (p : Pos) : ownDict N env (.Subscript f a p) = none := rfl
@[simp] theorem os_list (a : List Expr) (p : Pos) : ownSlot N env (.List a p) = none := rfl
@[simp] theorem od_list (a : List Expr) (p : Pos) : ownDict N env (.List a p) = none := rfl
@[simp] theorem os_tup (a : List Expr) (k : Nat) (p : Pos) : ownSlot N env (.Tuple a k p) = none := rfl
@[simp] theorem od_tup (a : List Expr) (k : Nat) (p : Pos) : ownDict N env (.Tuple a k p) = none := rfl
@[simp] theorem os_bo (a : List Expr) (o : BoolOp) (p : Pos) : ownSlot N env (.BoolOp o a p) = none := rfl
@[simp] theorem od_bo (a : List Expr) (o : BoolOp) (p : Pos) : ownDict N env (.BoolOp o a p) = none := rfl
@[simp] theorem os_ife (a b c : Expr) (p : Pos) : ownSlot N env (.IfExp a b c p) = none := rfl
@[simp] theorem od_ife (a b c : Expr) (p : Pos) : ownDict N env (.IfExp a b c p) = none := rfl
@[simp] theorem os_bin (a b : Expr) (o : Operator) (p : Pos) : ownSlot N env (.BinOp a o b p) = none := rfl
@[simp] theorem od_bin (a b : Expr) (o : Operator) (p : Pos) : ownDict N env (.BinOp a o b p) = none := rfl
@[simp] theorem os_con (c : Const) (k : Nat) (p : Pos) : ownSlot N env (.Constant c k p) = none := rfl
@[simp] theorem od_con (c : Const) (k : Nat) (p : Pos) : ownDict N env (.Constant c k p) = none := rfl
@[simp] theorem os_cmp (a : Expr) (o : List CmpOp) (b : List Expr) (p : Pos) : ownSlot N env (.Compare a o b p) = none := rfl
@[simp] theorem od_cmp (a : Expr) (o : List CmpOp) (b : List Expr) (p : Pos) : ownDict N env (.Compare a o b p) = none := rfl
@[simp] theorem os_un (a : Expr) (o : UnaryOp) (p : Pos) : ownSlot N env (.UnaryOp o a p) = none := rfl
@[simp] theorem od_un (a : Expr) (o : UnaryOp) (p : Pos) : ownDict N env (.UnaryOp o a p) = none := rfl
@[simp] theorem os_lc (a : Expr) (g : List Comprehension) (s : Scope) (p : Pos) : ownSlot N env (.ListComp a g s p) = none := rfl
@[simp] theorem od_lc (a : Expr) (g : List Comprehension) (s : Scope) (p : Pos) : ownDict N env (.ListComp a g s p) = none := rfl
@[simp] theorem os_dc (a b : Expr) (g : List Comprehension) (s : Scope) (p : Pos) : ownSlot N env (.DictComp a b g s p) = none := rfl
@[simp] theorem od_dc (a b : Expr) (g : List Comprehension) (s : Scope) (p : Pos) : ownDict N env (.DictComp a b g s p) = none := rfl
@[simp] theorem os_dict (a : List (Option Expr)) (b : List Expr) (p : Pos) : ownSlot N env (.Dict a b p) = none := rfl
@[simp] theorem od_dict (a : List (Option Expr)) (b : List Expr) (p : Pos) : ownDict N env (.Dict a b p) = none := rfl
@[simp] theorem ret_eq (e : Expr) : retR N ev e env st = match ownSlot N env e with
  | some (_, vs) => .ok (.ret (.own vs)) st
  | none => match ownDict N env e with
    | some (_, kvs) => .ok (.ret (.odi kvs)) st
    | none => (ev e env st).bind fun v st => match v with
      | .bor d => if noL d then .ok (.ret (.dat d)) st else .err
      | v => .ok (.ret v) st := rfl
/-! values -/
@[simp] theorem vw_dat (d : PyData) : vw st (.dat d) = some d := by rw [vw]
@[simp] theorem vw_bor (d : PyData) : vw st (.bor d) = some d := by rw [vw]
@[simp] theorem vw_own (vs : List RV) : vw st (.own vs) = (deeps vs).map .list := by rw [vw]
@[simp] theorem vw_odi (vs : List (PyData × RV)) : vw st (.odi vs) = (deepKv vs).map .dict := by rw [vw]
@[simp] theorem so_dat (d : PyData) : solid st (.dat d) = some d := by rw [solid, vw] <;> intros <;> simp_all
@[simp] theorem so_own (vs : List RV) : solid st (.own vs) = (deeps vs).map .list := by rw [solid, vw] <;> intros <;> simp_all
@[simp] theorem so'_dat (fs : Bool) (d : PyData) : solid' fs st (.dat d) = some d := by rw [solid', so_dat] <;> intros <;> simp_all
@[simp] theorem so'_bor (d : PyData) : solid' false st (.bor d) = solid st (.bor d) := rfl
@[simp] theorem so'_own (fs : Bool) (vs : List RV) : solid' fs st (.own vs) = (deeps vs).map .list := by rw [solid', so_own] <;> intros <;> simp_all
@[simp] theorem ki_dat (d : PyData) : kindOf st (.dat d) = some d := rfl
@[simp] theorem ki_bor (d : PyData) : kindOf st (.bor d) = some d := rfl
@[simp] theorem ki_own (d : List RV) : kindOf st (.own d) = some (.list []) := rfl
@[simp] theorem tr_bool (b : Bool) : truthOf (.dat (.bool b)) st = .ok b st := rfl
@[simp] theorem tr_none : truthOf (.dat .none) st = .ok false st := rfl
@[simp] theorem tr_list (l : List PyData) : truthOf (.dat (.list l)) st = .ok (!l.isEmpty) st := rfl
@[simp] theorem tr_borl (l : List PyData) : truthOf (.bor (.list l)) st = .ok (!l.isEmpty) st := rfl
@[simp] theorem ty_list (d : PyData) : typeHas "list" d = some (match d with | .list _ => true | _ => false) := rfl
@[simp] theorem ty_tup (d : PyData) : typeHas "tuple" d = some (match d with | .tuple _ => true | _ => false) := rfl
@[simp] theorem ty_int (d : PyData) : typeHas "int" d = some (match d with | .int _ => true | .bool _ => true | _ => false) := rfl
@[simp] theorem ty_bool (d : PyData) : typeHas "bool" d = some (match d with | .bool _ => true | _ => false) := rfl
@[simp] theorem ty_str (d : PyData) : typeHas "str" d = some (match d with | .str _ => true | _ => false) := rfl
@[simp] theorem ty_dict (d : PyData) : typeHas "dict" d = some (match d with | .dict _ => true | _ => false) := rfl
@[simp] theorem tys_nil (d : PyData) : typesHave [] d = some false := rfl
@[simp] theorem tys_cons (T : Str) (p : Pos) (r : List Expr) (d : PyData) : typesHave (.Name T p :: r) d = match typeHas T d, typesHave r d with
    | some a, some b => some (a || b)
    | _, _ => none := rfl
@[simp] theorem kp_nil : keeps [] = some [] := rfl
@[simp] theorem kp_dat (d : PyData) (r : List RV) : keeps (.dat d :: r) = (keeps r).map (RV.dat d :: ·) := by rw [keeps, show keepV (.dat d) = some (.dat d) from rfl]; cases keeps r <;> rfl
@[simp] theorem kp_ref (i : Nat) (r : List RV) : keeps (.ref i :: r) = (keeps r).map (RV.ref i :: ·) := by rw [keeps, show keepV (.ref i) = some (.ref i) from rfl]; cases keeps r <;> rfl
@[simp] theorem kp_scr (i : List Int) (r : List RV) : keeps (.scr i :: r) = (keeps r).map (RV.scr i :: ·) := by rw [keeps, show keepV (.scr i) = some (.scr i) from rfl]; cases keeps r <;> rfl
@[simp] theorem kp_own (d : List RV) (r : List RV) : keeps (.own d :: r) = match (deeps d).map fun ds => RV.dat (.list ds), keeps r with | some w, some ws => some (w :: ws) | _, _ => none := by rw [keeps, keepV]; try rfl
@[simp] theorem kp_bor (d : PyData) (r : List RV) : keeps (.bor d :: r) = (keeps r).map (part d :: ·) := by rw [keeps, keepV]; cases keeps r <;> rfl
@[simp] theorem ds_nil : dats [] = some [] := rfl
@[simp] theorem ds_dat (d : PyData) (r : List RV) : dats (.dat d :: r) = (dats r).map (d :: ·) := rfl
@[simp] theorem ds_ref (i : Nat) (r : List RV) : dats (.ref i :: r) = none := rfl
@[simp] theorem ds_map : ∀ ds : List PyData, dats (ds.map .dat) = some ds
  | [] => rfl
  | d :: ds => by rw [List.map_cons, ds_dat, ds_map ds]; rfl
@[simp] theorem dp_map : ∀ ds : List PyData, deeps (ds.map .dat) = some ds
  | [] => by rw [List.map_nil, deeps]
  | d :: ds => by rw [List.map_cons, deeps, dp_map ds, deep]
@[simp] theorem dp_mapc {γ : Type} (g : γ → PyData) (xs : List γ) : deeps (xs.map (RV.dat ∘ g)) = some (xs.map g) := by rw [← List.map_map]; exact dp_map _
@[simp] theorem dp_mapf {γ : Type} (g : γ → PyData) (xs : List γ) : deeps (xs.map fun x => RV.dat (g x)) = some (xs.map g) := dp_mapc g xs
@[simp] theorem ds_mapc {γ : Type} (g : γ → PyData) (xs : List γ) : dats (xs.map (RV.dat ∘ g)) = some (xs.map g) := by rw [← List.map_map]; exact ds_map _
@[simp] theorem ds_mapf {γ : Type} (g : γ → PyData) (xs : List γ) : dats (xs.map fun x => RV.dat (g x)) = some (xs.map g) := ds_mapc g xs
@[simp] theorem dp_nil : deeps [] = some [] := by rw [deeps]
@[simp] theorem dp_dat (d : PyData) (r : List RV) : deeps (.dat d :: r) = (deeps r).map (d :: ·) := by rw [deeps, deep]; cases deeps r <;> rfl
@[simp] theorem el_nil : elems [] = some [] := rfl
@[simp] theorem el_dat (d : PyData) (r : List RV) : elems (.dat d :: r) = (elems r).map (RV.dat d :: ·) := by rw [elems, elem]; cases elems r <;> rfl
@[simp] theorem el_own (d : List RV) (r : List RV) : elems (.own d :: r) = (elems r).map (RV.own d :: ·) := by rw [elems, elem]; cases elems r <;> rfl
@[simp] theorem el_bor (d : PyData) (r : List RV) : elems (.bor d :: r) = match elem (.bor d), elems r with | some w, some ws => some (w :: ws) | _, _ => none := by rw [elems]; try rfl
@[simp] theorem em_dat (d : PyData) : elem (.dat d) = some (.dat d) := rfl
@[simp] theorem em_own (d : List RV) : elem (.own d) = some (.own d) := rfl
@[simp] theorem em_bor (d : PyData) : elem (.bor d) = if noL d then some (.dat d) else none := rfl
@[simp] theorem bo_dat (d : PyData) (r : List RV) : anyBor (.dat d :: r) = anyBor r := by rw [anyBor]; rfl
@[simp] theorem bo_ref (d : Nat) (r : List RV) : anyBor (.ref d :: r) = anyBor r := by rw [anyBor]; rfl
@[simp] theorem bo_scr (d : List Int) (r : List RV) : anyBor (.scr d :: r) = anyBor r := by rw [anyBor]; rfl
@[simp] theorem bo_nil : anyBor [] = false := rfl
@[simp] theorem bo_bor (d : PyData) (r : List RV) : anyBor (.bor d :: r) = true := by rw [anyBor]; rfl
@[simp] theorem call_plain (f : Str) (vs : List RV) (h : anyBor vs = false) : callR C f vs st = C f vs st := by unfold callR; rw [h]; rfl
/-! comparisons -/
@[simp] theorem cm_eq (x y : RV) : cmpR .Eq x y st = (ofO (vw st x) st).bind fun a st => (ofO (vw st y) st).bind fun b st => (ofO (eqD a b) st).bind fun c st => .ok (.dat (.bool c)) st := rfl
@[simp] theorem cm_ne (x y : RV) : cmpR .NotEq x y st = (ofO (vw st x) st).bind fun a st => (ofO (vw st y) st).bind fun b st => (ofO ((eqD a b).map (!·)) st).bind fun c st => .ok (.dat (.bool c)) st := rfl
@[simp] theorem cm_is (x : RV) : cmpR .Is x (.dat .none) st = (ofO (vw st x) st).bind fun a st => .ok (.dat (.bool (match a with | .none => true | _ => false))) st := by
  show ((ofO (vw st x) st).bind fun a st => (ofO (vw st (.dat .none)) st).bind fun b st => (ofO (cmpD .Is a b) st).bind fun c st => R.ok (RV.dat (.bool c)) st) = _
  cases vw st x with
  | none => rfl
  | some a =>
    rw [o_some, b_ok, b_ok, vw_dat]
    rfl
@[simp] theorem cm_lt (x y : RV) : cmpR .Lt x y st = (ofO (vw st x) st).bind fun a st => (ofO (vw st y) st).bind fun b st => (ofO (cmpD .Lt a b) st).bind fun c st => .ok (.dat (.bool c)) st := rfl
@[simp] theorem cm_le (x y : RV) : cmpR .LtE x y st = (ofO (vw st x) st).bind fun a st => (ofO (vw st y) st).bind fun b st => (ofO (cmpD .LtE a b) st).bind fun c st => .ok (.dat (.bool c)) st := rfl
@[simp] theorem cm_gt (x y : RV) : cmpR .Gt x y st = (ofO (vw st x) st).bind fun a st => (ofO (vw st y) st).bind fun b st => (ofO (cmpD .Gt a b) st).bind fun c st => .ok (.dat (.bool c)) st := rfl
@[simp] theorem cm_ge (x y : RV) : cmpR .GtE x y st = (ofO (vw st x) st).bind fun a st => (ofO (vw st y) st).bind fun b st => (ofO (cmpD .GtE a b) st).bind fun c st => .ok (.dat (.bool c)) st := rfl
@[simp] theorem cm_in (x y : RV) : cmpR .In x y st = (ofO (vw st x) st).bind fun a st => inR false a y st := rfl
@[simp] theorem cm_nin (x y : RV) : cmpR .NotIn x y st = (ofO (vw st x) st).bind fun a st => inR true a y st := rfl
@[simp] theorem cd_lt (i j : Int) : cmpD .Lt (.int i) (.int j) = some (decide (i < j)) := rfl
@[simp] theorem cd_le (i j : Int) : cmpD .LtE (.int i) (.int j) = some (decide (i ≤ j)) := rfl
@[simp] theorem cd_gt (i j : Int) : cmpD .Gt (.int i) (.int j) = some (decide (j < i)) := rfl
@[simp] theorem cd_ge (i j : Int) : cmpD .GtE (.int i) (.int j) = some (decide (j ≤ i)) := rfl
@[simp] theorem zp_t (x y : List PyData) : zipD (.tuple x) (.tuple y) = some (zip2 x y) := rfl
@[simp] theorem zp_l (x y : List PyData) : zipD (.list x) (.list y) = some (zip2 x y) := rfl
@[simp] theorem en_l (x : List PyData) : enumD (.list x) = some (numb 0 x) := rfl
@[simp] theorem iv_bor (d : PyData) : itemsV false st (.bor d) = (seqL d).map (·.map part) := rfl
@[simp] theorem iv_dat (fs : Bool) (d : PyData) : itemsV fs st (.dat d) = (seqL d).map (·.map .dat) := rfl
@[simp] theorem sq_l (d : List PyData) : seqL (.list d) = some d := rfl
@[simp] theorem sq_t (d : List PyData) : seqL (.tuple d) = some d := rfl
/-! built-ins of a value -/
@[simp] theorem b1_all (v : RV) : blt1V "all" v st = (ofO (solid st v) st).bind fun d st => ofO (blt1 "all" d) st := by cases v <;> rfl
@[simp] theorem b1_any (v : RV) : blt1V "any" v st = (ofO (solid st v) st).bind fun d st => ofO (blt1 "any" d) st := by cases v <;> rfl
@[simp] theorem b1_tup (v : RV) : blt1V "tuple" v st = (ofO (solid st v) st).bind fun d st => ofO (blt1 "tuple" d) st := by cases v <;> rfl
@[simp] theorem b1_int (v : RV) : blt1V "int" v st = (ofO (solid st v) st).bind fun d st => ofO (blt1 "int" d) st := by cases v <;> rfl
@[simp] theorem b1_abs (v : RV) : blt1V "abs" v st = (ofO (solid st v) st).bind fun d st => ofO (blt1 "abs" d) st := by cases v <;> rfl
@[simp] theorem b1_list (d : PyData) : blt1V "list" (.dat d) st = (ofO (blt1 "list" d) st) := by
  show (ofO (solid st (.dat d)) st).bind (fun d st => ofO (blt1 "list" d) st) = _
  rw [so_dat]; rfl
@[simp] theorem b1_scr (ns : List Int) : blt1V "list" (.scr ns) st = .ok (.own (ns.map fun i => .dat (.int i))) st := rfl
@[simp] theorem bl_all (xs : List PyData) : blt1 "all" (.list xs) = (truths xs).map fun bs => .dat (.bool (bs.all id)) := rfl
@[simp] theorem bl_any (xs : List PyData) : blt1 "any" (.list xs) = (truths xs).map fun bs => .dat (.bool (bs.any id)) := rfl
@[simp] theorem bl_tupl (xs : List PyData) : blt1 "tuple" (.list xs) = some (.dat (.tuple xs)) := rfl
@[simp] theorem bl_tupt (xs : List PyData) : blt1 "tuple" (.tuple xs) = some (.dat (.tuple xs)) := rfl
@[simp] theorem bl_listl (xs : List PyData) : blt1 "list" (.list xs) = some (.own (xs.map .dat)) := rfl
@[simp] theorem bl_listt (xs : List PyData) : blt1 "list" (.tuple xs) = some (.own (xs.map .dat)) := rfl
@[simp] theorem bl_int (i : Int) : blt1 "int" (.int i) = some (.dat (.int i)) := rfl
@[simp] theorem bl_abs (i : Int) : blt1 "abs" (.int i) = some (.dat (.int (if i < 0 then -i else i))) := rfl
@[simp] theorem tru_map : ∀ bs : List Bool, truths (bs.map PyData.bool) = some bs
  | [] => rfl
  | b :: bs => by rw [List.map_cons, truths, tru_map bs]; rfl
@[simp] theorem tru_mapc {γ : Type} (g : γ → Bool) (xs : List γ) : truths (xs.map (PyData.bool ∘ g)) = some (xs.map g) := by rw [← List.map_map]; exact tru_map _
@[simp] theorem tru_mapf {γ : Type} (g : γ → Bool) (xs : List γ) : truths (xs.map fun x => PyData.bool (g x)) = some (xs.map g) := tru_mapc g xs
/-! targets, loops -/
@[simp] theorem as_name (x : Str) (p : Pos) (v : RV) : asgT N (.Name x p) v env = asgN N x v env := rfl
@[simp] theorem as_tup (es : List Expr) (k : Nat) (p : Pos) (ds : List PyData) : asgT N (.Tuple es k p) (.dat (.tuple ds)) env = asgNs N es (ds.map .dat) env := rfl
@[simp] theorem an_nil : asgNs N [] [] env = some env := rfl
@[simp] theorem an_cons (x : Str) (p : Pos) (r : List Expr) (d : RV) (ds : List RV) : asgNs N (.Name x p :: r) (d :: ds) env = (asgN N x d env).bind (asgNs N r ds) := rfl
@[simp] theorem an_eq (x : Str) (v : RV) : asgN N x v env = (ix N x).map fun i => setE env i v := rfl
@[simp] theorem se_eq (i : Nat) (v : RV) : setE env i v = env.set i (some v) := rfl
@[simp] theorem ow_eq (sc : Scope) : ownIx N sc = sc.names.filterMap fun y => match y.2 with | .local => ix N y.1 | .cell => ix N y.1 | _ => none := rfl
@[simp] theorem wi_nil : wipeE env [] = env := rfl
@[simp] theorem wi_cons (v : Nat) (vs : List Nat) : wipeE env (v :: vs) = (wipeE env vs).set v none := rfl
@[simp] theorem te_nil : tests ev [] env st = .ok true st := rfl
@[simp] theorem te_one (c : Expr) : tests ev [c] env st = evT ev c env st := by
  show ((evT ev c env st).bind fun b st => if b then .ok true st else .ok false st) = _
  cases evT ev c env st with
  | ok b st => cases b <;> rfl
  | exc => rfl
  | err => rfl
@[simp] theorem le_eq (e : Expr) : lcE ev e env st = (ev e env st).bind fun v st => (ofO (elem v) st).bind fun w st => .ok [w] st := rfl
@[simp] theorem ne_ok (a : α) : noExc (R.ok a st) = R.ok a st := rfl
theorem lc_nil (tg : Expr) (ifs : List Expr) (elt : Ev → Sto → R (List RV)) : lcF N ev tg ifs elt env [] st = .ok [] st := rfl
theorem lc_cons (tg : Expr) (ifs : List Expr) (elt : Ev → Sto → R (List RV)) (x : RV) (r : List RV) : lcF N ev tg ifs elt env (x :: r) st = (ofO (asgT N tg x env) st).bind fun env' st => (tests ev ifs env' st).bind fun b st =>
    (if b then elt env' st else .ok [] st).bind fun ds st => (lcF N ev tg ifs elt env r st).bind fun es st => .ok (ds ++ es) st := rfl
/-- a comprehension, item by item -/
theorem lc_each {tg : Expr} {ifs : List Expr} {elt : Ev → Sto → R (List RV)} {h : RV → List RV} : ∀ {xs : List RV}, (∀ x ∈ xs, lcF N ev tg ifs elt env [x] st = .ok (h x) st) → lcF N ev tg ifs elt env xs st = .ok (xs.flatMap h) st
  | [], _ => rfl
  | x :: xs, hh => by
    have ih := lc_each (xs := xs) fun y m => hh y (List.mem_cons_of_mem _ m)
    have h1 := hh x List.mem_cons_self
    rw [lc_cons] at h1 ⊢
    cases ha : asgT N tg x env with
    | none => rw [ha] at h1; cases h1
    | some env' =>
      rw [ha, o_some, b_ok] at h1
      rw [o_some, b_ok]
      cases ht : tests ev ifs env' st with
      | err => rw [ht] at h1; cases h1
      | exc c ys st' => rw [ht] at h1; cases h1
      | ok b st1 =>
        rw [ht, b_ok] at h1
        rw [b_ok]
        cases hb : (if b = true then elt env' st1 else R.ok [] st1) with
        | err => rw [hb] at h1; cases h1
        | exc c ys st' => rw [hb] at h1; cases h1
        | ok ds st2 =>
          rw [hb, b_ok, lc_nil, b_ok, List.append_nil] at h1
          cases h1
          rw [b_ok, ih, b_ok, List.flatMap_cons]
@[simp] theorem f_nil (tg : Expr) (body : Ev → Sto → R Fl) : forF N tg body [] env st = .ok (.nxt env) st := rfl
theorem f_cons (tg : Expr) (body : Ev → Sto → R Fl) (x : RV) (r : List RV) : forF N tg body (x :: r) env st = (ofO (asgT N tg x env) st).bind fun env st => (body env st).bind fun f st => match f with
    | .nxt env => forF N tg body r env st
    | .cnt env => forF N tg body r env st
    | .brk env => .ok (.nxt env) st
    | .ret v => .ok (.ret v) st := rfl
theorem lc_dat {tg : Expr} {ifs : List Expr} {elt : Ev → Sto → R (List RV)} {g : PyData → PyData} {ys : List PyData} (h : ∀ y ∈ ys, lcF N ev tg ifs elt env [.dat y] st = .ok [.dat (g y)] st) : lcF N ev tg ifs elt env (ys.map .dat) st = .ok ((ys.map g).map .dat) st := by
  induction ys with
  | nil => rfl
  | cons y ys ih =>
    have h1 := lc_each (N := N) (ev := ev) (tg := tg) (ifs := ifs) (elt := elt) (env := env) (st := st) (h := fun z => match z with | .dat y => [.dat (g y)] | _ => []) (xs := (y :: ys).map .dat) fun x m => by
      obtain ⟨z, hz, rfl⟩ := List.mem_map.mp m
      exact h z hz
    rw [h1]
    congr 1
    clear h ih h1
    generalize y :: ys = l
    induction l with
    | nil => rfl
    | cons a l ih => rw [List.map_cons, List.flatMap_cons, ih]; rfl
theorem lc_datF {tg : Expr} {ifs : List Expr} {elt : Ev → Sto → R (List RV)} {p : PyData → Bool} {g : PyData → PyData} {ys : List PyData} (h : ∀ y ∈ ys, lcF N ev tg ifs elt env [.dat y] st = .ok (if p y then [.dat (g y)] else []) st) : lcF N ev tg ifs elt env (ys.map .dat) st = .ok (((ys.filter p).map g).map .dat) st := by
  have h1 := lc_each (N := N) (ev := ev) (tg := tg) (ifs := ifs) (elt := elt) (env := env) (st := st) (h := fun z => match z with | .dat y => if p y then [.dat (g y)] else [] | _ => []) (xs := ys.map .dat) fun x m => by
    obtain ⟨z, hz, rfl⟩ := List.mem_map.mp m
    exact h z hz
  rw [h1]
  congr 1
  clear h h1
  induction ys with
  | nil => rfl
  | cons a l ih =>
    rw [List.map_cons, List.flatMap_cons, ih, List.filter_cons]
    cases hp : p a <;> simp [hp]
theorem lc_zip {tg : Expr} {ifs : List Expr} {elt : Ev → Sto → R (List RV)} {g : PyData → PyData → PyData} {xs ys : List PyData} (h : ∀ p ∈ xs.zip ys, lcF N ev tg ifs elt env [.dat (.tuple [p.1, p.2])] st = .ok [.dat (g p.1 p.2)] st) : lcF N ev tg ifs elt env (zip2 xs ys) st = .ok (((xs.zip ys).map fun p => g p.1 p.2).map .dat) st := by
  have e : ∀ xs ys : List PyData, zip2 xs ys = ((xs.zip ys).map fun p => RV.dat (.tuple [p.1, p.2])) := by
    intro xs
    induction xs with
    | nil => intro ys; cases ys <;> rfl
    | cons a xs ih =>
      intro ys
      cases ys with
      | nil => rfl
      | cons b ys => rw [zip2, ih, List.zip_cons_cons, List.map_cons]
  rw [e]
  generalize xs.zip ys = l at h
  induction l with
  | nil => rfl
  | cons a l ih =>
    have h1 := h a List.mem_cons_self
    have h2 := ih fun p m => h p (List.mem_cons_of_mem _ m)
    rw [List.map_cons, lc_cons]
    rw [lc_cons] at h1
    cases ha : asgT N tg (.dat (.tuple [a.1, a.2])) env with
    | none => rw [ha] at h1; cases h1
    | some env' =>
      rw [ha, o_some, b_ok] at h1
      rw [o_some, b_ok]
      cases ht : tests ev ifs env' st with
      | err => rw [ht] at h1; cases h1
      | exc c ys st' => rw [ht] at h1; cases h1
      | ok b st1 =>
        rw [ht, b_ok] at h1
        rw [b_ok]
        cases hb : (if b = true then elt env' st1 else R.ok [] st1) with
        | err => rw [hb] at h1; cases h1
        | exc c ys st' => rw [hb] at h1; cases h1
        | ok ds st2 =>
          rw [hb, b_ok, lc_nil, b_ok, List.append_nil] at h1
          cases h1
          rw [b_ok, h2, b_ok]
          rfl
theorem part_map {ys : List PyData} (h : noLs ys = true) : ys.map part = ys.map .dat := by
  induction ys with
  | nil => rfl
  | cons y ys ih =>
    rw [noLs, Bool.and_eq_true] at h
    rw [List.map_cons, List.map_cons, ih h.2]
    unfold part
    rw [if_pos h.1]
/-! stores -/
@[simp] theorem a_name (o : Bool) (x : Str) (p : Pos) (e : Expr) : execAsg N ev o (.Name x p) e env st = match ownSlot N env e with
    | some (j, ds) => match ix N x with
      | some i => .ok (.nxt ((env.set j none).set i (some (.own ds)))) st
      | none => .err
    | none => (ev e env st).bind fun v st => match held o v with
      | some v => (ofO (asgN N x v env) st).bind fun env st => .ok (.nxt env) st
      | none => .err := rfl
@[simp] theorem a_tup (o : Bool) (ts es : List Expr) (k k2 : Nat) (p p2 : Pos) : execAsg N ev o (.Tuple ts k p) (.Tuple es k2 p2) env st = match asgTup N ts es env with
      | some l => (evK ev es env st).bind fun vs st => if okTs vs then .ok (.nxt (setAll (l.map (·.1)) vs env)) st else .err
      | none => .err := rfl
def tupV (N : List Str) (ts : List Expr) (env : Ev) (v : RV) (st : Sto) : R Fl := match v with
      | .dat (.tuple ds) => (ofO (asgNs N ts (ds.map .dat) env) st).bind fun env st => .ok (.nxt env) st
      | .tpl vs => if okTs vs then (ofO (asgNs N ts vs env) st).bind fun env st => .ok (.nxt env) st else .err
      | _ => .err
@[simp] theorem a_tupc (o : Bool) (ts as : List Expr) (f : Expr) (ks : List Keyword) (k : Nat) (p p2 : Pos) : execAsg N ev o (.Tuple ts k p) (.Call f as ks p2) env st = (ev (.Call f as ks p2) env st).bind fun v st => tupV N ts env v st := rfl
@[simp] theorem tv_dat (ts : List Expr) (ds : List PyData) : tupV N ts env (.dat (.tuple ds)) st = (ofO (asgNs N ts (ds.map .dat) env) st).bind fun env st => .ok (.nxt env) st := rfl
@[simp] theorem a_sub (o : Bool) (b i e : Expr) (p : Pos) : execAsg N ev o (.Subscript b i p) e env st = (evF ev e env st).bind fun v st => match v with
    | .dat d => match ownSlot N env b with
      | some (j, ds) => (evV ev i env st).bind fun k st => match k with
        | .int z => match place ds.length z with
          | some q => .ok (.nxt (env.set j (some (.own (ds.set q (.dat d)))))) st
          | none => .err
        | _ => .err
      | none => match ownDict N env b with
        | some (j, kvs) => (evV ev i env st).bind fun k st => if keyOk k kvs ∧ kvs.length < lim then .ok (.nxt (env.set j (some (.odi (putK kvs k (.dat d)))))) st else .err
        | none => (ev b env st).bind fun bv st => (evV ev i env st).bind fun k st => match bv with
        | .ref j => (ofO (cellPut st j k d) st).bind fun st' _ => .ok (.nxt env) st'
        | _ => .err
    | _ => .err := rfl
@[simp] theorem ef_eq (e : Expr) : evF ev e env st = (ev e env st).bind fun v st => ofO (frz v) st := rfl
@[simp] theorem fr_dat (d : PyData) : frz (.dat d) = some (.dat d) := rfl
@[simp] theorem fr_ref (d : Nat) : frz (.ref d) = some (.ref d) := rfl
@[simp] theorem fr_own (d : List RV) : frz (.own d) = (deeps d).map fun ds => .dat (.list ds) := rfl
@[simp] theorem fr_odi (d : List (PyData × RV)) : frz (.odi d) = (deepKv d).map fun ds => .dat (.dict ds) := rfl
@[simp] theorem he_dat (o : Bool) (d : PyData) : held o (.dat d) = some (.dat d) := rfl
@[simp] theorem he_ref (o : Bool) (d : Nat) : held o (.ref d) = some (.ref d) := rfl
@[simp] theorem he_own (o : Bool) (d : List RV) : held o (.own d) = if o then (if okVs d then some (.own d) else none) else (deeps d).map fun ds => .dat (.list ds) := rfl
@[simp] theorem he_odi (o : Bool) (d : List (PyData × RV)) : held o (.odi d) = if o then (if okKv d then some (.odi d) else none) else (deepKv d).map fun ds => .dat (.dict ds) := rfl
@[simp] theorem he_bor (o : Bool) (d : PyData) : held o (.bor d) = if noL d then some (.dat d) else none := rfl
@[simp] theorem at_nil : asgTup N [] [] env = some [] := rfl
@[simp] theorem at_cons (x : Str) (p : Pos) (r : List Expr) (e : Expr) (es : List Expr) : asgTup N (.Name x p :: r) (e :: es) env = match ix N x, asgTup N r es env with
    | some i, some l => some ((i, e) :: l)
    | _, _ => none := rfl
@[simp] theorem sa_nil : setAll [] [] env = env := rfl
@[simp] theorem sa_cons (i : Nat) (is : List Nat) (v : RV) (vs : List RV) : setAll (i :: is) (v :: vs) env = setAll is vs (setE env i v) := rfl
@[simp] theorem xe_call (f : Str) (p q : Pos) (a : Expr) : execExpr cf N ev (.Call (.Name f p) [a] [] q) env st = if cf.kill f then match ownSlot N env a with
      | some (j, vs) => if spoilOk vs then .ok (.nxt (env.set j none)) st else .err
      | none => .err
    else (ev (.Call (.Name f p) [a] [] q) env st).bind fun _ st => .ok (.nxt env) st := rfl
@[simp] theorem xe_con (c : Const) (k : Nat) (p : Pos) : execExpr cf N ev (.Constant c k p) env st = (ev (.Constant c k p) env st).bind fun _ st => .ok (.nxt env) st := rfl
@[simp] theorem xe_meth (b a : Expr) (m : Str) (p q : Pos) : execExpr cf N ev (.Call (.Attribute b m p) [a] [] q) env st = match ownSlot N env b with
    | some (j, vs) =>
      if seq' m "append" then (ev a env st).bind fun v st => match elem v with
        | some w => if okV w && decide (vs.length < lim) then .ok (.nxt (env.set j (some (.own (vs ++ [w]))))) st else .err
        | none => .err
      else if seq' m "extend" then (ev a env st).bind fun v st => match v with
        | .own ws => if okVs ws && decide (vs.length + ws.length ≤ lim) then .ok (.nxt (env.set j (some (.own (vs ++ ws))))) st else .err
        | .dat (.list xs) => if vs.length + xs.length ≤ lim then .ok (.nxt (env.set j (some (.own (vs ++ xs.map .dat))))) st else .err
        | _ => .err
      else .err
    | none => (ev (.Call (.Attribute b m p) [a] [] q) env st).bind fun _ st => .ok (.nxt env) st := rfl
@[simp] theorem sq_aa : seq' "append" "append" = true := mkf rfl
@[simp] theorem sq_ea : seq' "extend" "append" = false := mkf rfl
@[simp] theorem sq_ee : seq' "extend" "extend" = true := mkf rfl
@[simp] theorem me_a : methT "append" = some true := mkf rfl
@[simp] theorem me_p : methT "pop" = some true := mkf rfl
@[simp] theorem okt_nil : okTs [] = true := rfl
@[simp] theorem okt_dat (d : PyData) (r : List RV) : okTs (.dat d :: r) = okTs r := by rw [okTs]; rfl
@[simp] theorem okt_ref (d : Nat) (r : List RV) : okTs (.ref d :: r) = okTs r := by rw [okTs]; rfl
@[simp] theorem okt_map (ds : List PyData) : okTs (ds.map .dat) = true := okTs_dat ds
@[simp] theorem okv_map (ds : List PyData) : okVs (ds.map .dat) = true := okVs_dat ds
@[simp] theorem okv_nil : okVs [] = true := rfl
@[simp] theorem okv_dat (d : PyData) (r : List RV) : okVs (.dat d :: r) = okVs r := by rw [okVs]; rfl
@[simp] theorem okv_own (d : List RV) (r : List RV) : okVs (.own d :: r) = (okVs d && okVs r) := by rw [okVs]; rfl
@[simp] theorem okv1_dat (d : PyData) : okV (.dat d) = true := rfl
@[simp] theorem okv1_own (d : List RV) : okV (.own d) = okVs d := rfl
@[simp] theorem bin_add (i j : Int) : binD .Add (.int i) (.int j) = some (.dat (.int (i + j))) := rfl
@[simp] theorem bin_sub (i j : Int) : binD .Sub (.int i) (.int j) = some (.dat (.int (i - j))) := rfl
@[simp] theorem bin_tup (xs ys : List PyData) : binD .Add (.tuple xs) (.tuple ys) = if xs.length + ys.length ≤ lim then some (.dat (.tuple (xs ++ ys))) else none := rfl
@[simp] theorem bin_lst (xs ys : List PyData) : binD .Add (.list xs) (.list ys) = if xs.length + ys.length ≤ lim then some (.own ((xs ++ ys).map .dat)) else none := rfl
@[simp] theorem sub_dat (d k : PyData) : subR (.dat d) k st = (ofO (itemD d k) st).bind fun x st => .ok (.dat x) st := rfl
@[simp] theorem sub_ref (i : Nat) (k : PyData) : subR (.ref i) k st = ofO (cellItem st i k) st := rfl
@[simp] theorem sub_bor (d k : PyData) : subR (.bor d) k st = (ofO (itemD d k) st).bind fun x st => .ok (part x) st := rfl
@[simp] theorem it_tup (xs : List PyData) (k : Int) : itemD (.tuple xs) (.int k) = (place xs.length k).bind fun j => xs[j]? := rfl
@[simp] theorem it_lst (xs : List PyData) (k : Int) : itemD (.list xs) (.int k) = (place xs.length k).bind fun j => xs[j]? := rfl
@[simp] theorem sl_tup (xs : List PyData) (lo hi : Option Int) : sliceD (.tuple xs) lo hi = some (.dat (.tuple (cutL xs lo hi))) := rfl
@[simp] theorem oe_none : evOpt ev none env st = .ok none st := rfl
@[simp] theorem oe_some (e : Expr) : evOpt ev (some e) env st = (evV ev e env st).bind fun d st => match d with
    | .int i => .ok (some i) st
    | _ => .err := rfl
@[simp] theorem ex_own (n : Nat) (vs : List RV) : exitR n (.own vs) st = if okVs vs then .ok (.own vs) (st.take n) else .err := rfl
@[simp] theorem ex_odi (n : Nat) (vs : List (PyData × RV)) : exitR n (.odi vs) st = if okKv vs then .ok (.odi vs) (st.take n) else .err := rfl
@[simp] theorem ex_ref (n : Nat) (i : Nat) : exitR n (.ref i) st = .ok (.ref i) st := rfl
@[simp] theorem in_ref (neg : Bool) (k : PyData) (i : Nat) (kvs : List (PyData × RV)) (h : st[i]? = some (.dct kvs)) (hk : keyOk k kvs = true) : inR neg k (.ref i) st = .ok (.dat (.bool (if neg then !(getK kvs k).isSome else (getK kvs k).isSome))) st := by
  unfold inR
  simp only [h, hk, if_true]
@[simp] theorem eqd_bool (a b : Bool) : eqD (.bool a) (.bool b) = some (a == b) := by cases a <;> cases b <;> rfl
@[simp] theorem eqd_int (a b : Int) : eqD (.int a) (.int b) = some (a == b) := rfl
@[simp] theorem eqd_nn : eqD .none .none = some true := rfl
@[simp] theorem eqd_ni (a : Int) : eqD .none (.int a) = some false := rfl
@[simp] theorem eqd_in (a : Int) : eqD (.int a) .none = some false := rfl
@[simp] theorem ln_l (xs : List PyData) : lenV st (.dat (.list xs)) = some xs.length := rfl
@[simp] theorem ln_t (xs : List PyData) : lenV st (.dat (.tuple xs)) = some xs.length := rfl
@[simp] theorem ln_o (xs : List RV) : lenV st (.own xs) = some xs.length := rfl
@[simp] theorem ln_b (xs : List PyData) : lenV st (.bor (.list xs)) = some xs.length := rfl
/-- a while, by what falls -/
theorem wh_rw {γ δ : Type} {c : Ev → Sto → R Bool} {body : Ev → Sto → R Fl} {f : Fl → Sto → R δ} (env0 : γ → Ev) (S : γ → Sto) (I : γ → Prop) (μ : γ → Nat) (goal : R δ → Prop) (step : ∀ s, I s → c (env0 s) (S s) = .ok false (S s) ∨ ∃ s', I s' ∧ μ s' < μ s ∧ c (env0 s) (S s) = .ok true (S s) ∧ body (env0 s) (S s) = .ok (.nxt (env0 s')) (S s'))
    (fin : ∀ s, I s → c (env0 s) (S s) = .ok false (S s) → goal (f (.nxt (env0 s)) (S s))) : ∀ (k : Nat) (s : γ), I s → μ s < k → goal ((whileF c body k (env0 s) (S s)).bind f)
  | 0, s, _, h => by omega
  | k + 1, s, hi, hk => by
    rw [show whileF c body (k + 1) (env0 s) (S s) = (c (env0 s) (S s)).bind fun b st => if b then (body (env0 s) st).bind fun f st => match f with
      | .nxt env => whileF c body k env st
      | .cnt env => whileF c body k env st
      | .brk env => .ok (.nxt env) st
      | .ret v => .ok (.ret v) st
    else .ok (.nxt (env0 s)) st from rfl]
    rcases step s hi with h | ⟨s', h1, h2, h3, h4⟩
    · rw [h, b_ok, if_neg Bool.false_ne_true, b_ok]
      exact fin s hi h
    · rw [h3, b_ok, if_pos rfl, h4, b_ok]
      exact wh_rw env0 S I μ goal step fin k s' h1 (by omega)
end
end Z

set_option linter.all false
set_option maxRecDepth 100000
set_option maxHeartbeats 2000000
/-! Z70: more of the reader's steps; the stream's store. -/
namespace Z
open PySem
@[simp] theorem is_con (c : Const) (k : Nat) (p : Pos) : isSlice (.Constant c k p) = false := mkf rfl
@[simp] theorem is_nam (c : Str) (p : Pos) : isSlice (.Name c p) = false := mkf rfl
@[simp] theorem is_cal (f : Expr) (as : List Expr) (ks : List Keyword) (p : Pos) : isSlice (.Call f as ks p) = false := mkf rfl
@[simp] theorem is_bin (a b : Expr) (o : Operator) (p : Pos) : isSlice (.BinOp a o b p) = false := mkf rfl
@[simp] theorem is_tup (es : List Expr) (k : Nat) (p : Pos) : isSlice (.Tuple es k p) = false := mkf rfl
@[simp] theorem is_sub (a b : Expr) (p : Pos) : isSlice (.Subscript a b p) = false := mkf rfl
@[simp] theorem is_un (o : UnaryOp) (a : Expr) (p : Pos) : isSlice (.UnaryOp o a p) = false := mkf rfl
@[simp] theorem is_ife (a b c : Expr) (p : Pos) : isSlice (.IfExp a b c p) = false := mkf rfl
@[simp] theorem is_sl (a b c : Option Expr) (p : Pos) : isSlice (.Slice a b c p) = true := mkf rfl
@[simp] theorem bin_mul (i j : Int) : binD .Mult (.int i) (.int j) = if mulOk i j then some (.dat (.int (i * j))) else none := rfl
@[simp] theorem bin_mod (i j : Int) : binD .Mod (.int i) (.int j) = if 0 < j then some (.dat (.int (i % j))) else none := rfl
@[simp] theorem bin_fd (i j : Int) : binD .FloorDiv (.int i) (.int j) = if 0 < j ∧ j.natAbs.log2 < 9000 then some (.dat (.int (i / j))) else none := rfl
@[simp] theorem bin_pow (i j : Int) : binD .Pow (.int i) (.int j) = if 0 ≤ j ∧ j ≤ 1000000 ∧ i.natAbs < 2 ^ 64 then some (.dat (.int (i ^ j.toNat))) else none := rfl
theorem log_small {n k : Nat} (h : n < 2 ^ k) : n.log2 ≤ k := by
  by_cases h0 : n = 0
  · subst h0; exact Nat.zero_le _
  · exact Nat.le_of_lt (Nat.log2_lt h0 |>.mpr h)
theorem mul_small {i j : Int} (h1 : i.natAbs < 2 ^ 200) (h2 : j.natAbs < 2 ^ 200) : mulOk i j = true := by
  have a := log_small h1
  have b := log_small h2
  unfold mulOk
  apply decide_eq_true
  omega
theorem dp_list (xs : List PyData) : PyData.depth (.list xs) = PyData.depthAll xs + 1 := by unfold PyData.depth; rfl
theorem dp_tup (xs : List PyData) : PyData.depth (.tuple xs) = PyData.depthAll xs + 1 := by unfold PyData.depth; rfl
theorem dpa_nil : PyData.depthAll [] = 0 := by unfold PyData.depthAll; rfl
theorem dpa_cons (x : PyData) (xs : List PyData) : PyData.depthAll (x :: xs) = max x.depth (PyData.depthAll xs) := by
  conv => lhs; unfold PyData.depthAll
theorem dp_int (i : Int) : PyData.depth (.int i) = 0 := by unfold PyData.depth; rfl
theorem sh_ints (xs : List Int) : SeqAt.shaped (.list (xs.map PyData.int)) = true := by
  have h : PyData.canLayAll0 (xs.map PyData.int) = true ∧ PyData.depthAll (xs.map PyData.int) = 0 := by
    induction xs with
    | nil => exact ⟨rfl, dpa_nil⟩
    | cons a xs ih =>
      refine ⟨?_, ?_⟩
      · rw [List.map_cons, show PyData.canLayAll0 (.int a :: xs.map PyData.int) = ((PyData.int a).canLay0 && PyData.canLayAll0 (xs.map PyData.int)) from rfl, ih.1]; rfl
      · rw [List.map_cons, dpa_cons, ih.2, dp_int]; rfl
  show (PyData.canLayAll0 (xs.map PyData.int) && decide (PyData.depth (.list (xs.map PyData.int)) ≤ 64)) = true
  rw [h.1, dp_list, h.2]
  rfl
@[simp] theorem eqd_ints (xs : List Int) : eqD (.list (xs.map PyData.int)) (.list []) = some xs.isEmpty := by
  have e : eqok (.list (xs.map PyData.int)) (.list []) = true := by
    show (SeqAt.shaped (.list (xs.map PyData.int)) && SeqAt.shaped (.list ([].map PyData.int))) = true
    rw [sh_ints, sh_ints]; rfl
  unfold eqD
  rw [if_pos e]
  cases xs <;> rfl
/-- the store that begins with the stream -/
def sst (ns : List Int) (a b c : Int) (rest : Sto) : Sto := .lst (ns.map fun i => .dat (.int i)) :: .lst [.ref 0, .dat (.int a), .dat (.int b), .dat (.int c)] :: rest
section
variable (ns : List Int) (a b c v : Int) (rest : Sto)
@[simp] theorem ci_0 : cellItem (sst ns a b c rest) 1 (.int 0) = some (.ref 0) := rfl
@[simp] theorem ci_1 : cellItem (sst ns a b c rest) 1 (.int 1) = some (.dat (.int a)) := rfl
@[simp] theorem ci_2 : cellItem (sst ns a b c rest) 1 (.int 2) = some (.dat (.int b)) := rfl
@[simp] theorem ci_3 : cellItem (sst ns a b c rest) 1 (.int 3) = some (.dat (.int c)) := rfl
@[simp] theorem cp_1 : cellPut (sst ns a b c rest) 1 (.int 1) (.int v) = some (sst ns v b c rest) := rfl
@[simp] theorem cp_2 : cellPut (sst ns a b c rest) 1 (.int 2) (.int v) = some (sst ns a v c rest) := rfl
@[simp] theorem cp_3 : cellPut (sst ns a b c rest) 1 (.int 3) (.int v) = some (sst ns a b v rest) := rfl
@[simp] theorem vw_0 : vw (sst ns a b c rest) (.ref 0) = some (.list (ns.map PyData.int)) := by
  rw [vw]
  show (dats (ns.map fun i => RV.dat (PyData.int i))).map PyData.list = _
  rw [ds_mapf]; rfl
@[simp] theorem mo_0 : methOk true (.ref 0) (sst ns a b c rest) = true := rfl
@[simp] theorem mr_0 : methR "pop" (.ref 0) [.dat (.int 0)] (sst (v :: ns) a b c rest) = .ok (.dat (.int v)) (sst ns a b c rest) := by
  show cellMeth "pop" 0 [.dat (.int 0)] (sst (v :: ns) a b c rest) = _
  have hp : place ((v :: ns).map fun i => RV.dat (.int i)).length 0 = some 0 := by
    rw [List.length_map, List.length_cons]
    unfold place
    rw [if_pos (Int.le_refl 0), if_pos (by show 0 < ns.length + 1; omega)]
    rfl
  unfold cellMeth
  show (if seq' "pop" "append" then _ else if seq' "pop" "pop" then _ else _ : R RV) = _
  rw [if_neg (by rw [show seq' "pop" "append" = false from rfl]; exact Bool.false_ne_true), if_pos (show seq' "pop" "pop" = true from rfl)]
  show (match place ((v :: ns).map fun i => RV.dat (.int i)).length 0 with
        | some j => match ((v :: ns).map fun i => RV.dat (.int i))[j]? with
          | some w => R.ok w (setAt (sst (v :: ns) a b c rest) 0 (.lst (((v :: ns).map fun i => RV.dat (.int i)).eraseIdx j)))
          | none => .err
        | none => .err) = _
  rw [hp]
  rfl
@[simp] theorem sst_len : (sst ns a b c rest).length = rest.length + 2 := rfl
@[simp] theorem sst_app (x : Sto) : sst ns a b c rest ++ x = sst ns a b c (rest ++ x) := rfl
@[simp] theorem sst_take (n : Nat) : (sst ns a b c rest).take (n + 2) = sst ns a b c (rest.take n) := rfl
end
end Z

set_option linter.all false
set_option maxRecDepth 100000
set_option maxHeartbeats 2000000
/-! Z71: loops, ranges. -/
namespace Z
open PySem
theorem fo_G {δ γ β : Type} {all : List δ} {N : List Str} {tg : Expr} {body : Ev → Sto → R Fl} {F : Fl → Sto → R β} (h : δ → RV) (E : γ → Ev) (S : γ → Sto) (J : List δ → γ → Prop) (G : R β → Prop) : ∀ (ys done : List δ) (s0 : γ), J done s0 → (∀ done x rest s, J done s → done ++ x :: rest = all → ∀ G : R Fl → Prop, (∀ s', J (done ++ [x]) s' → G (.ok (.nxt (E s')) (S s'))) → G ((ofO (asgT N tg (h x) (E s)) (S s)).bind fun env st => body env st)) → done ++ ys = all → (∀ s, J all s → G (F (.nxt (E s)) (S s))) → G ((forF N tg body (ys.map h) (E s0) (S s0)).bind F)
  | [], done, s0, h0, step, ha, k => by
    rw [List.map_nil, f_nil, b_ok]
    rw [List.append_nil] at ha
    exact k s0 (ha ▸ h0)
  | y :: ys, done, s0, h0, step, ha, k => by
    obtain ⟨s', j', e⟩ := step done y ys s0 h0 ha (fun r => ∃ s', J (done ++ [y]) s' ∧ r = .ok (.nxt (E s')) (S s')) fun s' j => ⟨s', j, rfl⟩
    have e2 : forF N tg body ((y :: ys).map h) (E s0) (S s0) = forF N tg body (ys.map h) (E s') (S s') := by
      rw [List.map_cons, f_cons]
      rw [← R.bind_assoc, e, b_ok]
    rw [e2]
    exact fo_G h E S J G ys (done ++ [y]) s' j' step (by rw [List.append_assoc]; exact ha) k
/-- a for, by what it has done -/
theorem fo_rw {δ γ β : Type} {N : List Str} {tg : Expr} {body : Ev → Sto → R Fl} {F : Fl → Sto → R β} {G : R β → Prop} (h : δ → RV) (E : γ → Ev) (S : γ → Sto) (J : List δ → γ → Prop) (ys : List δ) (s0 : γ) (h0 : J [] s0) (step : ∀ done x rest s, J done s → done ++ x :: rest = ys → ∀ G : R Fl → Prop, (∀ s', J (done ++ [x]) s' → G (.ok (.nxt (E s')) (S s'))) → G ((ofO (asgT N tg (h x) (E s)) (S s)).bind fun env st => body env st)) (k : ∀ s, J ys s → G (F (.nxt (E s)) (S s))) {xs : List RV} (hx : xs = ys.map h) : G ((forF N tg body xs (E s0) (S s0)).bind F) :=
  hx ▸ fo_G (all := ys) h E S J G ys [] s0 h0 step rfl k
theorem range_split {n x : Nat} {done rest : List Nat} (h : done ++ x :: rest = List.range n) : x = done.length ∧ x < n := by
  have h1 := congrArg (fun l => l[done.length]?) h
  have h2 := congrArg List.length h
  simp at h1 h2
  rw [List.getElem?_range (by omega)] at h1
  cases h1
  exact ⟨rfl, by omega⟩
theorem lc_m {δ : Type} {N : List Str} {ev : Expr → Ev → Sto → R RV} {env : Ev} {st : Sto} {tg : Expr} {ifs : List Expr} {elt : Ev → Sto → R (List RV)} (h : δ → RV) (g : δ → List RV) : ∀ {ys : List δ}, (∀ y ∈ ys, lcF N ev tg ifs elt env [h y] st = .ok (g y) st) → lcF N ev tg ifs elt env (ys.map h) st = .ok (ys.flatMap g) st
  | [], _ => rfl
  | x :: xs, hh => by
    have ih := lc_m (ys := xs) h g fun y m => hh y (List.mem_cons_of_mem _ m)
    have h1 := hh x List.mem_cons_self
    rw [List.map_cons, lc_cons]
    rw [lc_cons] at h1
    cases ha : asgT N tg (h x) env with
    | none => rw [ha] at h1; cases h1
    | some env' =>
      rw [ha, o_some, b_ok] at h1
      rw [o_some, b_ok]
      cases ht : tests ev ifs env' st with
      | err => rw [ht] at h1; cases h1
      | exc c ys st' => rw [ht] at h1; cases h1
      | ok b st1 =>
        rw [ht, b_ok] at h1
        rw [b_ok]
        cases hb : (if b = true then elt env' st1 else R.ok [] st1) with
        | err => rw [hb] at h1; cases h1
        | exc c ys st' => rw [hb] at h1; cases h1
        | ok ds st2 =>
          rw [hb, b_ok, lc_nil, b_ok, List.append_nil] at h1
          cases h1
          rw [b_ok, ih, b_ok, List.flatMap_cons]
@[simp] theorem okt_mapf {δ : Type} (g : δ → PyData) (ys : List δ) : okTs (ys.map fun y => RV.dat (g y)) = true := by
  induction ys with
  | nil => rfl
  | cons y ys ih => rw [List.map_cons, okt_dat, ih]
@[simp] theorem okt_mapc {δ : Type} (g : δ → PyData) (ys : List δ) : okTs (ys.map (RV.dat ∘ g)) = true := okt_mapf g ys
@[simp] theorem fz_cons (env : Ev) (i : Nat) (r : List Nat) : fzAll env (i :: r) = match env[i]? with
    | some (some (.own vs)) => match deeps vs with
      | some ds => fzAll (env.set i (some (.dat (.list ds)))) r
      | none => fzAll env r
    | some (some (.odi kvs)) => match deepKv kvs with
      | some ds => fzAll (env.set i (some (.dat (.dict ds)))) r
      | none => fzAll env r
    | _ => fzAll env r := rfl
@[simp] theorem dp_app (t : List PyData) (r : List RV) : deeps (t.map .dat ++ r) = (deeps r).map (t ++ ·) := by
  induction t with
  | nil => rw [List.map_nil, List.nil_append]; cases deeps r <;> rfl
  | cons a t ih => rw [List.map_cons, List.cons_append, dp_dat, ih]; cases deeps r <;> rfl
@[simp] theorem tru_nil : truths [] = some [] := rfl
@[simp] theorem tru_cons (b : Bool) (r : List PyData) : truths (.bool b :: r) = (truths r).map (b :: ·) := by rw [truths]; cases truths r <;> rfl
section
variable {ev : Expr → Ev → Sto → R RV} {env : Ev} {st : Sto}
@[simp] theorem ep_nil : evPairs ev [] [] env st = .ok [] st := rfl
@[simp] theorem ep_cons (k v : Expr) (ks : List (Option Expr)) (vs : List Expr) : evPairs ev (some k :: ks) (v :: vs) env st = (evV ev k env st).bind fun kd st => if leafK kd then ((ev v env st).bind laid).bind fun w st => (evPairs ev ks vs env st).bind fun r st => .ok ((kd, w) :: r) st else .err := rfl
@[simp] theorem epo_nil : evPairsO ev [] [] env st = .ok [] st := rfl
@[simp] theorem epo_cons (k v : Expr) (ks : List (Option Expr)) (vs : List Expr) : evPairsO ev (some k :: ks) (v :: vs) env st = (evV ev k env st).bind fun kd st => if leafK kd then ((ev v env st).bind fun v st => ofO (elem v) st).bind fun w st => (evPairsO ev ks vs env st).bind fun r st => .ok ((kd, w) :: r) st else .err := rfl
@[simp] theorem pa_nil (kvs : List (PyData × RV)) : putAll kvs [] = some kvs := rfl
@[simp] theorem pa_cons (kvs : List (PyData × RV)) (k : PyData) (v : RV) (r : List (PyData × RV)) : putAll kvs ((k, v) :: r) = if keyOk k kvs && !(kvs.any fun p => sameKey p.1 k) then putAll (kvs ++ [(k, v)]) r else none := rfl
@[simp] theorem ld_ref (i : Nat) : laid (.ref i) st = .ok (.ref i) st := rfl
@[simp] theorem ld_dat (i : PyData) : laid (.dat i) st = .ok (.dat i) st := rfl
@[simp] theorem ld_own (vs : List RV) : laid (.own vs) st = (ofO (deeps vs) st).bind fun ds st => .ok (.ref st.length) (st ++ [.lst (ds.map .dat)]) := rfl
@[simp] theorem s_eq (e : Expr) : evS ev e env st = (ev e env st).bind fun v st => ofO (solid st v) st := rfl
@[simp] theorem iv_own (fs : Bool) (vs : List RV) : itemsV fs st (.own vs) = (deeps vs).map (·.map .dat) := rfl
@[simp] theorem so_borl (xs : List PyData) : solid st (.bor (.list xs)) = if noLs xs then some (.list xs) else none := rfl
@[simp] theorem dp_ownc (vs r : List RV) : deeps (.own vs :: r) = match (deeps vs).map PyData.list, deeps r with
    | some d, some ds => some (d :: ds)
    | _, _ => none := by rw [deeps, deep]; try rfl
@[simp] theorem part_l (xs : List PyData) : part (.list xs) = .bor (.list xs) := rfl
@[simp] theorem i_bin (fs : Bool) (a b : Expr) (o : Operator) (p : Pos) : evI ev fs (.BinOp a o b p) env st = (ev (.BinOp a o b p) env st).bind fun v st => ofO (itemsV fs st v) st := rfl
@[simp] theorem ec_nil : evCells ev [] env st = .ok [] st := rfl
@[simp] theorem ec_cons (e : Expr) (r : List Expr) : evCells ev (e :: r) env st = ((ev e env st).bind laid).bind fun v st => (evCells ev r env st).bind fun vs st => .ok (v :: vs) st := rfl
@[simp] theorem lk_int (i : Int) : leafK (.int i) = true := rfl
@[simp] theorem lk_str (i : Str) : leafK (.str i) = true := rfl
end
section
variable {cf : Cfg} {C : Str → List RV → Sto → R RV} {N : List Str} {n : Nat} {env : Ev} {st : Sto}
@[simp] theorem e_callKm (f : Str) (p q : Pos) (k : Keyword) (ks : List Keyword) (ps : List Str) (h1 : ix N f = none) (h2 : cf.ps f = some ps) : evalE cf C N (n + 1) (.Call (.Name f p) [] (k :: ks) q) env st = match kwNames (k :: ks) with
    | some ns => (evK (evalE cf C N n) (kwExprs (k :: ks)) env st).bind fun vs st => if vs.length = ps.length then (ofO (reorder (ns.zip vs) ps) st).bind fun vs st => callR C f vs st else .err
    | none => .err := by
  rw [ev_call]
  simp only [h1, h2]
  cases kwNames (k :: ks) <;> rfl
@[simp] theorem kn_nil : kwNames [] = some [] := rfl
@[simp] theorem kn_cons (x : Str) (v : Expr) (p : Pos) (r : List Keyword) : kwNames (⟨some x, v, p⟩ :: r) = (kwNames r).map (x :: ·) := rfl
@[simp] theorem kx_nil : kwExprs [] = [] := rfl
@[simp] theorem kx_cons (x : Option Str) (v : Expr) (p : Pos) (r : List Keyword) : kwExprs (⟨x, v, p⟩ :: r) = v :: kwExprs r := rfl
@[simp] theorem rd_nil (kws : List (Str × RV)) : reorder kws [] = some [] := rfl
@[simp] theorem rd_cons (kws : List (Str × RV)) (p : Str) (r : List Str) : reorder kws (p :: r) = match kwGet kws p, reorder kws r with
    | some v, some vs => some (v :: vs)
    | _, _ => none := rfl
@[simp] theorem kg_cons (n : Str) (v : RV) (r : List (Str × RV)) (x : Str) : kwGet ((n, v) :: r) x = if seq' n x then some v else kwGet r x := rfl
end
/-- three slots that a loop leaves behind, a list -/
structure L3 (α : Type) where
  v : α
  a : Option RV
  b : Option RV
  c : Option RV
theorem flat_one {δ ε : Type} (g : δ → ε) (ys : List δ) : (ys.flatMap fun y => [g y]) = ys.map g := by
  induction ys with
  | nil => rfl
  | cons y ys ih => rw [List.flatMap_cons, ih]; rfl
theorem flat_if {δ ε : Type} (p : δ → Bool) (g : δ → ε) (ys : List δ) : (ys.flatMap fun y => if p y then [g y] else []) = (ys.filter p).map g := by
  induction ys with
  | nil => rfl
  | cons y ys ih =>
    rw [List.flatMap_cons, ih, List.filter_cons]
    cases p y <;> rfl
/-- each item gives one -/
theorem lc_m1 {δ : Type} {N : List Str} {ev : Expr → Ev → Sto → R RV} {env : Ev} {st : Sto} {tg : Expr} {ifs : List Expr} {elt : Ev → Sto → R (List RV)} (h : δ → RV) (g : δ → RV) {ys : List δ} (hh : ∀ y ∈ ys, lcF N ev tg ifs elt env [h y] st = .ok [g y] st) : lcF N ev tg ifs elt env (ys.map h) st = .ok (ys.map g) st := by
  rw [lc_m h (fun y => [g y]) hh, flat_one]
/-- some items give one -/
theorem lc_mF {δ : Type} {N : List Str} {ev : Expr → Ev → Sto → R RV} {env : Ev} {st : Sto} {tg : Expr} {ifs : List Expr} {elt : Ev → Sto → R (List RV)} (h : δ → RV) (p : δ → Bool) (g : δ → RV) {ys : List δ} (hh : ∀ y ∈ ys, lcF N ev tg ifs elt env [h y] st = .ok (if p y then [g y] else []) st) : lcF N ev tg ifs elt env (ys.map h) st = .ok ((ys.filter p).map g) st := by
  rw [lc_m h (fun y => if p y then [g y] else []) hh, flat_if]
theorem lc_x1 {δ : Type} {N : List Str} {ev : Expr → Ev → Sto → R RV} {env : Ev} {st : Sto} {tg : Expr} {ifs : List Expr} {elt : Ev → Sto → R (List RV)} {xs : List RV} (ys : List δ) (h : δ → RV) (g : δ → RV) (hx : xs = ys.map h) (hh : ∀ y ∈ ys, lcF N ev tg ifs elt env [h y] st = .ok [g y] st) : lcF N ev tg ifs elt env xs st = .ok (ys.map g) st := hx ▸ lc_m1 h g hh
theorem lc_xF {δ : Type} {N : List Str} {ev : Expr → Ev → Sto → R RV} {env : Ev} {st : Sto} {tg : Expr} {ifs : List Expr} {elt : Ev → Sto → R (List RV)} {xs : List RV} (ys : List δ) (h : δ → RV) (p : δ → Bool) (g : δ → RV) (hx : xs = ys.map h) (hh : ∀ y ∈ ys, lcF N ev tg ifs elt env [h y] st = .ok (if p y then [g y] else []) st) : lcF N ev tg ifs elt env xs st = .ok ((ys.filter p).map g) st := hx ▸ lc_mF h p g hh
theorem dp_owns {δ : Type} (g : δ → List PyData) (ys : List δ) : deeps (ys.map fun y => RV.own ((g y).map .dat)) = some (ys.map fun y => .list (g y)) := by
  induction ys with
  | nil => rw [List.map_nil, deeps]; rfl
  | cons y ys ih => rw [List.map_cons, deeps, ih, deep, dp_map]; rfl
theorem zi_snd {ε : Type} (f : Nat → ε) (xs : List PyData) : (xs.zipIdx.map fun p => f p.2) = (List.range xs.length).map f := by
  rw [show (fun p : PyData × Nat => f p.2) = f ∘ Prod.snd from rfl, ← List.map_map, List.zipIdx_map_snd, List.range_eq_range']
theorem zi_mem {xs : List PyData} {p : PyData × Nat} (h : p ∈ xs.zipIdx) : p.2 < xs.length ∧ p.1 = xs.getD p.2 .none := by
  obtain ⟨x, i⟩ := p
  have := List.mem_zipIdx h
  simp at this ⊢
  refine ⟨this.1, ?_⟩
  rw [List.getElem?_eq_getElem this.1]
  exact this.2
theorem zi_split {xs : List PyData} {p : PyData × Nat} {done rest : List (PyData × Nat)} (h : done ++ p :: rest = xs.zipIdx) : p.2 = done.length ∧ p.2 < xs.length ∧ p.1 = xs.getD p.2 .none := by
  have m : p ∈ xs.zipIdx := by rw [← h]; exact List.mem_append_right _ List.mem_cons_self
  obtain ⟨m1, m2⟩ := zi_mem m
  refine ⟨?_, m1, m2⟩
  have e := congrArg (fun l => l.map Prod.snd) h
  rw [List.zipIdx_map_snd, ← List.range_eq_range', List.map_append, List.map_cons] at e
  have := (range_split e).1
  rw [this, List.length_map]
theorem getD_mem {xs : List PyData} {k : Nat} (h : k < xs.length) : xs.getD k .none ∈ xs := by
  rw [List.getD_eq_getElem?_getD, List.getElem?_eq_getElem h]
  exact List.getElem_mem h
theorem numb_eq (xs : List PyData) : ∀ i : Nat, numb i xs = (xs.zipIdx i).map fun p => RV.dat (.tuple [.int (p.2 : Nat), p.1]) := by
  induction xs with
  | nil => intro i; rfl
  | cons x xs ih =>
    intro i
    rw [numb, List.zipIdx_cons, List.map_cons, ← ih (i + 1)]
    rfl
theorem rangeL_nat {n : Nat} (h : n ≤ 1000000) : rangeL 0 n 1 = some ((List.range n).map fun i => RV.dat (.int (i : Nat))) := by
  have e : (((n : Int) - 0 + 1 - 1) / 1).toNat = n := by
    rw [Int.ediv_one]; omega
  have e2 : rangeL 0 n 1 = if (0 : Int).natAbs < 2 ^ 62 ∧ (n : Int).natAbs < 2 ^ 62 ∧ (1 : Int).natAbs < 2 ^ 30 ∧ (((n : Int) - 0 + 1 - 1) / 1).toNat ≤ lim then some ((List.range (((n : Int) - 0 + 1 - 1) / 1).toNat).map fun (i : Nat) => RV.dat (.int (0 + 1 * i))) else none := rfl
  rw [e2, e, if_pos ⟨by decide, by omega, by decide, by unfold lim; omega⟩]
  congr 1
  apply List.map_congr_left
  intro i _
  congr 2
  omega
theorem range1_nat {n : Nat} (h : n ≤ 1000000) : range1 (.int n) = some ((List.range n).map fun i => RV.dat (.int (i : Nat))) := rangeL_nat h
theorem getD_of {xs : List PyData} {k : Nat} (h : k < xs.length) : xs[k]? = some (xs.getD k .none) := by
  rw [List.getD_eq_getElem?_getD, List.getElem?_eq_getElem h]; rfl
theorem place_nat {n k : Nat} (h : k < n) : place n (k : Int) = some k := by
  unfold place
  rw [if_pos (by omega), if_pos (by omega)]
  rfl
end Z

set_option Elab.async false
set_option linter.all false
set_option maxRecDepth 100000
set_option maxHeartbeats 4000000

namespace T
open PySem Z L2
def top (i : Nat) : Stmt := PySem.Challenge.pw_sameinall_k24_whole_above_beneath_tops.main.body.getD i (.Pass ⟨0, 0, 0, 0⟩)
def tb0 : List Ent := [⟨"is_list", top 1, ["thing"], ["thing"]⟩,
  ⟨"is_whole", top 2, ["thing"], ["thing"]⟩,
  ⟨"is_number", top 3, ["thing"], ["thing"]⟩,
  ⟨"is_row", top 4, ["thing", "many"], ["thing", "many"]⟩,
  ⟨"as_tuples", top 5, ["thing"], ["thing", "part"]⟩,
  ⟨"is_type", top 12, ["thing"], ["thing", "part"]⟩,
  ⟨"kept_type", top 13, ["thing"], ["thing"]⟩,
  ⟨"need_type", top 14, ["thing"], ["thing", "kept"]⟩,
  ⟨"is_many", top 16, ["thing"], ["thing"]⟩,
  ⟨"check_many", top 17, ["many"], ["many"]⟩,
  ⟨"lies_below", top 19, ["one", "other"], ["one", "other", "mine", "theirs"]⟩,
  ⟨"all_elements", top 20, ["many", "kind", "known"], ["many", "kind", "known"]⟩,
  ⟨"tables_between", top 21, ["lower", "upper"], ["lower", "upper", "under", "found", "index", "longer", "some", "one", "place"]⟩,
  ⟨"places_of", top 22, ["many", "kind", "known"], ["many", "kind", "known", "place", "one"]⟩,
  ⟨"kept_element", top 23, ["many", "kind", "thing", "known"], ["many", "kind", "thing", "known", "parts", "found", "part"]⟩,
  ⟨"need_element", top 24, ["many", "kind", "thing", "known"], ["many", "kind", "thing", "known", "found"]⟩]
def tb16 : List Ent := [⟨"above", top 26, ["many", "kind", "element"], ["many", "kind", "element", "kept", "known", "one"]⟩,
  ⟨"beneath", top 27, ["many", "kind", "element"], ["many", "kind", "element", "kept", "known", "one"]⟩,
  ⟨"tops", top 28, ["many", "kind"], ["many", "kind", "every", "found", "one", "other"]⟩,
  ⟨"_law_stream", top 30, ["script"], ["script"]⟩,
  ⟨"_law_draw", top 31, ["stream", "many"], ["stream", "many", "cell", "digit", "mixed"]⟩,
  ⟨"_law_pick", top 32, ["stream", "things"], ["stream", "things"]⟩,
  ⟨"_law_same", top 33, ["found", "due"], ["found", "due", "mine", "theirs"]⟩,
  ⟨"_law_spoilt", top 34, ["thing"], ["thing", "part"]⟩,
  ⟨"_law_copied", top 35, ["thing"], ["thing", "some", "key", "one"]⟩,
  ⟨"_law_loose", top 36, ["stream", "thing"], ["stream", "thing", "some", "part"]⟩,
  ⟨"_law_below", top 37, ["one", "other"], ["one", "other", "mine", "theirs"]⟩,
  ⟨"_law_all", top 38, ["book", "many", "kind"], ["book", "many", "kind", "found", "ins", "outs", "at", "one", "under", "over", "further", "table", "out", "k"]⟩,
  ⟨"_law_w_kind", top 39, ["stream", "many"], ["stream", "many", "base", "one", "kinds"]⟩,
  ⟨"_law_element_right", top 40, ["stream", "book", "many", "kind"], ["stream", "book", "many", "kind", "every", "one", "upper", "lower", "handed", "was", "found", "ends", "some", "other"]⟩,
  ⟨"law", top 41, ["script"], ["script", "stream", "books", "turn", "many", "kind", "found", "due"]⟩]
def tb : List Ent := tb0 ++ tb16
def mk : Marks := ⟨[(88, 36), (93, 36), (98, 48), (106, 11), (175, 12), (175, 16), (201, 42), (201, 46), (201, 53), (201, 60)],
  [(57, 4), (59, 8), (64, 8), (99, 4), (157, 8), (165, 12), (170, 12), (186, 4), (191, 4), (195, 4)],
  [((171, 8), [3])]⟩
def kl : Option Str := some "_law_spoilt"
abbrev cf : Cfg := cfgOf tb mk kl
abbrev defs : Str → Option Fn := defsOf tb
theorem ck : tb.all (entB cf) = true := by decide +kernel
theorem ckl : klE tb kl = true := by decide +kernel
end T

namespace T
open PySem Z L2
@[simp] theorem fx1 : ix ["thing"] "isinstance" = none := mkf rfl
@[simp] theorem fx2 : ix ["thing"] "thing" = some 0 := mkf rfl
@[simp] theorem fx3 : ix ["thing"] "list" = none := mkf rfl
@[simp] theorem fx4 : ix ["thing"] "tuple" = none := mkf rfl
@[simp] theorem fx5 : ix ["thing"] "int" = none := mkf rfl
@[simp] theorem fx6 : ix ["thing"] "bool" = none := mkf rfl
@[simp] theorem fx7 : ix ["thing"] "is_whole" = none := mkf rfl
@[simp] theorem fx8 : ix ["thing", "many"] "is_list" = none := mkf rfl
@[simp] theorem fx9 : ix ["thing", "many"] "thing" = some 0 := mkf rfl
@[simp] theorem fx10 : ix ["thing", "many"] "many" = some 1 := mkf rfl
@[simp] theorem fx11 : ix ["thing", "many"] "len" = none := mkf rfl
@[simp] theorem fx12 : ix ["thing", "part"] "thing" = some 0 := mkf rfl
@[simp] theorem fx13 : ix ["thing", "part"] "is_list" = none := mkf rfl
@[simp] theorem fx14 : ix ["thing", "part"] "tuple" = none := mkf rfl
@[simp] theorem fx15 : ix ["thing", "part"] "as_tuples" = none := mkf rfl
@[simp] theorem fx16 : ix ["thing", "part"] "part" = some 1 := mkf rfl
@[simp] theorem fx17 : ix ["thing", "part"] "all" = none := mkf rfl
@[simp] theorem fx18 : ix ["thing", "part"] "is_type" = none := mkf rfl
@[simp] theorem fx19 : ix ["thing"] "is_type" = none := mkf rfl
@[simp] theorem fx20 : ix ["thing"] "as_tuples" = none := mkf rfl
@[simp] theorem fx21 : ix ["thing", "kept"] "kept" = some 1 := mkf rfl
@[simp] theorem fx22 : ix ["thing", "kept"] "kept_type" = none := mkf rfl
@[simp] theorem fx23 : ix ["thing", "kept"] "thing" = some 0 := mkf rfl
@[simp] theorem fx24 : ix ["thing", "kept"] "BadType" = none := mkf rfl
@[simp] theorem fx25 : ix ["many"] "is_many" = none := mkf rfl
@[simp] theorem fx26 : ix ["many"] "many" = some 0 := mkf rfl
@[simp] theorem fx27 : ix ["many"] "BadMany" = none := mkf rfl
@[simp] theorem fx28 : ix ["one", "other", "mine", "theirs"] "isinstance" = none := mkf rfl
@[simp] theorem fx29 : ix ["one", "other", "mine", "theirs"] "one" = some 0 := mkf rfl
@[simp] theorem fx30 : ix ["one", "other", "mine", "theirs"] "tuple" = none := mkf rfl
@[simp] theorem fx31 : ix ["one", "other", "mine", "theirs"] "all" = none := mkf rfl
@[simp] theorem fx32 : ix ["one", "other", "mine", "theirs"] "other" = some 1 := mkf rfl
@[simp] theorem fx33 : ix ["one", "other", "mine", "theirs"] "lies_below" = none := mkf rfl
@[simp] theorem fx34 : ix ["one", "other", "mine", "theirs"] "mine" = some 2 := mkf rfl
@[simp] theorem fx35 : ix ["one", "other", "mine", "theirs"] "theirs" = some 3 := mkf rfl
@[simp] theorem fx36 : ix ["one", "other", "mine", "theirs"] "zip" = none := mkf rfl
@[simp] theorem fx37 : ix ["many", "kind", "known"] "kind" = some 1 := mkf rfl
@[simp] theorem fx38 : ix ["many", "kind", "known"] "known" = some 2 := mkf rfl
@[simp] theorem fx39 : ix ["many", "kind", "known"] "tables_between" = none := mkf rfl
@[simp] theorem fx40 : ix ["many", "kind", "known"] "list" = none := mkf rfl
@[simp] theorem fx41 : ix ["many", "kind", "known"] "all_elements" = none := mkf rfl
@[simp] theorem fx42 : ix ["many", "kind", "known"] "many" = some 0 := mkf rfl
@[simp] theorem fx43 : ix ["many", "kind", "known"] "range" = none := mkf rfl
@[simp] theorem fx44 : ix ["lower", "upper", "under", "found", "index", "longer", "some", "one", "place"] "under" = some 2 := mkf rfl
@[simp] theorem fx45 : ix ["lower", "upper", "under", "found", "index", "longer", "some", "one", "place"] "found" = some 3 := mkf rfl
@[simp] theorem fx46 : ix ["lower", "upper", "under", "found", "index", "longer", "some", "one", "place"] "index" = some 4 := mkf rfl
@[simp] theorem fx47 : ix ["lower", "upper", "under", "found", "index", "longer", "some", "one", "place"] "range" = none := mkf rfl
@[simp] theorem fx48 : ix ["lower", "upper", "under", "found", "index", "longer", "some", "one", "place"] "longer" = some 5 := mkf rfl
@[simp] theorem fx49 : ix ["lower", "upper", "under", "found", "index", "longer", "some", "one", "place"] "some" = some 6 := mkf rfl
@[simp] theorem fx50 : ix ["lower", "upper", "under", "found", "index", "longer", "some", "one", "place"] "place" = some 8 := mkf rfl
@[simp] theorem fx51 : ix ["lower", "upper", "under", "found", "index", "longer", "some", "one", "place"] "len" = none := mkf rfl
@[simp] theorem fx52 : ix ["lower", "upper", "under", "found", "index", "longer", "some", "one", "place"] "lower" = some 0 := mkf rfl
@[simp] theorem fx53 : ix ["lower", "upper", "under", "found", "index", "longer", "some", "one", "place"] "one" = some 7 := mkf rfl
@[simp] theorem fx54 : ix ["lower", "upper", "under", "found", "index", "longer", "some", "one", "place"] "upper" = some 1 := mkf rfl
@[simp] theorem fx55 : ix ["lower", "upper", "under", "found", "index", "longer", "some", "one", "place"] "enumerate" = none := mkf rfl
@[simp] theorem fx56 : ix ["lower", "upper", "under", "found", "index", "longer", "some", "one", "place"] "lies_below" = none := mkf rfl
@[simp] theorem fx57 : ix ["lower", "upper", "under", "found", "index", "longer", "some", "one", "place"] "all" = none := mkf rfl
@[simp] theorem fx58 : ix ["many", "kind", "known", "place", "one"] "known" = some 2 := mkf rfl
@[simp] theorem fx59 : ix ["many", "kind", "known", "place", "one"] "kind" = some 1 := mkf rfl
@[simp] theorem fx60 : ix ["many", "kind", "known", "place", "one"] "one" = some 4 := mkf rfl
@[simp] theorem fx61 : ix ["many", "kind", "known", "place", "one"] "place" = some 3 := mkf rfl
@[simp] theorem fx62 : ix ["many", "kind", "known", "place", "one"] "enumerate" = none := mkf rfl
@[simp] theorem fx63 : ix ["many", "kind", "known", "place", "one"] "all_elements" = none := mkf rfl
@[simp] theorem fx64 : ix ["many", "kind", "known", "place", "one"] "many" = some 0 := mkf rfl
@[simp] theorem fx65 : ix ["many", "kind", "thing", "known", "parts", "found", "part"] "parts" = some 4 := mkf rfl
@[simp] theorem fx66 : ix ["many", "kind", "thing", "known", "parts", "found", "part"] "found" = some 5 := mkf rfl
@[simp] theorem fx67 : ix ["many", "kind", "thing", "known", "parts", "found", "part"] "kind" = some 1 := mkf rfl
@[simp] theorem fx68 : ix ["many", "kind", "thing", "known", "parts", "found", "part"] "tuple" = none := mkf rfl
@[simp] theorem fx69 : ix ["many", "kind", "thing", "known", "parts", "found", "part"] "is_row" = none := mkf rfl
@[simp] theorem fx70 : ix ["many", "kind", "thing", "known", "parts", "found", "part"] "thing" = some 2 := mkf rfl
@[simp] theorem fx71 : ix ["many", "kind", "thing", "known", "parts", "found", "part"] "kept_element" = none := mkf rfl
@[simp] theorem fx72 : ix ["many", "kind", "thing", "known", "parts", "found", "part"] "many" = some 0 := mkf rfl
@[simp] theorem fx73 : ix ["many", "kind", "thing", "known", "parts", "found", "part"] "part" = some 6 := mkf rfl
@[simp] theorem fx74 : ix ["many", "kind", "thing", "known", "parts", "found", "part"] "known" = some 3 := mkf rfl
@[simp] theorem fx75 : ix ["many", "kind", "thing", "known", "parts", "found", "part"] "all" = none := mkf rfl
@[simp] theorem fx76 : ix ["many", "kind", "thing", "known", "parts", "found", "part"] "len" = none := mkf rfl
@[simp] theorem fx77 : ix ["many", "kind", "thing", "known", "parts", "found", "part"] "places_of" = none := mkf rfl
@[simp] theorem fx78 : ix ["many", "kind", "thing", "known", "parts", "found", "part"] "all_elements" = none := mkf rfl
@[simp] theorem fx79 : ix ["many", "kind", "thing", "known", "parts", "found", "part"] "is_number" = none := mkf rfl
@[simp] theorem fx80 : ix ["many", "kind", "thing", "known", "found"] "found" = some 4 := mkf rfl
@[simp] theorem fx81 : ix ["many", "kind", "thing", "known", "found"] "kept_element" = none := mkf rfl
@[simp] theorem fx82 : ix ["many", "kind", "thing", "known", "found"] "many" = some 0 := mkf rfl
@[simp] theorem fx83 : ix ["many", "kind", "thing", "known", "found"] "kind" = some 1 := mkf rfl
@[simp] theorem fx84 : ix ["many", "kind", "thing", "known", "found"] "thing" = some 2 := mkf rfl
@[simp] theorem fx85 : ix ["many", "kind", "thing", "known", "found"] "known" = some 3 := mkf rfl
@[simp] theorem fx86 : ix ["many", "kind", "thing", "known", "found"] "BadElement" = none := mkf rfl
@[simp] theorem fx87 : ix ["many", "kind", "element", "kept", "known", "one"] "element" = some 2 := mkf rfl
@[simp] theorem fx88 : ix ["many", "kind", "element", "kept", "known", "one"] "check_many" = none := mkf rfl
@[simp] theorem fx89 : ix ["many", "kind", "element", "kept", "known", "one"] "many" = some 0 := mkf rfl
@[simp] theorem fx90 : ix ["many", "kind", "element", "kept", "known", "one"] "kept" = some 3 := mkf rfl
@[simp] theorem fx91 : ix ["many", "kind", "element", "kept", "known", "one"] "known" = some 4 := mkf rfl
@[simp] theorem fx92 : ix ["many", "kind", "element", "kept", "known", "one"] "need_element" = none := mkf rfl
@[simp] theorem fx93 : ix ["many", "kind", "element", "kept", "known", "one"] "one" = some 5 := mkf rfl
@[simp] theorem fx94 : ix ["many", "kind", "element", "kept", "known", "one"] "need_type" = none := mkf rfl
@[simp] theorem fx95 : ix ["many", "kind", "element", "kept", "known", "one"] "kind" = some 1 := mkf rfl
@[simp] theorem fx96 : ix ["many", "kind", "element", "kept", "known", "one"] "all_elements" = none := mkf rfl
@[simp] theorem fx97 : ix ["many", "kind", "element", "kept", "known", "one"] "lies_below" = none := mkf rfl
@[simp] theorem fx98 : ix ["many", "kind", "every", "found", "one", "other"] "every" = some 2 := mkf rfl
@[simp] theorem fx99 : ix ["many", "kind", "every", "found", "one", "other"] "found" = some 3 := mkf rfl
@[simp] theorem fx100 : ix ["many", "kind", "every", "found", "one", "other"] "one" = some 4 := mkf rfl
@[simp] theorem fx101 : ix ["many", "kind", "every", "found", "one", "other"] "check_many" = none := mkf rfl
@[simp] theorem fx102 : ix ["many", "kind", "every", "found", "one", "other"] "many" = some 0 := mkf rfl
@[simp] theorem fx103 : ix ["many", "kind", "every", "found", "one", "other"] "all_elements" = none := mkf rfl
@[simp] theorem fx104 : ix ["many", "kind", "every", "found", "one", "other"] "need_type" = none := mkf rfl
@[simp] theorem fx105 : ix ["many", "kind", "every", "found", "one", "other"] "kind" = some 1 := mkf rfl
@[simp] theorem fx106 : ix ["many", "kind", "every", "found", "one", "other"] "any" = none := mkf rfl
@[simp] theorem fx107 : ix ["many", "kind", "every", "found", "one", "other"] "lies_below" = none := mkf rfl
@[simp] theorem fx108 : ix ["many", "kind", "every", "found", "one", "other"] "other" = some 5 := mkf rfl
@[simp] theorem fx109 : ix ["script"] "list" = none := mkf rfl
@[simp] theorem fx110 : ix ["script"] "script" = some 0 := mkf rfl
@[simp] theorem fx111 : ix ["stream", "many", "cell", "digit", "mixed"] "mixed" = some 4 := mkf rfl
@[simp] theorem fx112 : ix ["stream", "many", "cell", "digit", "mixed"] "stream" = some 0 := mkf rfl
@[simp] theorem fx113 : ix ["stream", "many", "cell", "digit", "mixed"] "cell" = some 2 := mkf rfl
@[simp] theorem fx114 : ix ["stream", "many", "cell", "digit", "mixed"] "digit" = some 3 := mkf rfl
@[simp] theorem fx115 : ix ["stream", "many", "cell", "digit", "mixed"] "many" = some 1 := mkf rfl
@[simp] theorem fx116 : ix ["stream", "many", "cell", "digit", "mixed"] "abs" = none := mkf rfl
@[simp] theorem fx117 : ix ["stream", "many", "cell", "digit", "mixed"] "int" = none := mkf rfl
@[simp] theorem fx118 : ix ["stream", "things"] "things" = some 1 := mkf rfl
@[simp] theorem fx119 : ix ["stream", "things"] "_law_draw" = none := mkf rfl
@[simp] theorem fx120 : ix ["stream", "things"] "stream" = some 0 := mkf rfl
@[simp] theorem fx121 : ix ["stream", "things"] "len" = none := mkf rfl
@[simp] theorem fx122 : ix ["found", "due", "mine", "theirs"] "isinstance" = none := mkf rfl
@[simp] theorem fx123 : ix ["found", "due", "mine", "theirs"] "due" = some 1 := mkf rfl
@[simp] theorem fx124 : ix ["found", "due", "mine", "theirs"] "dict" = none := mkf rfl
@[simp] theorem fx125 : ix ["found", "due", "mine", "theirs"] "list" = none := mkf rfl
@[simp] theorem fx126 : ix ["found", "due", "mine", "theirs"] "tuple" = none := mkf rfl
@[simp] theorem fx127 : ix ["found", "due", "mine", "theirs"] "bool" = none := mkf rfl
@[simp] theorem fx128 : ix ["found", "due", "mine", "theirs"] "found" = some 0 := mkf rfl
@[simp] theorem fx129 : ix ["found", "due", "mine", "theirs"] "all" = none := mkf rfl
@[simp] theorem fx130 : ix ["found", "due", "mine", "theirs"] "_law_same" = none := mkf rfl
@[simp] theorem fx131 : ix ["found", "due", "mine", "theirs"] "int" = none := mkf rfl
@[simp] theorem fx132 : ix ["found", "due", "mine", "theirs"] "str" = none := mkf rfl
@[simp] theorem fx133 : ix ["found", "due", "mine", "theirs"] "len" = none := mkf rfl
@[simp] theorem fx134 : ix ["found", "due", "mine", "theirs"] "mine" = some 2 := mkf rfl
@[simp] theorem fx135 : ix ["found", "due", "mine", "theirs"] "theirs" = some 3 := mkf rfl
@[simp] theorem fx136 : ix ["found", "due", "mine", "theirs"] "zip" = none := mkf rfl
@[simp] theorem fx137 : ix ["thing", "part"] "isinstance" = none := mkf rfl
@[simp] theorem fx138 : ix ["thing", "part"] "list" = none := mkf rfl
@[simp] theorem fx139 : ix ["thing", "part"] "_law_spoilt" = none := mkf rfl
@[simp] theorem fx140 : ix ["thing", "some", "key", "one"] "some" = some 1 := mkf rfl
@[simp] theorem fx141 : ix ["thing", "some", "key", "one"] "isinstance" = none := mkf rfl
@[simp] theorem fx142 : ix ["thing", "some", "key", "one"] "thing" = some 0 := mkf rfl
@[simp] theorem fx143 : ix ["thing", "some", "key", "one"] "dict" = none := mkf rfl
@[simp] theorem fx144 : ix ["thing", "some", "key", "one"] "tuple" = none := mkf rfl
@[simp] theorem fx145 : ix ["thing", "some", "key", "one"] "list" = none := mkf rfl
@[simp] theorem fx146 : ix ["thing", "some", "key", "one"] "_law_copied" = none := mkf rfl
@[simp] theorem fx147 : ix ["thing", "some", "key", "one"] "one" = some 3 := mkf rfl
@[simp] theorem fx148 : ix ["thing", "some", "key", "one"] "key" = some 2 := mkf rfl
@[simp] theorem fx149 : ix ["stream", "thing", "some", "part"] "some" = some 2 := mkf rfl
@[simp] theorem fx150 : ix ["stream", "thing", "some", "part"] "thing" = some 1 := mkf rfl
@[simp] theorem fx151 : ix ["stream", "thing", "some", "part"] "isinstance" = none := mkf rfl
@[simp] theorem fx152 : ix ["stream", "thing", "some", "part"] "_law_loose" = none := mkf rfl
@[simp] theorem fx153 : ix ["stream", "thing", "some", "part"] "stream" = some 0 := mkf rfl
@[simp] theorem fx154 : ix ["stream", "thing", "some", "part"] "part" = some 3 := mkf rfl
@[simp] theorem fx155 : ix ["stream", "thing", "some", "part"] "tuple" = none := mkf rfl
@[simp] theorem fx156 : ix ["stream", "thing", "some", "part"] "list" = none := mkf rfl
@[simp] theorem fx157 : ix ["stream", "thing", "some", "part"] "_law_draw" = none := mkf rfl
@[simp] theorem fx158 : ix ["one", "other", "mine", "theirs"] "_law_below" = none := mkf rfl
@[simp] theorem fx159 : ix ["book", "many", "kind", "found", "ins", "outs", "at", "one", "under", "over", "further", "table", "out", "k"] "kind" = some 2 := mkf rfl
@[simp] theorem fx160 : ix ["book", "many", "kind", "found", "ins", "outs", "at", "one", "under", "over", "further", "table", "out", "k"] "book" = some 0 := mkf rfl
@[simp] theorem fx161 : ix ["book", "many", "kind", "found", "ins", "outs", "at", "one", "under", "over", "further", "table", "out", "k"] "found" = some 3 := mkf rfl
@[simp] theorem fx162 : ix ["book", "many", "kind", "found", "ins", "outs", "at", "one", "under", "over", "further", "table", "out", "k"] "ins" = some 4 := mkf rfl
@[simp] theorem fx163 : ix ["book", "many", "kind", "found", "ins", "outs", "at", "one", "under", "over", "further", "table", "out", "k"] "outs" = some 5 := mkf rfl
@[simp] theorem fx164 : ix ["book", "many", "kind", "found", "ins", "outs", "at", "one", "under", "over", "further", "table", "out", "k"] "at" = some 6 := mkf rfl
@[simp] theorem fx165 : ix ["book", "many", "kind", "found", "ins", "outs", "at", "one", "under", "over", "further", "table", "out", "k"] "one" = some 7 := mkf rfl
@[simp] theorem fx166 : ix ["book", "many", "kind", "found", "ins", "outs", "at", "one", "under", "over", "further", "table", "out", "k"] "enumerate" = none := mkf rfl
@[simp] theorem fx167 : ix ["book", "many", "kind", "found", "ins", "outs", "at", "one", "under", "over", "further", "table", "out", "k"] "under" = some 8 := mkf rfl
@[simp] theorem fx168 : ix ["book", "many", "kind", "found", "ins", "outs", "at", "one", "under", "over", "further", "table", "out", "k"] "over" = some 9 := mkf rfl
@[simp] theorem fx169 : ix ["book", "many", "kind", "found", "ins", "outs", "at", "one", "under", "over", "further", "table", "out", "k"] "further" = some 10 := mkf rfl
@[simp] theorem fx170 : ix ["book", "many", "kind", "found", "ins", "outs", "at", "one", "under", "over", "further", "table", "out", "k"] "table" = some 11 := mkf rfl
@[simp] theorem fx171 : ix ["book", "many", "kind", "found", "ins", "outs", "at", "one", "under", "over", "further", "table", "out", "k"] "_law_all" = none := mkf rfl
@[simp] theorem fx172 : ix ["book", "many", "kind", "found", "ins", "outs", "at", "one", "under", "over", "further", "table", "out", "k"] "many" = some 1 := mkf rfl
@[simp] theorem fx173 : ix ["book", "many", "kind", "found", "ins", "outs", "at", "one", "under", "over", "further", "table", "out", "k"] "k" = some 13 := mkf rfl
@[simp] theorem fx174 : ix ["book", "many", "kind", "found", "ins", "outs", "at", "one", "under", "over", "further", "table", "out", "k"] "out" = some 12 := mkf rfl
@[simp] theorem fx175 : ix ["book", "many", "kind", "found", "ins", "outs", "at", "one", "under", "over", "further", "table", "out", "k"] "list" = none := mkf rfl
@[simp] theorem fx176 : ix ["book", "many", "kind", "found", "ins", "outs", "at", "one", "under", "over", "further", "table", "out", "k"] "range" = none := mkf rfl
@[simp] theorem fx177 : ix ["book", "many", "kind", "found", "ins", "outs", "at", "one", "under", "over", "further", "table", "out", "k"] "_law_below" = none := mkf rfl
@[simp] theorem fx178 : ix ["book", "many", "kind", "found", "ins", "outs", "at", "one", "under", "over", "further", "table", "out", "k"] "all" = none := mkf rfl
@[simp] theorem fx179 : ix ["book", "many", "kind", "found", "ins", "outs", "at", "one", "under", "over", "further", "table", "out", "k"] "tuple" = none := mkf rfl
@[simp] theorem fx180 : ix ["stream", "many", "base", "one", "kinds"] "kinds" = some 4 := mkf rfl
@[simp] theorem fx181 : ix ["stream", "many", "base", "one", "kinds"] "base" = some 2 := mkf rfl
@[simp] theorem fx182 : ix ["stream", "many", "base", "one", "kinds"] "one" = some 3 := mkf rfl
@[simp] theorem fx183 : ix ["stream", "many", "base", "one", "kinds"] "_law_pick" = none := mkf rfl
@[simp] theorem fx184 : ix ["stream", "many", "base", "one", "kinds"] "stream" = some 0 := mkf rfl
@[simp] theorem fx185 : ix ["stream", "many", "base", "one", "kinds"] "many" = some 1 := mkf rfl
@[simp] theorem fx186 : ix ["stream", "book", "many", "kind", "every", "one", "upper", "lower", "handed", "was", "found", "ends", "some", "other"] "every" = some 4 := mkf rfl
@[simp] theorem fx187 : ix ["stream", "book", "many", "kind", "every", "one", "upper", "lower", "handed", "was", "found", "ends", "some", "other"] "one" = some 5 := mkf rfl
@[simp] theorem fx188 : ix ["stream", "book", "many", "kind", "every", "one", "upper", "lower", "handed", "was", "found", "ends", "some", "other"] "handed" = some 8 := mkf rfl
@[simp] theorem fx189 : ix ["stream", "book", "many", "kind", "every", "one", "upper", "lower", "handed", "was", "found", "ends", "some", "other"] "was" = some 9 := mkf rfl
@[simp] theorem fx190 : ix ["stream", "book", "many", "kind", "every", "one", "upper", "lower", "handed", "was", "found", "ends", "some", "other"] "found" = some 10 := mkf rfl
@[simp] theorem fx191 : ix ["stream", "book", "many", "kind", "every", "one", "upper", "lower", "handed", "was", "found", "ends", "some", "other"] "ends" = some 11 := mkf rfl
@[simp] theorem fx192 : ix ["stream", "book", "many", "kind", "every", "one", "upper", "lower", "handed", "was", "found", "ends", "some", "other"] "_law_all" = none := mkf rfl
@[simp] theorem fx193 : ix ["stream", "book", "many", "kind", "every", "one", "upper", "lower", "handed", "was", "found", "ends", "some", "other"] "book" = some 1 := mkf rfl
@[simp] theorem fx194 : ix ["stream", "book", "many", "kind", "every", "one", "upper", "lower", "handed", "was", "found", "ends", "some", "other"] "many" = some 2 := mkf rfl
@[simp] theorem fx195 : ix ["stream", "book", "many", "kind", "every", "one", "upper", "lower", "handed", "was", "found", "ends", "some", "other"] "kind" = some 3 := mkf rfl
@[simp] theorem fx196 : ix ["stream", "book", "many", "kind", "every", "one", "upper", "lower", "handed", "was", "found", "ends", "some", "other"] "_law_pick" = none := mkf rfl
@[simp] theorem fx197 : ix ["stream", "book", "many", "kind", "every", "one", "upper", "lower", "handed", "was", "found", "ends", "some", "other"] "stream" = some 0 := mkf rfl
@[simp] theorem fx198 : ix ["stream", "book", "many", "kind", "every", "one", "upper", "lower", "handed", "was", "found", "ends", "some", "other"] "upper" = some 6 := mkf rfl
@[simp] theorem fx199 : ix ["stream", "book", "many", "kind", "every", "one", "upper", "lower", "handed", "was", "found", "ends", "some", "other"] "lower" = some 7 := mkf rfl
@[simp] theorem fx200 : ix ["stream", "book", "many", "kind", "every", "one", "upper", "lower", "handed", "was", "found", "ends", "some", "other"] "_law_loose" = none := mkf rfl
@[simp] theorem fx201 : ix ["stream", "book", "many", "kind", "every", "one", "upper", "lower", "handed", "was", "found", "ends", "some", "other"] "_law_copied" = none := mkf rfl
@[simp] theorem fx202 : ix ["stream", "book", "many", "kind", "every", "one", "upper", "lower", "handed", "was", "found", "ends", "some", "other"] "_law_spoilt" = none := mkf rfl
@[simp] theorem fx203 : ix ["stream", "book", "many", "kind", "every", "one", "upper", "lower", "handed", "was", "found", "ends", "some", "other"] "some" = some 12 := mkf rfl
@[simp] theorem fx204 : ix ["stream", "book", "many", "kind", "every", "one", "upper", "lower", "handed", "was", "found", "ends", "some", "other"] "_law_same" = none := mkf rfl
@[simp] theorem fx205 : ix ["stream", "book", "many", "kind", "every", "one", "upper", "lower", "handed", "was", "found", "ends", "some", "other"] "above" = none := mkf rfl
@[simp] theorem fx206 : ix ["stream", "book", "many", "kind", "every", "one", "upper", "lower", "handed", "was", "found", "ends", "some", "other"] "beneath" = none := mkf rfl
@[simp] theorem fx207 : ix ["stream", "book", "many", "kind", "every", "one", "upper", "lower", "handed", "was", "found", "ends", "some", "other"] "tops" = none := mkf rfl
@[simp] theorem fx208 : ix ["stream", "book", "many", "kind", "every", "one", "upper", "lower", "handed", "was", "found", "ends", "some", "other"] "_law_below" = none := mkf rfl
@[simp] theorem fx209 : ix ["stream", "book", "many", "kind", "every", "one", "upper", "lower", "handed", "was", "found", "ends", "some", "other"] "any" = none := mkf rfl
@[simp] theorem fx210 : ix ["stream", "book", "many", "kind", "every", "one", "upper", "lower", "handed", "was", "found", "ends", "some", "other"] "len" = none := mkf rfl
@[simp] theorem fx211 : ix ["stream", "book", "many", "kind", "every", "one", "upper", "lower", "handed", "was", "found", "ends", "some", "other"] "other" = some 13 := mkf rfl
@[simp] theorem fx212 : ix ["script", "stream", "books", "turn", "many", "kind", "found", "due"] "turn" = some 3 := mkf rfl
@[simp] theorem fx213 : ix ["script", "stream", "books", "turn", "many", "kind", "found", "due"] "found" = some 6 := mkf rfl
@[simp] theorem fx214 : ix ["script", "stream", "books", "turn", "many", "kind", "found", "due"] "due" = some 7 := mkf rfl
@[simp] theorem fx215 : ix ["script", "stream", "books", "turn", "many", "kind", "found", "due"] "stream" = some 1 := mkf rfl
@[simp] theorem fx216 : ix ["script", "stream", "books", "turn", "many", "kind", "found", "due"] "books" = some 2 := mkf rfl
@[simp] theorem fx217 : ix ["script", "stream", "books", "turn", "many", "kind", "found", "due"] "range" = none := mkf rfl
@[simp] theorem fx218 : ix ["script", "stream", "books", "turn", "many", "kind", "found", "due"] "many" = some 4 := mkf rfl
@[simp] theorem fx219 : ix ["script", "stream", "books", "turn", "many", "kind", "found", "due"] "kind" = some 5 := mkf rfl
@[simp] theorem fx220 : ix ["script", "stream", "books", "turn", "many", "kind", "found", "due"] "_law_same" = none := mkf rfl
@[simp] theorem fx221 : ix ["script", "stream", "books", "turn", "many", "kind", "found", "due"] "_law_stream" = none := mkf rfl
@[simp] theorem fx222 : ix ["script", "stream", "books", "turn", "many", "kind", "found", "due"] "script" = some 0 := mkf rfl
@[simp] theorem fx223 : ix ["script", "stream", "books", "turn", "many", "kind", "found", "due"] "_law_w_kind" = none := mkf rfl
@[simp] theorem fx224 : ix ["script", "stream", "books", "turn", "many", "kind", "found", "due"] "tops" = none := mkf rfl
@[simp] theorem fx225 : ix ["script", "stream", "books", "turn", "many", "kind", "found", "due"] "above" = none := mkf rfl
@[simp] theorem fx226 : ix ["script", "stream", "books", "turn", "many", "kind", "found", "due"] "beneath" = none := mkf rfl
@[simp] theorem fx227 : ix ["script", "stream", "books", "turn", "many", "kind", "found", "due"] "_law_draw" = none := mkf rfl
@[simp] theorem fx228 : ix ["script", "stream", "books", "turn", "many", "kind", "found", "due"] "_law_element_right" = none := mkf rfl
@[simp] theorem fx229 : ix ["script", "stream", "books", "turn", "many", "kind", "found", "due"] "len" = none := mkf rfl
@[simp] theorem fx230 : ix ["script", "stream", "books", "turn", "many", "kind", "found", "due"] "_law_all" = none := mkf rfl
@[simp] theorem fx231 : cf.ps "BadElement" = none := mkf rfl
@[simp] theorem fx232 : cf.kill "BadElement" = false := mkf rfl
@[simp] theorem fx233 : cf.ps "BadMany" = none := mkf rfl
@[simp] theorem fx234 : cf.kill "BadMany" = false := mkf rfl
@[simp] theorem fx235 : cf.ps "BadType" = none := mkf rfl
@[simp] theorem fx236 : cf.kill "BadType" = false := mkf rfl
@[simp] theorem fx237 : cf.ps "_law_all" = some (["book", "many", "kind"] : List Str) := mkf rfl
@[simp] theorem fx238 : cf.kill "_law_all" = false := mkf rfl
@[simp] theorem fx239 : cf.ps "_law_below" = some (["one", "other"] : List Str) := mkf rfl
@[simp] theorem fx240 : cf.kill "_law_below" = false := mkf rfl
@[simp] theorem fx241 : cf.ps "_law_copied" = some (["thing"] : List Str) := mkf rfl
@[simp] theorem fx242 : cf.kill "_law_copied" = false := mkf rfl
@[simp] theorem fx243 : cf.ps "_law_draw" = some (["stream", "many"] : List Str) := mkf rfl
@[simp] theorem fx244 : cf.kill "_law_draw" = false := mkf rfl
@[simp] theorem fx245 : cf.ps "_law_element_right" = some (["stream", "book", "many", "kind"] : List Str) := mkf rfl
@[simp] theorem fx246 : cf.kill "_law_element_right" = false := mkf rfl
@[simp] theorem fx247 : cf.ps "_law_loose" = some (["stream", "thing"] : List Str) := mkf rfl
@[simp] theorem fx248 : cf.kill "_law_loose" = false := mkf rfl
@[simp] theorem fx249 : cf.ps "_law_pick" = some (["stream", "things"] : List Str) := mkf rfl
@[simp] theorem fx250 : cf.kill "_law_pick" = false := mkf rfl
@[simp] theorem fx251 : cf.ps "_law_same" = some (["found", "due"] : List Str) := mkf rfl
@[simp] theorem fx252 : cf.kill "_law_same" = false := mkf rfl
@[simp] theorem fx253 : cf.ps "_law_spoilt" = some (["thing"] : List Str) := mkf rfl
@[simp] theorem fx254 : cf.kill "_law_spoilt" = true := mkf rfl
@[simp] theorem fx255 : cf.ps "_law_stream" = some (["script"] : List Str) := mkf rfl
@[simp] theorem fx256 : cf.kill "_law_stream" = false := mkf rfl
@[simp] theorem fx257 : cf.ps "_law_w_kind" = some (["stream", "many"] : List Str) := mkf rfl
@[simp] theorem fx258 : cf.kill "_law_w_kind" = false := mkf rfl
@[simp] theorem fx259 : cf.ps "above" = some (["many", "kind", "element"] : List Str) := mkf rfl
@[simp] theorem fx260 : cf.kill "above" = false := mkf rfl
@[simp] theorem fx261 : cf.ps "abs" = none := mkf rfl
@[simp] theorem fx262 : cf.kill "abs" = false := mkf rfl
@[simp] theorem fx263 : cf.ps "all" = none := mkf rfl
@[simp] theorem fx264 : cf.kill "all" = false := mkf rfl
@[simp] theorem fx265 : cf.ps "all_elements" = some (["many", "kind", "known"] : List Str) := mkf rfl
@[simp] theorem fx266 : cf.kill "all_elements" = false := mkf rfl
@[simp] theorem fx267 : cf.ps "any" = none := mkf rfl
@[simp] theorem fx268 : cf.kill "any" = false := mkf rfl
@[simp] theorem fx269 : cf.ps "as_tuples" = some (["thing"] : List Str) := mkf rfl
@[simp] theorem fx270 : cf.kill "as_tuples" = false := mkf rfl
@[simp] theorem fx271 : cf.ps "beneath" = some (["many", "kind", "element"] : List Str) := mkf rfl
@[simp] theorem fx272 : cf.kill "beneath" = false := mkf rfl
@[simp] theorem fx273 : cf.ps "bool" = none := mkf rfl
@[simp] theorem fx274 : cf.kill "bool" = false := mkf rfl
@[simp] theorem fx275 : cf.ps "check_many" = some (["many"] : List Str) := mkf rfl
@[simp] theorem fx276 : cf.kill "check_many" = false := mkf rfl
@[simp] theorem fx277 : cf.ps "dict" = none := mkf rfl
@[simp] theorem fx278 : cf.kill "dict" = false := mkf rfl
@[simp] theorem fx279 : cf.ps "enumerate" = none := mkf rfl
@[simp] theorem fx280 : cf.kill "enumerate" = false := mkf rfl
@[simp] theorem fx281 : cf.ps "int" = none := mkf rfl
@[simp] theorem fx282 : cf.kill "int" = false := mkf rfl
@[simp] theorem fx283 : cf.ps "is_list" = some (["thing"] : List Str) := mkf rfl
@[simp] theorem fx284 : cf.kill "is_list" = false := mkf rfl
@[simp] theorem fx285 : cf.ps "is_many" = some (["thing"] : List Str) := mkf rfl
@[simp] theorem fx286 : cf.kill "is_many" = false := mkf rfl
@[simp] theorem fx287 : cf.ps "is_number" = some (["thing"] : List Str) := mkf rfl
@[simp] theorem fx288 : cf.kill "is_number" = false := mkf rfl
@[simp] theorem fx289 : cf.ps "is_row" = some (["thing", "many"] : List Str) := mkf rfl
@[simp] theorem fx290 : cf.kill "is_row" = false := mkf rfl
@[simp] theorem fx291 : cf.ps "is_type" = some (["thing"] : List Str) := mkf rfl
@[simp] theorem fx292 : cf.kill "is_type" = false := mkf rfl
@[simp] theorem fx293 : cf.ps "is_whole" = some (["thing"] : List Str) := mkf rfl
@[simp] theorem fx294 : cf.kill "is_whole" = false := mkf rfl
@[simp] theorem fx295 : cf.ps "isinstance" = none := mkf rfl
@[simp] theorem fx296 : cf.kill "isinstance" = false := mkf rfl
@[simp] theorem fx297 : cf.ps "kept_element" = some (["many", "kind", "thing", "known"] : List Str) := mkf rfl
@[simp] theorem fx298 : cf.kill "kept_element" = false := mkf rfl
@[simp] theorem fx299 : cf.ps "kept_type" = some (["thing"] : List Str) := mkf rfl
@[simp] theorem fx300 : cf.kill "kept_type" = false := mkf rfl
@[simp] theorem fx301 : cf.ps "len" = none := mkf rfl
@[simp] theorem fx302 : cf.kill "len" = false := mkf rfl
@[simp] theorem fx303 : cf.ps "lies_below" = some (["one", "other"] : List Str) := mkf rfl
@[simp] theorem fx304 : cf.kill "lies_below" = false := mkf rfl
@[simp] theorem fx305 : cf.ps "list" = none := mkf rfl
@[simp] theorem fx306 : cf.kill "list" = false := mkf rfl
@[simp] theorem fx307 : cf.ps "need_element" = some (["many", "kind", "thing", "known"] : List Str) := mkf rfl
@[simp] theorem fx308 : cf.kill "need_element" = false := mkf rfl
@[simp] theorem fx309 : cf.ps "need_type" = some (["thing"] : List Str) := mkf rfl
@[simp] theorem fx310 : cf.kill "need_type" = false := mkf rfl
@[simp] theorem fx311 : cf.ps "places_of" = some (["many", "kind", "known"] : List Str) := mkf rfl
@[simp] theorem fx312 : cf.kill "places_of" = false := mkf rfl
@[simp] theorem fx313 : cf.ps "range" = none := mkf rfl
@[simp] theorem fx314 : cf.kill "range" = false := mkf rfl
@[simp] theorem fx315 : cf.ps "str" = none := mkf rfl
@[simp] theorem fx316 : cf.kill "str" = false := mkf rfl
@[simp] theorem fx317 : cf.ps "tables_between" = some (["lower", "upper"] : List Str) := mkf rfl
@[simp] theorem fx318 : cf.kill "tables_between" = false := mkf rfl
@[simp] theorem fx319 : cf.ps "tops" = some (["many", "kind"] : List Str) := mkf rfl
@[simp] theorem fx320 : cf.kill "tops" = false := mkf rfl
@[simp] theorem fx321 : cf.ps "tuple" = none := mkf rfl
@[simp] theorem fx322 : cf.kill "tuple" = false := mkf rfl
@[simp] theorem fx323 : cf.ps "zip" = none := mkf rfl
@[simp] theorem fx324 : cf.kill "zip" = false := mkf rfl
@[simp] theorem fx325 : cf.fz ⟨3, 4, 3, 43⟩ = [] := mkf rfl
@[simp] theorem fx326 : cf.fz ⟨5, 4, 5, 67⟩ = [] := mkf rfl
@[simp] theorem fx327 : cf.fz ⟨7, 4, 7, 41⟩ = [] := mkf rfl
@[simp] theorem fx328 : cf.fz ⟨9, 4, 9, 48⟩ = [] := mkf rfl
@[simp] theorem fx329 : cf.fz ⟨11, 4, 11, 82⟩ = [] := mkf rfl
@[simp] theorem fx330 : ix ["thing", "part"] ".0" = none := mkf rfl
@[simp] theorem fx331 : cf.fz ⟨29, 4, 29, 68⟩ = [] := mkf rfl
@[simp] theorem fx332 : cf.fz ⟨31, 4, 31, 55⟩ = [] := mkf rfl
@[simp] theorem fx333 : cf.fz ⟨33, 4, 33, 27⟩ = [] := mkf rfl
@[simp] theorem fx334 : cf.own ⟨33, 4, 33, 27⟩ = false := mkf rfl
@[simp] theorem fx335 : cf.fz ⟨34, 4, 35, 28⟩ = [] := mkf rfl
@[simp] theorem fx336 : cf.fz ⟨36, 4, 36, 15⟩ = [] := mkf rfl
@[simp] theorem fx337 : cf.fz ⟨35, 8, 35, 28⟩ = [] := mkf rfl
@[simp] theorem fx338 : cf.fz ⟨39, 4, 39, 46⟩ = [] := mkf rfl
@[simp] theorem fx339 : cf.fz ⟨41, 4, 42, 27⟩ = [] := mkf rfl
@[simp] theorem fx340 : cf.fz ⟨42, 8, 42, 27⟩ = [] := mkf rfl
@[simp] theorem fx341 : cf.fz ⟨45, 4, 46, 82⟩ = [] := mkf rfl
@[simp] theorem fx342 : cf.fz ⟨47, 4, 47, 38⟩ = [] := mkf rfl
@[simp] theorem fx343 : cf.fz ⟨46, 8, 46, 82⟩ = [] := mkf rfl
@[simp] theorem fx344 : ix ["one", "other", "mine", "theirs"] ".0" = none := mkf rfl
@[simp] theorem fx345 : cf.fz ⟨49, 4, 53, 113⟩ = [] := mkf rfl
@[simp] theorem fx346 : cf.fz ⟨54, 4, 54, 22⟩ = [] := mkf rfl
@[simp] theorem fx347 : cf.fz ⟨50, 8, 53, 113⟩ = [] := mkf rfl
@[simp] theorem fx348 : cf.fz ⟨51, 12, 51, 52⟩ = [] := mkf rfl
@[simp] theorem fx349 : cf.own ⟨51, 12, 51, 52⟩ = false := mkf rfl
@[simp] theorem fx350 : cf.fz ⟨53, 12, 53, 113⟩ = [] := mkf rfl
@[simp] theorem fx351 : cf.own ⟨53, 12, 53, 113⟩ = false := mkf rfl
@[simp] theorem fx352 : cf.cell ⟨51, 26, 51, 32⟩ = false := mkf rfl
@[simp] theorem fx353 : cf.fz ⟨56, 4, 56, 115⟩ = [] := mkf rfl
@[simp] theorem fx354 : cf.own ⟨56, 4, 56, 115⟩ = false := mkf rfl
@[simp] theorem fx355 : cf.fz ⟨57, 4, 57, 16⟩ = [] := mkf rfl
@[simp] theorem fx356 : cf.own ⟨57, 4, 57, 16⟩ = true := mkf rfl
@[simp] theorem fx357 : cf.fz ⟨58, 4, 64, 22⟩ = [] := mkf rfl
@[simp] theorem fx358 : cf.fz ⟨65, 4, 65, 16⟩ = [] := mkf rfl
@[simp] theorem fx359 : ix ["lower", "upper", "under", "found", "index", "longer", "some", "one", "place"] ".0" = none := mkf rfl
@[simp] theorem fx360 : cf.cell ⟨57, 12, 57, 16⟩ = false := mkf rfl
@[simp] theorem fx361 : cf.fz ⟨59, 8, 59, 19⟩ = [] := mkf rfl
@[simp] theorem fx362 : cf.own ⟨59, 8, 59, 19⟩ = true := mkf rfl
@[simp] theorem fx363 : cf.fz ⟨60, 8, 63, 48⟩ = [] := mkf rfl
@[simp] theorem fx364 : cf.fz ⟨64, 8, 64, 22⟩ = [] := mkf rfl
@[simp] theorem fx365 : cf.own ⟨64, 8, 64, 22⟩ = true := mkf rfl
@[simp] theorem fx366 : cf.cell ⟨59, 17, 59, 19⟩ = false := mkf rfl
@[simp] theorem fx367 : cf.fz ⟨61, 12, 63, 48⟩ = [] := mkf rfl
@[simp] theorem fx368 : cf.fz ⟨62, 16, 63, 48⟩ = [] := mkf rfl
@[simp] theorem fx369 : cf.fz ⟨63, 20, 63, 48⟩ = [] := mkf rfl
@[simp] theorem fx370 : cf.fz ⟨67, 4, 68, 105⟩ = [] := mkf rfl
@[simp] theorem fx371 : cf.fz ⟨69, 4, 69, 32⟩ = [] := mkf rfl
@[simp] theorem fx372 : cf.fz ⟨68, 8, 68, 105⟩ = [] := mkf rfl
@[simp] theorem fx373 : cf.own ⟨68, 8, 68, 105⟩ = false := mkf rfl
@[simp] theorem fx374 : ix ["many", "kind", "known", "place", "one"] ".0" = none := mkf rfl
@[simp] theorem fx375 : cf.fz ⟨71, 4, 72, 86⟩ = [] := mkf rfl
@[simp] theorem fx376 : cf.fz ⟨73, 4, 74, 17⟩ = [] := mkf rfl
@[simp] theorem fx377 : cf.fz ⟨75, 4, 75, 73⟩ = [] := mkf rfl
@[simp] theorem fx378 : cf.own ⟨75, 4, 75, 73⟩ = false := mkf rfl
@[simp] theorem fx379 : cf.fz ⟨76, 4, 77, 17⟩ = [] := mkf rfl
@[simp] theorem fx380 : cf.fz ⟨78, 4, 78, 46⟩ = [] := mkf rfl
@[simp] theorem fx381 : cf.own ⟨78, 4, 78, 46⟩ = false := mkf rfl
@[simp] theorem fx382 : cf.fz ⟨79, 4, 79, 67⟩ = [] := mkf rfl
@[simp] theorem fx383 : cf.fz ⟨72, 8, 72, 86⟩ = [] := mkf rfl
@[simp] theorem fx384 : cf.fz ⟨74, 8, 74, 17⟩ = [] := mkf rfl
@[simp] theorem fx385 : ix ["many", "kind", "thing", "known", "parts", "found", "part"] ".0" = none := mkf rfl
@[simp] theorem fx386 : cf.fz ⟨77, 8, 77, 17⟩ = [] := mkf rfl
@[simp] theorem fx387 : cf.cell ⟨74, 15, 74, 17⟩ = false := mkf rfl
@[simp] theorem fx388 : cf.cell ⟨77, 15, 77, 17⟩ = false := mkf rfl
@[simp] theorem fx389 : cf.cell ⟨79, 11, 79, 18⟩ = false := mkf rfl
@[simp] theorem fx390 : cf.cell ⟨79, 65, 79, 67⟩ = false := mkf rfl
@[simp] theorem fx391 : cf.cell ⟨72, 15, 72, 22⟩ = false := mkf rfl
@[simp] theorem fx392 : cf.cell ⟨72, 84, 72, 86⟩ = false := mkf rfl
@[simp] theorem fx393 : cf.fz ⟨81, 4, 81, 50⟩ = [] := mkf rfl
@[simp] theorem fx394 : cf.own ⟨81, 4, 81, 50⟩ = false := mkf rfl
@[simp] theorem fx395 : cf.fz ⟨82, 4, 83, 31⟩ = [] := mkf rfl
@[simp] theorem fx396 : cf.fz ⟨84, 4, 84, 19⟩ = [] := mkf rfl
@[simp] theorem fx397 : cf.fz ⟨83, 8, 83, 31⟩ = [] := mkf rfl
@[simp] theorem fx398 : cf.fz ⟨87, 4, 87, 20⟩ = [] := mkf rfl
@[simp] theorem fx399 : cf.fz ⟨88, 4, 88, 39⟩ = [] := mkf rfl
@[simp] theorem fx400 : cf.own ⟨88, 4, 88, 39⟩ = false := mkf rfl
@[simp] theorem fx401 : cf.fz ⟨89, 4, 89, 54⟩ = [] := mkf rfl
@[simp] theorem fx402 : cf.own ⟨89, 4, 89, 54⟩ = false := mkf rfl
@[simp] theorem fx403 : cf.fz ⟨90, 4, 90, 87⟩ = [] := mkf rfl
@[simp] theorem fx404 : ix ["many", "kind", "element", "kept", "known", "one"] ".0" = none := mkf rfl
@[simp] theorem fx405 : cf.cell ⟨88, 36, 88, 38⟩ = true := mkf rfl
@[simp] theorem fx406 : cf.fz ⟨92, 4, 92, 20⟩ = [] := mkf rfl
@[simp] theorem fx407 : cf.fz ⟨93, 4, 93, 39⟩ = [] := mkf rfl
@[simp] theorem fx408 : cf.own ⟨93, 4, 93, 39⟩ = false := mkf rfl
@[simp] theorem fx409 : cf.fz ⟨94, 4, 94, 54⟩ = [] := mkf rfl
@[simp] theorem fx410 : cf.own ⟨94, 4, 94, 54⟩ = false := mkf rfl
@[simp] theorem fx411 : cf.fz ⟨95, 4, 95, 87⟩ = [] := mkf rfl
@[simp] theorem fx412 : cf.cell ⟨93, 36, 93, 38⟩ = true := mkf rfl
@[simp] theorem fx413 : cf.fz ⟨97, 4, 97, 20⟩ = [] := mkf rfl
@[simp] theorem fx414 : cf.fz ⟨98, 4, 98, 51⟩ = [] := mkf rfl
@[simp] theorem fx415 : cf.own ⟨98, 4, 98, 51⟩ = false := mkf rfl
@[simp] theorem fx416 : cf.fz ⟨99, 4, 99, 14⟩ = [] := mkf rfl
@[simp] theorem fx417 : cf.own ⟨99, 4, 99, 14⟩ = true := mkf rfl
@[simp] theorem fx418 : cf.fz ⟨100, 4, 102, 29⟩ = [] := mkf rfl
@[simp] theorem fx419 : cf.fz ⟨103, 4, 103, 22⟩ = [] := mkf rfl
@[simp] theorem fx420 : cf.cell ⟨99, 12, 99, 14⟩ = false := mkf rfl
@[simp] theorem fx421 : cf.fz ⟨101, 8, 102, 29⟩ = [] := mkf rfl
@[simp] theorem fx422 : cf.cell ⟨98, 48, 98, 50⟩ = true := mkf rfl
@[simp] theorem fx423 : cf.fz ⟨102, 12, 102, 29⟩ = [] := mkf rfl
@[simp] theorem fx424 : ix ["many", "kind", "every", "found", "one", "other"] ".0" = none := mkf rfl
@[simp] theorem fx425 : cf.fz ⟨106, 4, 106, 35⟩ = [] := mkf rfl
@[simp] theorem fx426 : cf.cell ⟨106, 11, 106, 35⟩ = true := mkf rfl
@[simp] theorem fx427 : cf.fz ⟨108, 4, 108, 29⟩ = [] := mkf rfl
@[simp] theorem fx428 : cf.own ⟨108, 4, 108, 29⟩ = false := mkf rfl
@[simp] theorem fx429 : cf.fz ⟨109, 4, 112, 51⟩ = [] := mkf rfl
@[simp] theorem fx430 : cf.fz ⟨113, 4, 116, 20⟩ = [] := mkf rfl
@[simp] theorem fx431 : cf.fz ⟨117, 4, 117, 74⟩ = [] := mkf rfl
@[simp] theorem fx432 : cf.own ⟨117, 4, 117, 74⟩ = false := mkf rfl
@[simp] theorem fx433 : cf.fz ⟨118, 4, 118, 81⟩ = [] := mkf rfl
@[simp] theorem fx434 : cf.fz ⟨110, 8, 110, 36⟩ = [] := mkf rfl
@[simp] theorem fx435 : cf.own ⟨110, 8, 110, 36⟩ = false := mkf rfl
@[simp] theorem fx436 : cf.fz ⟨111, 8, 111, 65⟩ = [] := mkf rfl
@[simp] theorem fx437 : cf.own ⟨111, 8, 111, 65⟩ = false := mkf rfl
@[simp] theorem fx438 : cf.fz ⟨112, 8, 112, 51⟩ = [] := mkf rfl
@[simp] theorem fx439 : cf.own ⟨112, 8, 112, 51⟩ = false := mkf rfl
@[simp] theorem fx440 : cf.fz ⟨114, 8, 114, 37⟩ = [] := mkf rfl
@[simp] theorem fx441 : cf.own ⟨114, 8, 114, 37⟩ = false := mkf rfl
@[simp] theorem fx442 : cf.fz ⟨115, 8, 115, 37⟩ = [] := mkf rfl
@[simp] theorem fx443 : cf.own ⟨115, 8, 115, 37⟩ = false := mkf rfl
@[simp] theorem fx444 : cf.fz ⟨116, 8, 116, 20⟩ = [] := mkf rfl
@[simp] theorem fx445 : cf.cell ⟨109, 42, 109, 44⟩ = false := mkf rfl
@[simp] theorem fx446 : cf.fz ⟨120, 4, 120, 49⟩ = [] := mkf rfl
@[simp] theorem fx447 : cf.fz ⟨122, 4, 125, 108⟩ = [] := mkf rfl
@[simp] theorem fx448 : cf.fz ⟨126, 4, 127, 92⟩ = [] := mkf rfl
@[simp] theorem fx449 : cf.fz ⟨128, 4, 129, 83⟩ = [] := mkf rfl
@[simp] theorem fx450 : cf.fz ⟨130, 4, 131, 44⟩ = [] := mkf rfl
@[simp] theorem fx451 : cf.fz ⟨132, 4, 133, 20⟩ = [] := mkf rfl
@[simp] theorem fx452 : cf.fz ⟨134, 4, 134, 70⟩ = [] := mkf rfl
@[simp] theorem fx453 : cf.fz ⟨123, 8, 124, 24⟩ = [] := mkf rfl
@[simp] theorem fx454 : cf.fz ⟨125, 8, 125, 108⟩ = [] := mkf rfl
@[simp] theorem fx455 : cf.fz ⟨127, 8, 127, 92⟩ = [] := mkf rfl
@[simp] theorem fx456 : cf.fz ⟨129, 8, 129, 83⟩ = [] := mkf rfl
@[simp] theorem fx457 : cf.fz ⟨131, 8, 131, 44⟩ = [] := mkf rfl
@[simp] theorem fx458 : cf.fz ⟨133, 8, 133, 20⟩ = [] := mkf rfl
@[simp] theorem fx459 : cf.fz ⟨124, 12, 124, 24⟩ = [] := mkf rfl
@[simp] theorem fx460 : ix ["found", "due", "mine", "theirs"] ".0" = none := mkf rfl
@[simp] theorem fx461 : cf.fz ⟨136, 4, 138, 29⟩ = [] := mkf rfl
@[simp] theorem fx462 : cf.fz ⟨139, 4, 140, 28⟩ = [] := mkf rfl
@[simp] theorem fx463 : cf.fz ⟨137, 8, 138, 29⟩ = [] := mkf rfl
@[simp] theorem fx464 : cf.fz ⟨140, 8, 140, 28⟩ = [] := mkf rfl
@[simp] theorem fx465 : cf.fz ⟨138, 12, 138, 29⟩ = [] := mkf rfl
@[simp] theorem fx466 : cf.fz ⟨142, 4, 143, 70⟩ = [] := mkf rfl
@[simp] theorem fx467 : cf.fz ⟨144, 4, 144, 93⟩ = [] := mkf rfl
@[simp] theorem fx468 : cf.own ⟨144, 4, 144, 93⟩ = false := mkf rfl
@[simp] theorem fx469 : cf.fz ⟨145, 4, 145, 60⟩ = [] := mkf rfl
@[simp] theorem fx470 : cf.fz ⟨143, 8, 143, 70⟩ = [] := mkf rfl
@[simp] theorem fx471 : ix ["thing", "some", "key", "one"] ".0" = none := mkf rfl
@[simp] theorem fx472 : cf.fz ⟨147, 4, 148, 20⟩ = [] := mkf rfl
@[simp] theorem fx473 : cf.fz ⟨149, 4, 149, 55⟩ = [] := mkf rfl
@[simp] theorem fx474 : cf.own ⟨149, 4, 149, 55⟩ = false := mkf rfl
@[simp] theorem fx475 : cf.fz ⟨150, 4, 150, 61⟩ = [] := mkf rfl
@[simp] theorem fx476 : cf.fz ⟨148, 8, 148, 20⟩ = [] := mkf rfl
@[simp] theorem fx477 : ix ["stream", "thing", "some", "part"] ".0" = none := mkf rfl
@[simp] theorem fx478 : cf.fz ⟨152, 4, 153, 82⟩ = [] := mkf rfl
@[simp] theorem fx479 : cf.fz ⟨154, 4, 154, 38⟩ = [] := mkf rfl
@[simp] theorem fx480 : cf.fz ⟨153, 8, 153, 82⟩ = [] := mkf rfl
@[simp] theorem fx481 : cf.fz ⟨156, 4, 171, 26⟩ = [] := mkf rfl
@[simp] theorem fx482 : cf.fz ⟨172, 4, 172, 21⟩ = [] := mkf rfl
@[simp] theorem fx483 : cf.fz ⟨157, 8, 157, 20⟩ = [] := mkf rfl
@[simp] theorem fx484 : cf.own ⟨157, 8, 157, 20⟩ = true := mkf rfl
@[simp] theorem fx485 : cf.fz ⟨158, 8, 160, 29⟩ = [] := mkf rfl
@[simp] theorem fx486 : cf.fz ⟨161, 8, 161, 83⟩ = [] := mkf rfl
@[simp] theorem fx487 : cf.own ⟨161, 8, 161, 83⟩ = false := mkf rfl
@[simp] theorem fx488 : cf.fz ⟨162, 8, 170, 27⟩ = [] := mkf rfl
@[simp] theorem fx489 : cf.fz ⟨171, 8, 171, 26⟩ = [3] := mkf rfl
@[simp] theorem fx490 : cf.own ⟨171, 8, 171, 26⟩ = false := mkf rfl
@[simp] theorem fx491 : cf.cell ⟨157, 16, 157, 20⟩ = false := mkf rfl
@[simp] theorem fx492 : cf.fz ⟨159, 12, 159, 51⟩ = [] := mkf rfl
@[simp] theorem fx493 : cf.own ⟨159, 12, 159, 51⟩ = false := mkf rfl
@[simp] theorem fx494 : cf.fz ⟨160, 12, 160, 29⟩ = [] := mkf rfl
@[simp] theorem fx495 : cf.fz ⟨163, 12, 163, 69⟩ = [] := mkf rfl
@[simp] theorem fx496 : cf.own ⟨163, 12, 163, 69⟩ = false := mkf rfl
@[simp] theorem fx497 : cf.fz ⟨164, 12, 164, 68⟩ = [] := mkf rfl
@[simp] theorem fx498 : cf.own ⟨164, 12, 164, 68⟩ = false := mkf rfl
@[simp] theorem fx499 : cf.fz ⟨165, 12, 165, 24⟩ = [] := mkf rfl
@[simp] theorem fx500 : cf.own ⟨165, 12, 165, 24⟩ = true := mkf rfl
@[simp] theorem fx501 : cf.fz ⟨166, 12, 169, 66⟩ = [] := mkf rfl
@[simp] theorem fx502 : cf.fz ⟨170, 12, 170, 27⟩ = [] := mkf rfl
@[simp] theorem fx503 : cf.own ⟨170, 12, 170, 27⟩ = true := mkf rfl
@[simp] theorem fx504 : ix ["book", "many", "kind", "found", "ins", "outs", "at", "one", "under", "over", "further", "table", "out", "k"] ".0" = none := mkf rfl
@[simp] theorem fx505 : cf.cell ⟨165, 22, 165, 24⟩ = false := mkf rfl
@[simp] theorem fx506 : cf.fz ⟨167, 16, 169, 66⟩ = [] := mkf rfl
@[simp] theorem fx507 : cf.cell ⟨159, 25, 159, 31⟩ = false := mkf rfl
@[simp] theorem fx508 : cf.fz ⟨168, 20, 169, 66⟩ = [] := mkf rfl
@[simp] theorem fx509 : cf.fz ⟨169, 24, 169, 66⟩ = [] := mkf rfl
@[simp] theorem fx510 : cf.cell ⟨169, 59, 169, 64⟩ = false := mkf rfl
@[simp] theorem fx511 : cf.fz ⟨174, 4, 174, 27⟩ = [] := mkf rfl
@[simp] theorem fx512 : cf.own ⟨174, 4, 174, 27⟩ = false := mkf rfl
@[simp] theorem fx513 : cf.fz ⟨175, 4, 175, 136⟩ = [] := mkf rfl
@[simp] theorem fx514 : cf.own ⟨175, 4, 175, 136⟩ = false := mkf rfl
@[simp] theorem fx515 : cf.fz ⟨176, 4, 176, 45⟩ = [] := mkf rfl
@[simp] theorem fx516 : cf.fz ⟨177, 4, 177, 72⟩ = [] := mkf rfl
@[simp] theorem fx517 : cf.own ⟨177, 4, 177, 72⟩ = false := mkf rfl
@[simp] theorem fx518 : cf.fz ⟨178, 4, 178, 31⟩ = [] := mkf rfl
@[simp] theorem fx519 : cf.own ⟨178, 4, 178, 31⟩ = false := mkf rfl
@[simp] theorem fx520 : cf.fz ⟨179, 4, 179, 41⟩ = [] := mkf rfl
@[simp] theorem fx521 : cf.cell ⟨175, 12, 175, 136⟩ = true := mkf rfl
@[simp] theorem fx522 : cf.cell ⟨177, 15, 177, 72⟩ = false := mkf rfl
@[simp] theorem fx523 : cf.cell ⟨178, 15, 178, 31⟩ = false := mkf rfl
@[simp] theorem fx524 : cf.cell ⟨175, 16, 175, 135⟩ = true := mkf rfl
@[simp] theorem fx525 : cf.fz ⟨181, 4, 181, 38⟩ = [] := mkf rfl
@[simp] theorem fx526 : cf.own ⟨181, 4, 181, 38⟩ = false := mkf rfl
@[simp] theorem fx527 : cf.fz ⟨182, 4, 182, 34⟩ = [] := mkf rfl
@[simp] theorem fx528 : cf.own ⟨182, 4, 182, 34⟩ = false := mkf rfl
@[simp] theorem fx529 : cf.fz ⟨183, 4, 183, 121⟩ = [] := mkf rfl
@[simp] theorem fx530 : cf.own ⟨183, 4, 183, 121⟩ = false := mkf rfl
@[simp] theorem fx531 : cf.fz ⟨184, 4, 184, 36⟩ = [] := mkf rfl
@[simp] theorem fx532 : cf.own ⟨184, 4, 184, 36⟩ = false := mkf rfl
@[simp] theorem fx533 : cf.fz ⟨185, 4, 185, 29⟩ = [] := mkf rfl
@[simp] theorem fx534 : cf.own ⟨185, 4, 185, 29⟩ = false := mkf rfl
@[simp] theorem fx535 : cf.fz ⟨186, 4, 186, 101⟩ = [] := mkf rfl
@[simp] theorem fx536 : cf.own ⟨186, 4, 186, 101⟩ = true := mkf rfl
@[simp] theorem fx537 : cf.fz ⟨187, 4, 187, 111⟩ = [] := mkf rfl
@[simp] theorem fx538 : cf.fz ⟨188, 4, 189, 20⟩ = [] := mkf rfl
@[simp] theorem fx539 : cf.fz ⟨190, 4, 190, 22⟩ = [] := mkf rfl
@[simp] theorem fx540 : cf.fz ⟨191, 4, 191, 62⟩ = [] := mkf rfl
@[simp] theorem fx541 : cf.own ⟨191, 4, 191, 62⟩ = true := mkf rfl
@[simp] theorem fx542 : cf.fz ⟨192, 4, 193, 20⟩ = [] := mkf rfl
@[simp] theorem fx543 : cf.fz ⟨194, 4, 194, 118⟩ = [] := mkf rfl
@[simp] theorem fx544 : cf.own ⟨194, 4, 194, 118⟩ = false := mkf rfl
@[simp] theorem fx545 : cf.fz ⟨195, 4, 195, 78⟩ = [] := mkf rfl
@[simp] theorem fx546 : cf.own ⟨195, 4, 195, 78⟩ = true := mkf rfl
@[simp] theorem fx547 : cf.fz ⟨196, 4, 197, 20⟩ = [] := mkf rfl
@[simp] theorem fx548 : cf.fz ⟨198, 4, 198, 22⟩ = [] := mkf rfl
@[simp] theorem fx549 : cf.fz ⟨199, 4, 199, 44⟩ = [] := mkf rfl
@[simp] theorem fx550 : cf.cell ⟨186, 12, 186, 101⟩ = false := mkf rfl
@[simp] theorem fx551 : cf.fz ⟨189, 8, 189, 20⟩ = [] := mkf rfl
@[simp] theorem fx552 : cf.cell ⟨191, 12, 191, 62⟩ = false := mkf rfl
@[simp] theorem fx553 : cf.fz ⟨193, 8, 193, 20⟩ = [] := mkf rfl
@[simp] theorem fx554 : ix ["stream", "book", "many", "kind", "every", "one", "upper", "lower", "handed", "was", "found", "ends", "some", "other"] ".0" = none := mkf rfl
@[simp] theorem fx555 : cf.cell ⟨195, 12, 195, 78⟩ = false := mkf rfl
@[simp] theorem fx556 : cf.fz ⟨197, 8, 197, 20⟩ = [] := mkf rfl
@[simp] theorem fx557 : cf.cell ⟨187, 17, 187, 110⟩ = false := mkf rfl
@[simp] theorem fx558 : cf.cell ⟨192, 28, 192, 42⟩ = false := mkf rfl
@[simp] theorem fx559 : cf.cell ⟨188, 28, 188, 56⟩ = false := mkf rfl
@[simp] theorem fx560 : cf.cell ⟨196, 28, 196, 40⟩ = false := mkf rfl
@[simp] theorem fx561 : cf.fz ⟨201, 4, 201, 64⟩ = [] := mkf rfl
@[simp] theorem fx562 : cf.own ⟨201, 4, 201, 64⟩ = false := mkf rfl
@[simp] theorem fx563 : cf.fz ⟨202, 4, 207, 24⟩ = [] := mkf rfl
@[simp] theorem fx564 : cf.fz ⟨208, 4, 208, 102⟩ = [] := mkf rfl
@[simp] theorem fx565 : cf.own ⟨208, 4, 208, 102⟩ = false := mkf rfl
@[simp] theorem fx566 : cf.fz ⟨209, 4, 209, 140⟩ = [] := mkf rfl
@[simp] theorem fx567 : cf.own ⟨209, 4, 209, 140⟩ = false := mkf rfl
@[simp] theorem fx568 : cf.fz ⟨210, 4, 210, 32⟩ = [] := mkf rfl
@[simp] theorem fx569 : cf.fz ⟨203, 8, 203, 39⟩ = [] := mkf rfl
@[simp] theorem fx570 : cf.own ⟨203, 8, 203, 39⟩ = false := mkf rfl
@[simp] theorem fx571 : cf.fz ⟨204, 8, 204, 40⟩ = [] := mkf rfl
@[simp] theorem fx572 : cf.own ⟨204, 8, 204, 40⟩ = false := mkf rfl
@[simp] theorem fx573 : cf.fz ⟨205, 8, 205, 78⟩ = [] := mkf rfl
@[simp] theorem fx574 : cf.own ⟨205, 8, 205, 78⟩ = false := mkf rfl
@[simp] theorem fx575 : cf.fz ⟨206, 8, 207, 24⟩ = [] := mkf rfl
@[simp] theorem fx576 : cf.cell ⟨208, 12, 208, 102⟩ = false := mkf rfl
@[simp] theorem fx577 : cf.cell ⟨209, 10, 209, 140⟩ = false := mkf rfl
@[simp] theorem fx578 : cf.cell ⟨201, 42, 201, 63⟩ = true := mkf rfl
@[simp] theorem fx579 : cf.fz ⟨207, 12, 207, 24⟩ = [] := mkf rfl
@[simp] theorem fx580 : cf.cell ⟨209, 11, 209, 17⟩ = false := mkf rfl
@[simp] theorem fx581 : cf.cell ⟨209, 19, 209, 37⟩ = false := mkf rfl
@[simp] theorem fx582 : cf.cell ⟨209, 39, 209, 58⟩ = false := mkf rfl
@[simp] theorem fx583 : cf.cell ⟨209, 60, 209, 139⟩ = false := mkf rfl
@[simp] theorem fx584 : cf.cell ⟨201, 46, 201, 48⟩ = true := mkf rfl
@[simp] theorem fx585 : cf.cell ⟨201, 53, 201, 55⟩ = true := mkf rfl
@[simp] theorem fx586 : cf.cell ⟨201, 60, 201, 62⟩ = true := mkf rfl
theorem op_is_list (d : Nat) (a0 : RV) (st : Sto) : callF cf defs (d + 1) "is_list" [a0] st = if anyBor [a0] then .err else (execL (execS cf (callF cf defs d) ["thing"] evN) (defBody (top 1)) [some a0] st).bind fun r st' => match r with | .ret v => exitR st.length v st' | .nxt _ => exitR st.length (.dat .none) st' | _ => .err := rfl
theorem op_is_whole (d : Nat) (a0 : RV) (st : Sto) : callF cf defs (d + 1) "is_whole" [a0] st = if anyBor [a0] then .err else (execL (execS cf (callF cf defs d) ["thing"] evN) (defBody (top 2)) [some a0] st).bind fun r st' => match r with | .ret v => exitR st.length v st' | .nxt _ => exitR st.length (.dat .none) st' | _ => .err := rfl
theorem op_is_number (d : Nat) (a0 : RV) (st : Sto) : callF cf defs (d + 1) "is_number" [a0] st = if anyBor [a0] then .err else (execL (execS cf (callF cf defs d) ["thing"] evN) (defBody (top 3)) [some a0] st).bind fun r st' => match r with | .ret v => exitR st.length v st' | .nxt _ => exitR st.length (.dat .none) st' | _ => .err := rfl
theorem op_is_row (d : Nat) (a0 a1 : RV) (st : Sto) : callF cf defs (d + 1) "is_row" [a0, a1] st = if anyBor [a0, a1] then .err else (execL (execS cf (callF cf defs d) ["thing", "many"] evN) (defBody (top 4)) [some a0, some a1] st).bind fun r st' => match r with | .ret v => exitR st.length v st' | .nxt _ => exitR st.length (.dat .none) st' | _ => .err := rfl
theorem op_as_tuples (d : Nat) (a0 : RV) (st : Sto) : callF cf defs (d + 1) "as_tuples" [a0] st = if anyBor [a0] then .err else (execL (execS cf (callF cf defs d) ["thing", "part"] evN) (defBody (top 5)) [some a0, none] st).bind fun r st' => match r with | .ret v => exitR st.length v st' | .nxt _ => exitR st.length (.dat .none) st' | _ => .err := rfl
theorem op_is_type (d : Nat) (a0 : RV) (st : Sto) : callF cf defs (d + 1) "is_type" [a0] st = if anyBor [a0] then .err else (execL (execS cf (callF cf defs d) ["thing", "part"] evN) (defBody (top 12)) [some a0, none] st).bind fun r st' => match r with | .ret v => exitR st.length v st' | .nxt _ => exitR st.length (.dat .none) st' | _ => .err := rfl
theorem op_kept_type (d : Nat) (a0 : RV) (st : Sto) : callF cf defs (d + 1) "kept_type" [a0] st = if anyBor [a0] then .err else (execL (execS cf (callF cf defs d) ["thing"] evN) (defBody (top 13)) [some a0] st).bind fun r st' => match r with | .ret v => exitR st.length v st' | .nxt _ => exitR st.length (.dat .none) st' | _ => .err := rfl
theorem op_need_type (d : Nat) (a0 : RV) (st : Sto) : callF cf defs (d + 1) "need_type" [a0] st = if anyBor [a0] then .err else (execL (execS cf (callF cf defs d) ["thing", "kept"] evN) (defBody (top 14)) [some a0, none] st).bind fun r st' => match r with | .ret v => exitR st.length v st' | .nxt _ => exitR st.length (.dat .none) st' | _ => .err := rfl
theorem op_is_many (d : Nat) (a0 : RV) (st : Sto) : callF cf defs (d + 1) "is_many" [a0] st = if anyBor [a0] then .err else (execL (execS cf (callF cf defs d) ["thing"] evN) (defBody (top 16)) [some a0] st).bind fun r st' => match r with | .ret v => exitR st.length v st' | .nxt _ => exitR st.length (.dat .none) st' | _ => .err := rfl
theorem op_check_many (d : Nat) (a0 : RV) (st : Sto) : callF cf defs (d + 1) "check_many" [a0] st = if anyBor [a0] then .err else (execL (execS cf (callF cf defs d) ["many"] evN) (defBody (top 17)) [some a0] st).bind fun r st' => match r with | .ret v => exitR st.length v st' | .nxt _ => exitR st.length (.dat .none) st' | _ => .err := rfl
theorem op_lies_below (d : Nat) (a0 a1 : RV) (st : Sto) : callF cf defs (d + 1) "lies_below" [a0, a1] st = if anyBor [a0, a1] then .err else (execL (execS cf (callF cf defs d) ["one", "other", "mine", "theirs"] evN) (defBody (top 19)) [some a0, some a1, none, none] st).bind fun r st' => match r with | .ret v => exitR st.length v st' | .nxt _ => exitR st.length (.dat .none) st' | _ => .err := rfl
theorem op_all_elements (d : Nat) (a0 a1 a2 : RV) (st : Sto) : callF cf defs (d + 1) "all_elements" [a0, a1, a2] st = if anyBor [a0, a1, a2] then .err else (execL (execS cf (callF cf defs d) ["many", "kind", "known"] evN) (defBody (top 20)) [some a0, some a1, some a2] st).bind fun r st' => match r with | .ret v => exitR st.length v st' | .nxt _ => exitR st.length (.dat .none) st' | _ => .err := rfl
theorem op_tables_between (d : Nat) (a0 a1 : RV) (st : Sto) : callF cf defs (d + 1) "tables_between" [a0, a1] st = if anyBor [a0, a1] then .err else (execL (execS cf (callF cf defs d) ["lower", "upper", "under", "found", "index", "longer", "some", "one", "place"] evN) (defBody (top 21)) [some a0, some a1, none, none, none, none, none, none, none] st).bind fun r st' => match r with | .ret v => exitR st.length v st' | .nxt _ => exitR st.length (.dat .none) st' | _ => .err := rfl
theorem op_places_of (d : Nat) (a0 a1 a2 : RV) (st : Sto) : callF cf defs (d + 1) "places_of" [a0, a1, a2] st = if anyBor [a0, a1, a2] then .err else (execL (execS cf (callF cf defs d) ["many", "kind", "known", "place", "one"] evN) (defBody (top 22)) [some a0, some a1, some a2, none, none] st).bind fun r st' => match r with | .ret v => exitR st.length v st' | .nxt _ => exitR st.length (.dat .none) st' | _ => .err := rfl
theorem op_kept_element (d : Nat) (a0 a1 a2 a3 : RV) (st : Sto) : callF cf defs (d + 1) "kept_element" [a0, a1, a2, a3] st = if anyBor [a0, a1, a2, a3] then .err else (execL (execS cf (callF cf defs d) ["many", "kind", "thing", "known", "parts", "found", "part"] evN) (defBody (top 23)) [some a0, some a1, some a2, some a3, none, none, none] st).bind fun r st' => match r with | .ret v => exitR st.length v st' | .nxt _ => exitR st.length (.dat .none) st' | _ => .err := rfl
theorem op_need_element (d : Nat) (a0 a1 a2 a3 : RV) (st : Sto) : callF cf defs (d + 1) "need_element" [a0, a1, a2, a3] st = if anyBor [a0, a1, a2, a3] then .err else (execL (execS cf (callF cf defs d) ["many", "kind", "thing", "known", "found"] evN) (defBody (top 24)) [some a0, some a1, some a2, some a3, none] st).bind fun r st' => match r with | .ret v => exitR st.length v st' | .nxt _ => exitR st.length (.dat .none) st' | _ => .err := rfl
theorem op_above (d : Nat) (a0 a1 a2 : RV) (st : Sto) : callF cf defs (d + 1) "above" [a0, a1, a2] st = if anyBor [a0, a1, a2] then .err else (execL (execS cf (callF cf defs d) ["many", "kind", "element", "kept", "known", "one"] evN) (defBody (top 26)) [some a0, some a1, some a2, none, none, none] st).bind fun r st' => match r with | .ret v => exitR st.length v st' | .nxt _ => exitR st.length (.dat .none) st' | _ => .err := rfl
theorem op_beneath (d : Nat) (a0 a1 a2 : RV) (st : Sto) : callF cf defs (d + 1) "beneath" [a0, a1, a2] st = if anyBor [a0, a1, a2] then .err else (execL (execS cf (callF cf defs d) ["many", "kind", "element", "kept", "known", "one"] evN) (defBody (top 27)) [some a0, some a1, some a2, none, none, none] st).bind fun r st' => match r with | .ret v => exitR st.length v st' | .nxt _ => exitR st.length (.dat .none) st' | _ => .err := rfl
theorem op_tops (d : Nat) (a0 a1 : RV) (st : Sto) : callF cf defs (d + 1) "tops" [a0, a1] st = if anyBor [a0, a1] then .err else (execL (execS cf (callF cf defs d) ["many", "kind", "every", "found", "one", "other"] evN) (defBody (top 28)) [some a0, some a1, none, none, none, none] st).bind fun r st' => match r with | .ret v => exitR st.length v st' | .nxt _ => exitR st.length (.dat .none) st' | _ => .err := rfl
theorem op__law_stream (d : Nat) (a0 : RV) (st : Sto) : callF cf defs (d + 1) "_law_stream" [a0] st = if anyBor [a0] then .err else (execL (execS cf (callF cf defs d) ["script"] evN) (defBody (top 30)) [some a0] st).bind fun r st' => match r with | .ret v => exitR st.length v st' | .nxt _ => exitR st.length (.dat .none) st' | _ => .err := rfl
theorem op__law_draw (d : Nat) (a0 a1 : RV) (st : Sto) : callF cf defs (d + 1) "_law_draw" [a0, a1] st = if anyBor [a0, a1] then .err else (execL (execS cf (callF cf defs d) ["stream", "many", "cell", "digit", "mixed"] evN) (defBody (top 31)) [some a0, some a1, none, none, none] st).bind fun r st' => match r with | .ret v => exitR st.length v st' | .nxt _ => exitR st.length (.dat .none) st' | _ => .err := rfl
theorem op__law_pick (d : Nat) (a0 a1 : RV) (st : Sto) : callF cf defs (d + 1) "_law_pick" [a0, a1] st = if anyBor [a0, a1] then .err else (execL (execS cf (callF cf defs d) ["stream", "things"] evN) (defBody (top 32)) [some a0, some a1] st).bind fun r st' => match r with | .ret v => exitR st.length v st' | .nxt _ => exitR st.length (.dat .none) st' | _ => .err := rfl
theorem op__law_same (d : Nat) (a0 a1 : RV) (st : Sto) : callF cf defs (d + 1) "_law_same" [a0, a1] st = if anyBor [a0, a1] then .err else (execL (execS cf (callF cf defs d) ["found", "due", "mine", "theirs"] evN) (defBody (top 33)) [some a0, some a1, none, none] st).bind fun r st' => match r with | .ret v => exitR st.length v st' | .nxt _ => exitR st.length (.dat .none) st' | _ => .err := rfl
theorem op__law_spoilt (d : Nat) (a0 : RV) (st : Sto) : callF cf defs (d + 1) "_law_spoilt" [a0] st = if anyBor [a0] then .err else (execL (execS cf (callF cf defs d) ["thing", "part"] evN) (defBody (top 34)) [some a0, none] st).bind fun r st' => match r with | .ret v => exitR st.length v st' | .nxt _ => exitR st.length (.dat .none) st' | _ => .err := rfl
theorem op__law_copied (d : Nat) (a0 : RV) (st : Sto) : callF cf defs (d + 1) "_law_copied" [a0] st = if anyBor [a0] then .err else (execL (execS cf (callF cf defs d) ["thing", "some", "key", "one"] evN) (defBody (top 35)) [some a0, none, none, none] st).bind fun r st' => match r with | .ret v => exitR st.length v st' | .nxt _ => exitR st.length (.dat .none) st' | _ => .err := rfl
theorem op__law_loose (d : Nat) (a0 a1 : RV) (st : Sto) : callF cf defs (d + 1) "_law_loose" [a0, a1] st = if anyBor [a0, a1] then .err else (execL (execS cf (callF cf defs d) ["stream", "thing", "some", "part"] evN) (defBody (top 36)) [some a0, some a1, none, none] st).bind fun r st' => match r with | .ret v => exitR st.length v st' | .nxt _ => exitR st.length (.dat .none) st' | _ => .err := rfl
theorem op__law_below (d : Nat) (a0 a1 : RV) (st : Sto) : callF cf defs (d + 1) "_law_below" [a0, a1] st = if anyBor [a0, a1] then .err else (execL (execS cf (callF cf defs d) ["one", "other", "mine", "theirs"] evN) (defBody (top 37)) [some a0, some a1, none, none] st).bind fun r st' => match r with | .ret v => exitR st.length v st' | .nxt _ => exitR st.length (.dat .none) st' | _ => .err := rfl
theorem op__law_all (d : Nat) (a0 a1 a2 : RV) (st : Sto) : callF cf defs (d + 1) "_law_all" [a0, a1, a2] st = if anyBor [a0, a1, a2] then .err else (execL (execS cf (callF cf defs d) ["book", "many", "kind", "found", "ins", "outs", "at", "one", "under", "over", "further", "table", "out", "k"] evN) (defBody (top 38)) [some a0, some a1, some a2, none, none, none, none, none, none, none, none, none, none, none] st).bind fun r st' => match r with | .ret v => exitR st.length v st' | .nxt _ => exitR st.length (.dat .none) st' | _ => .err := rfl
theorem op__law_w_kind (d : Nat) (a0 a1 : RV) (st : Sto) : callF cf defs (d + 1) "_law_w_kind" [a0, a1] st = if anyBor [a0, a1] then .err else (execL (execS cf (callF cf defs d) ["stream", "many", "base", "one", "kinds"] evN) (defBody (top 39)) [some a0, some a1, none, none, none] st).bind fun r st' => match r with | .ret v => exitR st.length v st' | .nxt _ => exitR st.length (.dat .none) st' | _ => .err := rfl
theorem op__law_element_right (d : Nat) (a0 a1 a2 a3 : RV) (st : Sto) : callF cf defs (d + 1) "_law_element_right" [a0, a1, a2, a3] st = if anyBor [a0, a1, a2, a3] then .err else (execL (execS cf (callF cf defs d) ["stream", "book", "many", "kind", "every", "one", "upper", "lower", "handed", "was", "found", "ends", "some", "other"] evN) (defBody (top 40)) [some a0, some a1, some a2, some a3, none, none, none, none, none, none, none, none, none, none] st).bind fun r st' => match r with | .ret v => exitR st.length v st' | .nxt _ => exitR st.length (.dat .none) st' | _ => .err := rfl
theorem op_law (d : Nat) (a0 : RV) (st : Sto) : callF cf defs (d + 1) "law" [a0] st = if anyBor [a0] then .err else (execL (execS cf (callF cf defs d) ["script", "stream", "books", "turn", "many", "kind", "found", "due"] evN) (defBody (top 41)) [some a0, none, none, none, none, none, none, none] st).bind fun r st' => match r with | .ret v => exitR st.length v st' | .nxt _ => exitR st.length (.dat .none) st' | _ => .err := rfl
end T

namespace T
open PySem Z L2
/-! ### small defs -/
def isL : PyData → Bool
  | .list _ => true
  | .tuple _ => true
  | _ => false
def isW : PyData → Bool
  | .int _ => true
  | _ => false
@[simp] theorem ex_dat (n : Nat) (v : PyData) (st : Sto) : exitR n (.dat v) st = .ok (.dat v) (st.take n) := rfl
@[simp] theorem take_len (st : Sto) : st.take st.length = st := List.take_length
@[simp] theorem is_list_ok (d : Nat) (x : PyData) (st : Sto) : callF cf defs (d + 1) "is_list" [.dat x] st = .ok (.dat (.bool (isL x))) st := by
  rw [op_is_list]
  have eB : defBody (top 1) = defBody (top 1) := rfl
  conv at eB => rhs; whnf
  rw [eB]
  clear eB
  cases x <;> simp [evN, isL] <;> (try simp only [b_out])
@[simp] theorem is_whole_ok (d : Nat) (x : PyData) (st : Sto) : callF cf defs (d + 1) "is_whole" [.dat x] st = .ok (.dat (.bool (isW x))) st := by
  rw [op_is_whole]
  have eB : defBody (top 2) = defBody (top 2) := rfl
  conv at eB => rhs; whnf
  rw [eB]
  clear eB
  cases x <;> simp [evN, isW] <;> (try simp only [b_out])
@[simp] theorem is_many_ok (d : Nat) (m : Int) (st : Sto) : callF cf defs (d + 2) "is_many" [.dat (.int m)] st = .ok (.dat (.bool (decide (1 ≤ m) && decide (m ≤ 3)))) st := by
  rw [op_is_many]
  have eB : defBody (top 16) = defBody (top 16) := rfl
  conv at eB => rhs; whnf
  rw [eB]
  clear eB
  simp [evN, isW] <;> (try simp only [b_out])
  by_cases h : 1 ≤ m <;> simp [h]
theorem check_many_ok (d : Nat) (m : Int) (st : Sto) (h1 : 1 ≤ m) (h2 : m ≤ 3) : callF cf defs (d + 3) "check_many" [.dat (.int m)] st = .ok (.dat .none) st := by
  rw [op_check_many]
  have eB : defBody (top 17) = defBody (top 17) := rfl
  conv at eB => rhs; whnf
  rw [eB]
  clear eB
  simp [evN, h1, h2] <;> (try simp only [b_out])
/-- data of lists, tuples, at most so deep, not too long, without dicts -/
def tr : Nat → PyData → Bool
  | 0, _ => false
  | n + 1, x => match x with
    | .list xs => decide (xs.length ≤ lim) && xs.all (tr n)
    | .tuple xs => decide (xs.length ≤ lim) && xs.all (tr n)
    | .dict _ => false
    | _ => true
/-- tuples for lists -/
def asT : Nat → PyData → PyData
  | 0, x => x
  | n + 1, x => match x with
    | .list xs => .tuple (xs.map (asT n))
    | .tuple xs => .tuple (xs.map (asT n))
    | x => x
theorem as_tuples_ok : ∀ (n d : Nat) (x : PyData) (st : Sto), tr n x = true → callF cf defs (d + n + 1) "as_tuples" [.dat x] st = .ok (.dat (asT n x)) st
  | 0, d, x, st, h => by cases h
  | n + 1, d, x, st, h => by
    have IH : ∀ y st, tr n y = true → callF cf defs (d + n + 1) "as_tuples" [.dat y] st = .ok (.dat (asT n y)) st := fun y st hy => as_tuples_ok n d y st hy
    show callF cf defs ((d + n + 1) + 1) "as_tuples" [.dat x] st = _
    have go : ∀ xs : List PyData, (decide (xs.length ≤ lim) && xs.all (tr n)) = true → xs.length ≤ lim ∧ ∀ y ∈ xs, tr n y = true := fun xs h => by simpa using h
    cases x with
    | list xs =>
      obtain ⟨h1, h2⟩ := go xs h
      rw [op_as_tuples]
      have eB : defBody (top 5) = defBody (top 5) := rfl
      conv at eB => rhs; whnf
      rw [eB]
      clear eB
      simp [evN, isL] <;> (try simp only [b_out])
      rw [lc_dat (g := asT n) fun y m => by simp [lc_cons, lc_nil, IH y st (h2 y m)]]
      simp [h1, asT]
    | tuple xs =>
      obtain ⟨h1, h2⟩ := go xs h
      rw [op_as_tuples]
      have eB : defBody (top 5) = defBody (top 5) := rfl
      conv at eB => rhs; whnf
      rw [eB]
      clear eB
      simp [evN, isL] <;> (try simp only [b_out])
      rw [lc_dat (g := asT n) fun y m => by simp [lc_cons, lc_nil, IH y st (h2 y m)]]
      simp [h1, asT]
    | dict => cases h
    | _ =>
      rw [op_as_tuples]
      have eB : defBody (top 5) = defBody (top 5) := rfl
      conv at eB => rhs; whnf
      rw [eB]
      clear eB
      simp [evN, isL, asT] <;> (try simp only [b_out])
end T

namespace T
open PySem Z L2
/-! ### types -/
theorem tr_go {n : Nat} {xs : List PyData} (h : (decide (xs.length ≤ lim) && xs.all (tr n)) = true) : xs.length ≤ lim ∧ ∀ y ∈ xs, tr n y = true := by simpa using h
/-- is it a type -/
def isTy : Nat → PyData → Bool
  | 0, _ => false
  | n + 1, x => match x with
    | .list xs => xs.all (isTy n)
    | .tuple xs => xs.all (isTy n)
    | _ => false
theorem is_type_ok : ∀ (n d : Nat) (x : PyData) (st : Sto), tr n x = true → callF cf defs (d + n + 1) "is_type" [.dat x] st = .ok (.dat (.bool (isTy n x))) st
  | 0, d, x, st, h => by cases h
  | n + 1, d, x, st, h => by
    have IH : ∀ y st, tr n y = true → callF cf defs (d + n + 1) "is_type" [.dat y] st = .ok (.dat (.bool (isTy n y))) st := fun y st hy => is_type_ok n d y st hy
    show callF cf defs ((d + n + 1) + 1) "is_type" [.dat x] st = _
    cases x with
    | list xs =>
      obtain ⟨h1, h2⟩ := tr_go (xs := xs) h
      rw [op_is_type]
      have eB : defBody (top 12) = defBody (top 12) := rfl
      conv at eB => rhs; whnf
      rw [eB]
      clear eB
      simp [evN, isL] <;> (try simp only [b_out])
      rw [lc_dat (g := fun y => .bool (isTy n y)) fun y m => by simp [lc_cons, lc_nil, IH y st (h2 y m)]]
      simp [h1, isTy]
    | tuple xs =>
      obtain ⟨h1, h2⟩ := tr_go (xs := xs) h
      rw [op_is_type]
      have eB : defBody (top 12) = defBody (top 12) := rfl
      conv at eB => rhs; whnf
      rw [eB]
      clear eB
      simp [evN, isL] <;> (try simp only [b_out])
      rw [lc_dat (g := fun y => .bool (isTy n y)) fun y m => by simp [lc_cons, lc_nil, IH y st (h2 y m)]]
      simp [h1, isTy]
    | dict => cases h
    | _ =>
      rw [op_is_type]
      have eB : defBody (top 12) = defBody (top 12) := rfl
      conv at eB => rhs; whnf
      rw [eB]
      clear eB
      simp [evN, isL, isTy] <;> (try simp only [b_out])
theorem kept_type_ok (n d : Nat) (x : PyData) (st : Sto) (h : tr n x = true) (ht : isTy n x = true) : callF cf defs (d + n + 2) "kept_type" [.dat x] st = .ok (.dat (asT n x)) st := by
  rw [op_kept_type]
  have eB : defBody (top 13) = defBody (top 13) := rfl
  conv at eB => rhs; whnf
  rw [eB]
  clear eB
  simp [evN, is_type_ok n d x _ h, as_tuples_ok n d x _ h, ht] <;> (try simp only [b_out])
theorem asT_ne {n : Nat} {x : PyData} (ht : isTy n x = true) : ∃ xs, asT n x = .tuple xs := by
  cases n with
  | zero => cases ht
  | succ n => cases x <;> first | exact ⟨_, rfl⟩ | cases ht
theorem need_type_ok (n d : Nat) (x : PyData) (st : Sto) (h : tr n x = true) (ht : isTy n x = true) : callF cf defs (d + n + 3) "need_type" [.dat x] st = .ok (.dat (asT n x)) st := by
  obtain ⟨xs, e⟩ := asT_ne ht
  rw [op_need_type]
  have eB : defBody (top 14) = defBody (top 14) := rfl
  conv at eB => rhs; whnf
  rw [eB]
  clear eB
  simp [evN, kept_type_ok n d x _ h ht, e] <;> (try simp only [b_out])
/-! ### below -/
/-- is it below -/
def bel : Nat → PyData → PyData → Bool
  | 0, _, _ => true
  | n + 1, a, b => match a, b with
    | .tuple xs, .tuple ys => (xs.zip ys).all fun p => bel n p.1 p.2
    | .none, _ => true
    | a, b => PyData.eqv a b
/-- of one shape -/
def shp : Nat → PyData → PyData → Bool
  | 0, _, _ => false
  | n + 1, a, b => match a, b with
    | .tuple xs, .tuple ys => decide (xs.length ≤ lim) && (xs.zip ys).all fun p => shp n p.1 p.2
    | .none, .none => true
    | .none, .int _ => true
    | .int _, .none => true
    | .int _, .int _ => true
    | _, _ => false
theorem below_ok : ∀ (n d : Nat) (a b : PyData) (st : Sto), shp n a b = true → callF cf defs (d + n + 1) "_law_below" [.dat a, .dat b] st = .ok (.dat (.bool (bel n a b))) st
  | 0, d, a, b, st, h => by cases h
  | n + 1, d, a, b, st, h => by
    have IH : ∀ a b st, shp n a b = true → callF cf defs (d + n + 1) "_law_below" [.dat a, .dat b] st = .ok (.dat (.bool (bel n a b))) st := fun a b st h => below_ok n d a b st h
    show callF cf defs ((d + n + 1) + 1) "_law_below" [.dat a, .dat b] st = _
    have flat : ∀ {a b : PyData}, (a = .none ∨ ∃ i, a = .int i) → (b = .none ∨ ∃ i, b = .int i) → callF cf defs ((d + n + 1) + 1) "_law_below" [.dat a, .dat b] st = .ok (.dat (.bool (bel (n + 1) a b))) st := fun {a b} ha hb => by
      rw [op__law_below]
      have eB : defBody (top 37) = defBody (top 37) := rfl
      conv at eB => rhs; whnf
      rw [eB]
      clear eB
      rcases ha with rfl | ⟨i, rfl⟩ <;> rcases hb with rfl | ⟨j, rfl⟩ <;> simp [evN, bel, PyData.eqv] <;> (try simp only [b_out])
    cases a with
    | tuple xs =>
      cases b with
      | tuple ys =>
        have h' : (decide (xs.length ≤ lim) && (xs.zip ys).all fun p => shp n p.1 p.2) = true := h
        obtain ⟨h1, h2⟩ := and2 h'
        have h1 := of_decide_eq_true h1
        have h3 : (xs.zip ys).length ≤ lim := by rw [List.length_zip]; omega
        rw [op__law_below]
        have eB : defBody (top 37) = defBody (top 37) := rfl
        conv at eB => rhs; whnf
        rw [eB]
        clear eB
        simp [evN] <;> (try simp only [b_out])
        rw [lc_zip (g := fun a b => .bool (bel n a b)) fun p m => by simp [lc_cons, lc_nil, IH p.1 p.2 st (List.all_eq_true.mp h2 p m)]]
        simp at h3
        simp [h3, bel]
      | _ => cases h
    | none => cases b <;> first | exact flat (.inl rfl) (.inl rfl) | exact flat (.inl rfl) (.inr ⟨_, rfl⟩) | cases h
    | int i => cases b <;> first | exact flat (.inr ⟨_, rfl⟩) (.inl rfl) | exact flat (.inr ⟨_, rfl⟩) (.inr ⟨_, rfl⟩) | cases h
    | _ => cases b <;> cases h
theorem lies_ok : ∀ (n d : Nat) (a b : PyData) (st : Sto), shp n a b = true → callF cf defs (d + n + 1) "lies_below" [.dat a, .dat b] st = .ok (.dat (.bool (bel n a b))) st
  | 0, d, a, b, st, h => by cases h
  | n + 1, d, a, b, st, h => by
    have IH : ∀ a b st, shp n a b = true → callF cf defs (d + n + 1) "lies_below" [.dat a, .dat b] st = .ok (.dat (.bool (bel n a b))) st := fun a b st h => lies_ok n d a b st h
    show callF cf defs ((d + n + 1) + 1) "lies_below" [.dat a, .dat b] st = _
    have flat : ∀ {a b : PyData}, (a = .none ∨ ∃ i, a = .int i) → (b = .none ∨ ∃ i, b = .int i) → callF cf defs ((d + n + 1) + 1) "lies_below" [.dat a, .dat b] st = .ok (.dat (.bool (bel (n + 1) a b))) st := fun {a b} ha hb => by
      rw [op_lies_below]
      have eB : defBody (top 19) = defBody (top 19) := rfl
      conv at eB => rhs; whnf
      rw [eB]
      clear eB
      rcases ha with rfl | ⟨i, rfl⟩ <;> rcases hb with rfl | ⟨j, rfl⟩ <;> simp [evN, bel, PyData.eqv] <;> (try simp only [b_out])
    cases a with
    | tuple xs =>
      cases b with
      | tuple ys =>
        have h' : (decide (xs.length ≤ lim) && (xs.zip ys).all fun p => shp n p.1 p.2) = true := h
        obtain ⟨h1, h2⟩ := and2 h'
        have h1 := of_decide_eq_true h1
        have h3 : (xs.zip ys).length ≤ lim := by rw [List.length_zip]; omega
        rw [op_lies_below]
        have eB : defBody (top 19) = defBody (top 19) := rfl
        conv at eB => rhs; whnf
        rw [eB]
        clear eB
        simp [evN] <;> (try simp only [b_out])
        rw [lc_zip (g := fun a b => .bool (bel n a b)) fun p m => by simp [lc_cons, lc_nil, IH p.1 p.2 st (List.all_eq_true.mp h2 p m)]]
        simp at h3
        simp [h3, bel]
      | _ => cases h
    | none => cases b <;> first | exact flat (.inl rfl) (.inl rfl) | exact flat (.inl rfl) (.inr ⟨_, rfl⟩) | cases h
    | int i => cases b <;> first | exact flat (.inr ⟨_, rfl⟩) (.inl rfl) | exact flat (.inr ⟨_, rfl⟩) (.inr ⟨_, rfl⟩) | cases h
    | _ => cases b <;> cases h
end T

namespace T
open PySem Z L2
/-! ### the same -/
theorem all_id (xs : List PyData) (f : PyData → PyData → Bool) (h : ∀ x ∈ xs, f x x = true) : ((xs.zip xs).all fun p => f p.1 p.2) = true := by
  rw [List.all_eq_true]
  intro p m
  have : p.1 = p.2 ∧ p.1 ∈ xs := by
    clear h
    induction xs with
    | nil => cases m
    | cons a xs ih =>
      rw [List.zip_cons_cons] at m
      rcases List.mem_cons.mp m with rfl | m
      · exact ⟨rfl, List.mem_cons_self⟩
      · exact ⟨(ih m).1, List.mem_cons_of_mem _ (ih m).2⟩
  rw [← this.1]
  exact h _ this.2
theorem zip_mem {xs : List PyData} {p : PyData × PyData} (m : p ∈ xs.zip xs) : p.1 = p.2 ∧ p.1 ∈ xs := by
  induction xs with
  | nil => cases m
  | cons a xs ih =>
    rw [List.zip_cons_cons] at m
    rcases List.mem_cons.mp m with rfl | m
    · exact ⟨rfl, List.mem_cons_self⟩
    · exact ⟨(ih m).1, List.mem_cons_of_mem _ (ih m).2⟩
theorem same_ok : ∀ (n d : Nat) (x : PyData) (st : Sto), tr n x = true → callF cf defs (d + n + 1) "_law_same" [.dat x, .dat x] st = .ok (.dat (.bool true)) st
  | 0, d, x, st, h => by cases h
  | n + 1, d, x, st, h => by
    have IH : ∀ y st, tr n y = true → callF cf defs (d + n + 1) "_law_same" [.dat y, .dat y] st = .ok (.dat (.bool true)) st := fun y st hy => same_ok n d y st hy
    show callF cf defs ((d + n + 1) + 1) "_law_same" [.dat x, .dat x] st = _
    have hz : ∀ {xs : List PyData}, xs.length ≤ lim → (xs.zip xs).length ≤ lim := fun {xs} h => by rw [List.length_zip]; omega
    cases x with
    | list xs =>
      obtain ⟨h1, h2⟩ := tr_go (xs := xs) h
      have h3 := hz h1
      rw [op__law_same]
      have eB : defBody (top 33) = defBody (top 33) := rfl
      conv at eB => rhs; whnf
      rw [eB]
      clear eB
      simp [evN] <;> (try simp only [b_out])
      rw [lc_zip (g := fun a b => .bool true) fun p m => by
        obtain ⟨e1, e2⟩ := zip_mem m
        have := IH p.1 st (h2 _ e2)
        simp [lc_cons, lc_nil, ← e1, this]]
      simp at h3
      simp [h3]
    | tuple xs =>
      obtain ⟨h1, h2⟩ := tr_go (xs := xs) h
      have h3 := hz h1
      rw [op__law_same]
      have eB : defBody (top 33) = defBody (top 33) := rfl
      conv at eB => rhs; whnf
      rw [eB]
      clear eB
      simp [evN] <;> (try simp only [b_out])
      rw [lc_zip (g := fun a b => .bool true) fun p m => by
        obtain ⟨e1, e2⟩ := zip_mem m
        have := IH p.1 st (h2 _ e2)
        simp [lc_cons, lc_nil, ← e1, this]]
      simp at h3
      simp [h3]
    | dict => cases h
    | none =>
      rw [op__law_same]
      have eB : defBody (top 33) = defBody (top 33) := rfl
      conv at eB => rhs; whnf
      rw [eB]
      clear eB
      simp [evN] <;> (try simp only [b_out])
    | bool b =>
      rw [op__law_same]
      have eB : defBody (top 33) = defBody (top 33) := rfl
      conv at eB => rhs; whnf
      rw [eB]
      clear eB
      simp [evN] <;> (try simp only [b_out])
    | int i =>
      rw [op__law_same]
      have eB : defBody (top 33) = defBody (top 33) := rfl
      conv at eB => rhs; whnf
      rw [eB]
      clear eB
      simp [evN] <;> (try simp only [b_out])
    | str s =>
      rw [op__law_same]
      have eB : defBody (top 33) = defBody (top 33) := rfl
      conv at eB => rhs; whnf
      rw [eB]
      clear eB
      simp [evN, eqD, eqok, PyData.eqv] <;> (try simp only [b_out])
end T

namespace T
open PySem Z L2
/-! ### copied -/
theorem copied_ok : ∀ (n d : Nat) (x : PyData) (st : Sto), tr n x = true → callF cf defs (d + n + 1) "_law_copied" [.dat x] st = .ok (.dat x) st
  | 0, d, x, st, h => by cases h
  | n + 1, d, x, st, h => by
    have IH : ∀ y st, tr n y = true → callF cf defs (d + n + 1) "_law_copied" [.dat y] st = .ok (.dat y) st := fun y st hy => copied_ok n d y st hy
    show callF cf defs ((d + n + 1) + 1) "_law_copied" [.dat x] st = _
    cases x with
    | list xs =>
      obtain ⟨h1, h2⟩ := tr_go (xs := xs) h
      rw [op__law_copied]
      have eB : defBody (top 35) = defBody (top 35) := rfl
      conv at eB => rhs; whnf
      rw [eB]
      clear eB
      simp [evN, bi_assoc] <;> (try simp only [b_out])
      rw [lc_dat (g := fun y => y) fun y m => by simp [lc_cons, lc_nil, IH y st (h2 y m)]]
      simp [h1]
    | tuple xs =>
      obtain ⟨h1, h2⟩ := tr_go (xs := xs) h
      rw [op__law_copied]
      have eB : defBody (top 35) = defBody (top 35) := rfl
      conv at eB => rhs; whnf
      rw [eB]
      clear eB
      simp [evN, bi_assoc] <;> (try simp only [b_out])
      rw [lc_dat (g := fun y => y) fun y m => by simp [lc_cons, lc_nil, IH y st (h2 y m)]]
      simp [h1]
    | dict => cases h
    | _ =>
      rw [op__law_copied]
      have eB : defBody (top 35) = defBody (top 35) := rfl
      conv at eB => rhs; whnf
      rw [eB]
      clear eB
      simp [evN] <;> (try simp only [b_out])
/-! ### the stream -/
structure SI (ns : List Int) (a b c : Int) : Prop where
  a0 : 0 ≤ a
  b0 : 0 ≤ b
  b1 : b < 100000000000000
  c0 : 0 ≤ c
  c1 : c < 2147483647
  n : ns.length ≤ 63
theorem pow_nn (x : Int) (h : 0 ≤ x) (k : Nat) : 0 ≤ x ^ k := by
  induction k with
  | zero => simp
  | succ k ih => rw [Int.pow_succ]; exact Int.mul_nonneg ih h
/-- what the draw answers, by the state behind the while -/
def drawV (a b c m : Int) : Int := if 0 < a then a % m else (((c + 7919 * b + 104729) ^ 5 % 2147483629 * 48271 + 30011 * b + 29) ^ 3 % 1000000007) % m
theorem drawV_ok (a b c m : Int) (h0 : 0 ≤ c) (hm : 1 ≤ m) : 0 ≤ drawV a b c m ∧ drawV a b c m < m := by
  unfold drawV
  split
  · exact ⟨Int.emod_nonneg _ (by omega), Int.emod_lt_of_pos _ (by omega)⟩
  · exact ⟨Int.emod_nonneg _ (by omega), Int.emod_lt_of_pos _ (by omega)⟩
theorem turns_ok : cf.turns = 100000 := mkf rfl
theorem draw_ok (d : Nat) (ns : List Int) (a b c m : Int) (rest : Sto) (h : SI ns a b c) (hb : b + 1 < 100000000000000) (hm : 1 ≤ m) (hm2 : m ≤ 1000000) : ∃ v ns' a' c', callF cf defs (d + 1) "_law_draw" [.ref 1, .dat (.int m)] (sst ns a b c rest) = .ok (.dat (.int v)) (sst ns' a' (b + 1) c' rest) ∧ 0 ≤ v ∧ v < m ∧ SI ns' a' (b + 1) c' := by
  rw [op__law_draw]
  have eB : defBody (top 31) = defBody (top 31) := rfl
  conv at eB => rhs; whnf
  rw [eB]
  clear eB
  simp [evN, bi_assoc] <;> (try simp only [b_out])
  have hl : m.natAbs.log2 < 9000 := by
    have := log_small (n := m.natAbs) (k := 20) (by omega)
    omega
  refine wh_rw (γ := List Int × Int × Int × Option RV) (env0 := fun s => [some (.ref 1), some (.dat (.int m)), s.2.2.2, none, none]) (S := fun s => sst s.1 s.2.1 (b + 1) s.2.2.1 rest) (I := fun s => SI s.1 s.2.1 (b + 1) s.2.2.1) (μ := fun s => s.1.length) (goal := fun r => ∃ v ns' a' c', r = R.ok (RV.dat (.int v)) (sst ns' a' (b + 1) c' rest) ∧ 0 ≤ v ∧ v < m ∧ SI ns' a' (b + 1) c') ?step ?fin cf.turns (ns, a, c, none) ⟨h.a0, by have := h.b0; omega, hb, h.c0, h.c1, h.n⟩ (by rw [turns_ok]; have := h.n; dsimp only; omega)
  · intro s hs
    obtain ⟨xs, a, c, o⟩ := s
    have hc0 : 0 ≤ c := hs.c0
    have hc1 : c < 2147483647 := hs.c1
    have hn : xs.length ≤ 63 := hs.n
    by_cases ha : a = 0
    · cases xs with
      | nil =>
        left
        have := eqd_ints []
        simp at this
        simp [evN, bi_assoc, ha, this] <;> (try simp only [b_out])
      | cons x xs =>
        right
        have e1 := eqd_ints (x :: xs)
        simp at e1
        have e2 : mulOk c 8191 = true := mul_small (by omega) (by decide)
        have hx : 0 ≤ (if x < 0 then -x else x) := by split <;> omega
        refine ⟨(xs, if 10 ^ 18 ≤ (if x < 0 then -x else x) then (if x < 0 then -x else x) else 0, (c * 8191 + (if x < 0 then -x else x) + 3) % 2147483647, some (.dat (.int (if x < 0 then -x else x)))), ?_, ?_, ?_, ?_⟩
        · refine ⟨?_, hs.b0, hs.b1, ?_, ?_, ?_⟩
          · dsimp only
            split <;> omega
          · exact Int.emod_nonneg _ (by decide)
          · exact Int.emod_lt_of_pos _ (by decide)
          · simp at hn ⊢; omega
        · simp
        · simp [evN, bi_assoc, ha, e1] <;> (try simp only [b_out])
        · simp [evN, bi_assoc, ha, e2] <;> (try simp only [b_out])
          generalize (if x < 0 then -x else x) = y
          by_cases hy : 1000000000000000000 ≤ y <;> simp [hy]
    · left
      simp [evN, bi_assoc, ha] <;> (try simp only [b_out])
  · intro s hs he
    obtain ⟨xs, a, c, o⟩ := s
    have hc0 : 0 ≤ c := hs.c0
    have hc1 : c < 2147483647 := hs.c1
    have hb0 : 0 ≤ b + 1 := hs.b0
    have hb1 : b + 1 < 100000000000000 := hs.b1
    have ha0 : 0 ≤ a := hs.a0
    have hn : xs.length ≤ 63 := hs.n
    clear he
    have hv := drawV_ok a (b + 1) c m hc0 hm
    by_cases ha : 0 < a
    · refine ⟨drawV a (b + 1) c m, xs, a / m, c, ?_, hv.1, hv.2, ⟨?_, hs.b0, hs.b1, hc0, hc1, hn⟩⟩
      · have h0 : 0 < m := by omega
        simp [evN, bi_assoc, ha, h0, hl] <;> (try simp only [b_out])
        unfold drawV
        rw [if_pos ha]
      · exact Int.ediv_nonneg ha0 (by omega)
    · refine ⟨drawV a (b + 1) c m, xs, a, c, ?_, hv.1, hv.2, ⟨ha0, hs.b0, hs.b1, hc0, hc1, hn⟩⟩
      have h0 : 0 < m := by omega
      have e1 : mulOk 7919 (b + 1) = true := mul_small (by decide) (by omega)
      have e2 : mulOk 30011 (b + 1) = true := mul_small (by decide) (by omega)
      have e3 : (c + 7919 * (b + 1) + 104729).natAbs < 18446744073709551616 := by omega
      have z : 0 ≤ (c + 7919 * (b + 1) + 104729) ^ 5 % 2147483629 := Int.emod_nonneg _ (by decide)
      have z2 : (c + 7919 * (b + 1) + 104729) ^ 5 % 2147483629 < 2147483629 := Int.emod_lt_of_pos _ (by decide)
      have e4 : ((c + 7919 * (b + 1) + 104729) ^ 5 % 2147483629 * 48271 + 30011 * (b + 1) + 29).natAbs < 18446744073709551616 := by omega
      have e5 : mulOk ((c + 7919 * (b + 1) + 104729) ^ 5 % 2147483629) 48271 = true := mul_small (by omega) (by decide)
      simp [evN, bi_assoc, ha, h0, e1, e2, e3, e4, e5] <;> (try simp only [b_out])
      unfold drawV
      rw [if_neg ha]
end T

namespace T
open PySem Z L2
/-! ### pick, loose -/
theorem place_ok {n : Nat} {v : Int} (h0 : 0 ≤ v) (h1 : v < n) : place n v = some v.toNat := by
  unfold place
  rw [if_pos h0, if_pos (by omega)]
theorem pick_dat (d : Nat) (ns : List Int) (a b c : Int) (rest : Sto) (xs : List PyData) (h : SI ns a b c) (hb : b + 1 < 100000000000000) (h0 : xs ≠ []) (hm : xs.length ≤ 1000000) : ∃ x ∈ xs, ∃ ns' a' c', callF cf defs (d + 2) "_law_pick" [.ref 1, .dat (.list xs)] (sst ns a b c rest) = .ok (.dat x) (sst ns' a' (b + 1) c' rest) ∧ SI ns' a' (b + 1) c' := by
  have h1 : 0 < xs.length := List.length_pos_iff.mpr h0
  obtain ⟨v, ns', a', c', e, hv0, hv1, hs⟩ := draw_ok d ns a b c xs.length rest h hb (by omega) (by omega)
  have hv : v.toNat < xs.length := by omega
  refine ⟨xs[v.toNat], List.getElem_mem hv, ns', a', c', ?_, hs⟩
  rw [op__law_pick]
  have eB : defBody (top 32) = defBody (top 32) := rfl
  conv at eB => rhs; whnf
  rw [eB]
  clear eB
  simp [evN, bi_assoc, e, place_ok hv0 hv1, hv] <;> (try simp only [b_out])
theorem pick_ref (d j : Nat) (ns : List Int) (a b c : Int) (rest : Sto) (xs : List PyData) (h : SI ns a b c) (hb : b + 1 < 100000000000000) (h0 : xs ≠ []) (hm : xs.length ≤ 1000000) (hj : rest[j]? = some (.lst (xs.map .dat))) : ∃ x ∈ xs, ∃ ns' a' c', callF cf defs (d + 2) "_law_pick" [.ref 1, .ref (j + 2)] (sst ns a b c rest) = .ok (.dat x) (sst ns' a' (b + 1) c' rest) ∧ SI ns' a' (b + 1) c' := by
  have h1 : 0 < xs.length := List.length_pos_iff.mpr h0
  obtain ⟨v, ns', a', c', e, hv0, hv1, hs⟩ := draw_ok d ns a b c xs.length rest h hb (by omega) (by omega)
  have hv : v.toNat < xs.length := by omega
  have hl : ∀ ns a b c, lenV (sst ns a b c rest) (.ref (j + 2)) = some xs.length := fun ns a b c => by
    have e : (sst ns a b c rest)[j + 2]? = some (.lst (xs.map .dat)) := hj
    show (match (sst ns a b c rest)[j + 2]? with
      | some (.lst xs) => some xs.length
      | some (.dct kvs) => some kvs.length
      | none => none) = _
    rw [e]
    simp
  have hc : ∀ ns a b c, cellItem (sst ns a b c rest) (j + 2) (.int v) = some (.dat xs[v.toNat]) := fun ns a b c => by
    have e : (sst ns a b c rest)[j + 2]? = some (.lst (xs.map .dat)) := hj
    unfold cellItem
    rw [e]
    have := place_ok hv0 hv1
    simp [this, hv]
  refine ⟨xs[v.toNat], List.getElem_mem hv, ns', a', c', ?_, hs⟩
  rw [op__law_pick]
  have eB : defBody (top 32) = defBody (top 32) := rfl
  conv at eB => rhs; whnf
  rw [eB]
  clear eB
  simp [evN, bi_assoc, e, hl, hc] <;> (try simp only [b_out])
/-- trees of tuples -/
def tt : Nat → PyData → Bool
  | 0, _ => false
  | n + 1, x => match x with
    | .tuple xs => decide (xs.length ≤ lim) && xs.all (tt n)
    | .list _ => false
    | .dict _ => false
    | _ => true
def siz : Nat → PyData → Int
  | 0, _ => 0
  | n + 1, x => match x with
    | .tuple xs => 1 + (xs.map (siz n)).sum
    | _ => 0
theorem siz_nn : ∀ n x, 0 ≤ siz n x
  | 0, _ => Int.le_refl 0
  | n + 1, x => by
    cases x with
    | tuple xs =>
      show 0 ≤ 1 + (xs.map (siz n)).sum
      have : 0 ≤ (xs.map (siz n)).sum := by
        induction xs with
        | nil => exact Int.le_refl 0
        | cons a xs ih => rw [List.map_cons, List.sum_cons]; have := siz_nn n a; omega
      omega
    | _ => exact Int.le_refl 0
inductive F2 (P : PyData → PyData → Prop) : List PyData → List PyData → Prop
  | nil : F2 P [] []
  | cons {x y : PyData} {xs ys : List PyData} : P x y → F2 P xs ys → F2 P (x :: xs) (y :: ys)
theorem lc_split {N : List Str} {ev : Expr → Ev → Sto → R RV} {tg : Expr} {ifs : List Expr} {elt : Ev → Sto → R (List RV)} {env : Ev} {x : RV} {r ds es : List RV} {st st1 st2 : Sto} (h1 : lcF N ev tg ifs elt env [x] st = .ok ds st1) (h2 : lcF N ev tg ifs elt env r st1 = .ok es st2) : lcF N ev tg ifs elt env (x :: r) st = .ok (ds ++ es) st2 := by
  rw [lc_cons] at h1 ⊢
  cases ha : asgT N tg x env with
  | none => rw [ha] at h1; cases h1
  | some env' =>
    rw [ha, o_some, b_ok] at h1
    rw [o_some, b_ok]
    cases ht : tests ev ifs env' st with
    | err => rw [ht] at h1; cases h1
    | exc c ys st' => rw [ht] at h1; cases h1
    | ok b st3 =>
      rw [ht, b_ok] at h1
      rw [b_ok]
      cases hb : (if b = true then elt env' st3 else R.ok [] st3) with
      | err => rw [hb] at h1; cases h1
      | exc c ys st' => rw [hb] at h1; cases h1
      | ok ds2 st4 =>
        rw [hb, b_ok, lc_nil, b_ok, List.append_nil] at h1
        cases h1
        rw [b_ok, h2, b_ok]
theorem lc_sst {N : List Str} {ev : Expr → Ev → Sto → R RV} {tg : Expr} {ifs : List Expr} {elt : Ev → Sto → R (List RV)} {env : Ev} {rest : Sto} {f : PyData → Int} {P : PyData → PyData → Prop} (hf : ∀ x, 0 ≤ f x) : ∀ {xs : List PyData}, (∀ x ∈ xs, ∀ ns a b c, SI ns a b c → b + f x < 100000000000000 → ∃ y ns' a' c', lcF N ev tg ifs elt env [.dat x] (sst ns a b c rest) = .ok [.dat y] (sst ns' a' (b + f x) c' rest) ∧ SI ns' a' (b + f x) c' ∧ P x y) → ∀ ns a b c, SI ns a b c → b + (xs.map f).sum < 100000000000000 → ∃ ys ns' a' c', lcF N ev tg ifs elt env (xs.map .dat) (sst ns a b c rest) = .ok (ys.map .dat) (sst ns' a' (b + (xs.map f).sum) c' rest) ∧ SI ns' a' (b + (xs.map f).sum) c' ∧ F2 P xs ys
  | [], _, ns, a, b, c, hs, hb => by
    have e : b + (([] : List PyData).map f).sum = b := by rw [List.map_nil, List.sum_nil]; omega
    rw [e]
    exact ⟨[], ns, a, c, rfl, hs, .nil⟩
  | x :: xs, h, ns, a, b, c, hs, hb => by
    rw [List.map_cons, List.sum_cons] at hb
    have h0 : 0 ≤ (xs.map f).sum := by
      clear hb h
      induction xs with
      | nil => exact Int.le_refl 0
      | cons z xs ih => rw [List.map_cons, List.sum_cons]; have := hf z; omega
    obtain ⟨y, ns1, a1, c1, e1, hs1, p1⟩ := h x List.mem_cons_self ns a b c hs (by omega)
    obtain ⟨ys, ns2, a2, c2, e2, hs2, p2⟩ := lc_sst hf (fun z m => h z (List.mem_cons_of_mem _ m)) ns1 a1 (b + f x) c1 hs1 (by omega)
    have e : b + ((x :: xs).map f).sum = b + f x + (xs.map f).sum := by rw [List.map_cons, List.sum_cons]; omega
    rw [e]
    exact ⟨y :: ys, ns2, a2, c2, lc_split e1 e2, hs2, .cons p1 p2⟩
theorem lcG_sst {β : Type} {N : List Str} {ev : Expr → Ev → Sto → R RV} {tg : Expr} {ifs : List Expr} {elt : Ev → Sto → R (List RV)} {env : Ev} {rest : Sto} (f : PyData → Int) (P : PyData → PyData → Prop) (G : R β → Prop) {F : List RV → Sto → R β} (hf : ∀ x, 0 ≤ f x) {xs : List PyData} (ns : List Int) (a b c : Int) (hs : SI ns a b c) (hb : b + (xs.map f).sum < 100000000000000) (h : ∀ x ∈ xs, ∀ ns a b c, SI ns a b c → b + f x < 100000000000000 → ∃ y ns' a' c', lcF N ev tg ifs elt env [.dat x] (sst ns a b c rest) = .ok [.dat y] (sst ns' a' (b + f x) c' rest) ∧ SI ns' a' (b + f x) c' ∧ P x y)
    (k : ∀ ys ns' a' c', SI ns' a' (b + (xs.map f).sum) c' → F2 P xs ys → G (F (ys.map .dat) (sst ns' a' (b + (xs.map f).sum) c' rest))) : G ((noExc (lcF N ev tg ifs elt env (xs.map .dat) (sst ns a b c rest))).bind F) := by
  obtain ⟨ys, ns', a', c', e, hs', p⟩ := lc_sst hf h ns a b c hs hb
  rw [e, ne_ok, b_ok]
  exact k ys ns' a' c' hs' p
/-- what a loose copy is -/
structure Lo (n : Nat) (x y : PyData) : Prop where
  t : tr n y = true
  a : asT n y = x
  k : isTy n y = isTy n x
theorem lo_all {n : Nat} {xs ys : List PyData} (h : F2 (Lo n) xs ys) : ys.length = xs.length ∧ ys.all (tr n) = true ∧ ys.map (asT n) = xs ∧ ys.all (isTy n) = xs.all (isTy n) := by
  induction h with
  | nil => exact ⟨rfl, rfl, rfl, rfl⟩
  | cons h1 h2 ih =>
    obtain ⟨i1, i2, i3, i4⟩ := ih
    refine ⟨by rw [List.length_cons, List.length_cons, i1], by rw [List.all_cons, h1.t, i2]; rfl, by rw [List.map_cons, h1.a, i3], by rw [List.all_cons, List.all_cons, h1.k, i4]⟩
theorem loose_ok : ∀ (n d : Nat) (x : PyData) (ns : List Int) (a b c : Int) (rest : Sto), tt n x = true → SI ns a b c → b + siz n x < 100000000000000 → ∃ y ns' a' c', callF cf defs (d + n + 1) "_law_loose" [.ref 1, .dat x] (sst ns a b c rest) = .ok (.dat y) (sst ns' a' (b + siz n x) c' rest) ∧ SI ns' a' (b + siz n x) c' ∧ Lo n x y
  | 0, d, x, _, _, _, _, _, h, _, _ => by cases h
  | n + 1, d, x, ns, a, b, c, rest, h, hs, hb => by
    show ∃ y ns' a' c', callF cf defs ((d + n + 1) + 1) "_law_loose" [.ref 1, .dat x] (sst ns a b c rest) = _ ∧ _
    cases x with
    | tuple xs =>
      have h' : (decide (xs.length ≤ lim) && xs.all (tt n)) = true := h
      obtain ⟨h1, h2⟩ := and2 h'
      have h1 := of_decide_eq_true h1
      have hb' : b + (1 + (xs.map (siz n)).sum) < 100000000000000 := hb
      have e0 : siz (n + 1) (.tuple xs) = 1 + (xs.map (siz n)).sum := rfl
      rw [e0]
      rw [op__law_loose]
      have eB : defBody (top 36) = defBody (top 36) := rfl
      conv at eB => rhs; whnf
      rw [eB]
      clear eB
      simp [evN, bi_assoc] <;> (try simp only [b_out])
      refine lcG_sst (siz n) (Lo n) (fun r => ∃ y ns' a' c', r = R.ok (RV.dat y) (sst ns' a' (b + (1 + (xs.map (siz n)).sum)) c' rest) ∧ SI ns' a' (b + (1 + (xs.map (siz n)).sum)) c' ∧ Lo (n + 1) (.tuple xs) y) (siz_nn n) ns a b c hs (by omega) ?_ ?_
      · intro x m ns a b c hs hb
        obtain ⟨y, ns', a', c', e, hs', lo⟩ := loose_ok n d x ns a b c rest (List.all_eq_true.mp h2 x m) hs hb
        refine ⟨y, ns', a', c', ?_, hs', lo⟩
        simp [lc_cons, lc_nil, e]
      · intro ys ns' a' c' hs' f2
        obtain ⟨v, ns2, a2, c2, e, hv0, hv1, hs2⟩ := draw_ok (d + n) ns' a' (b + (xs.map (siz n)).sum) c' 2 rest hs' (by omega) (by omega) (by omega)
        have e3 : b + (1 + (xs.map (siz n)).sum) = b + (xs.map (siz n)).sum + 1 := by omega
        rw [e3]
        obtain ⟨f1, ft, fa, fk⟩ := lo_all f2
        have hv : v = 0 ∨ v = 1 := by omega
        have hl : ys.length ≤ lim := by omega
        rcases hv with rfl | rfl
        · refine ⟨.tuple ys, ns2, a2, c2, ?_, hs2, ⟨?_, ?_, ?_⟩⟩
          · simp [evN, bi_assoc, e, hl] <;> (try simp only [b_out])
          · show (decide (ys.length ≤ lim) && ys.all (tr n)) = true
            rw [decide_eq_true hl, ft]; rfl
          · show PyData.tuple (ys.map (asT n)) = _
            rw [fa]
          · show ys.all (isTy n) = xs.all (isTy n)
            exact fk
        · refine ⟨.list ys, ns2, a2, c2, ?_, hs2, ⟨?_, ?_, ?_⟩⟩
          · simp [evN, bi_assoc, e, hl] <;> (try simp only [b_out])
          · show (decide (ys.length ≤ lim) && ys.all (tr n)) = true
            rw [decide_eq_true hl, ft]; rfl
          · show PyData.tuple (ys.map (asT n)) = _
            rw [fa]
          · show ys.all (isTy n) = xs.all (isTy n)
            exact fk
    | list => cases h
    | dict => cases h
    | _ =>
      refine ⟨_, ns, a, c, ?_, by rw [show siz (n + 1) _ = 0 from rfl, Int.add_zero]; exact hs, ⟨rfl, rfl, rfl⟩⟩
      rw [show siz (n + 1) _ = 0 from rfl, Int.add_zero]
      rw [op__law_loose]
      have eB : defBody (top 36) = defBody (top 36) := rfl
      conv at eB => rhs; whnf
      rw [eB]
      clear eB
      simp [evN, bi_assoc] <;> (try simp only [b_out])
end T

namespace T
open PySem Z L2
/-! ### the tables, plainly -/
def base (m : Nat) : List PyData := .none :: (List.range m).map fun i => .int (i : Nat)
def undL (ins : List PyData) (i : Nat) : List Nat := (List.range i).filter fun k => bel 9 (ins.getD k .none) (ins.getD i .none)
def fits (und : List Nat) (t : List PyData) (o : PyData) : Bool := und.all fun k => bel 9 (t.getD k .none) o
def ext1 (und : List Nat) (outs : List PyData) (t : List PyData) : List (List PyData) := (outs.filter (fits und t)).map fun o => t ++ [o]
def ext (ins outs : List PyData) (found : List (List PyData)) (i : Nat) : List (List PyData) := found.flatMap (ext1 (undL ins i) outs)
def tabTo (ins outs : List PyData) (i : Nat) : List (List PyData) := (List.range i).foldl (ext ins outs) [[]]
def tabL (ins outs : List PyData) : List PyData := (tabTo ins outs ins.length).map .tuple
def allL : Nat → Nat → PyData → List PyData
  | 0, _, _ => []
  | n + 1, m, k => match k with
    | .tuple [] => base m
    | .tuple (k0 :: ks) => tabL (allL n m k0) (allL n m (.tuple ks))
    | _ => []
theorem tabTo_succ (ins outs : List PyData) (i : Nat) : tabTo ins outs (i + 1) = ext ins outs (tabTo ins outs i) i := by
  unfold tabTo
  rw [List.range_succ, List.foldl_append]
  rfl
theorem tab_inv {ins outs : List PyData} : ∀ {i : Nat} {t : List PyData}, t ∈ tabTo ins outs i → t.length = i ∧ ∀ x ∈ t, x ∈ outs
  | 0, t, h => by
    cases List.mem_singleton.mp (show t ∈ [[]] from h)
    exact ⟨rfl, fun x m => by cases m⟩
  | i + 1, t, h => by
    rw [tabTo_succ] at h
    obtain ⟨t0, h0, h1⟩ := List.mem_flatMap.mp h
    obtain ⟨o, ho, rfl⟩ := List.mem_map.mp h1
    have ho := (List.mem_filter.mp ho).1
    obtain ⟨i1, i2⟩ := tab_inv h0
    refine ⟨by rw [List.length_append, i1]; rfl, fun x m => ?_⟩
    rcases List.mem_append.mp m with m | m
    · exact i2 x m
    · rw [List.mem_singleton.mp m]; exact ho
/-- all are of one shape -/
def Sh (n : Nat) (xs : List PyData) : Prop := ∀ x ∈ xs, ∀ y ∈ xs, shp n x y = true
theorem zip_in {xs ys : List PyData} {p : PyData × PyData} (m : p ∈ xs.zip ys) : p.1 ∈ xs ∧ p.2 ∈ ys := List.of_mem_zip m
theorem sh_tab {n : Nat} {ins outs : List PyData} (h : Sh n outs) (hl : ins.length ≤ lim) : Sh (n + 1) (tabL ins outs) := by
  intro x hx y hy
  obtain ⟨s, hs, rfl⟩ := List.mem_map.mp hx
  obtain ⟨t, ht, rfl⟩ := List.mem_map.mp hy
  obtain ⟨s1, s2⟩ := tab_inv hs
  obtain ⟨t1, t2⟩ := tab_inv ht
  show (decide (s.length ≤ lim) && (s.zip t).all fun p => shp n p.1 p.2) = true
  rw [decide_eq_true (by omega), Bool.true_and, List.all_eq_true]
  intro p m
  obtain ⟨m1, m2⟩ := zip_in m
  exact h _ (s2 _ m1) _ (t2 _ m2)
/-- keys' trees -/
def kt : Nat → PyData → Bool
  | 0, _ => false
  | n + 1, x => match x with
    | .tuple xs => xs.all (kt n)
    | .none => true
    | .int _ => true
    | .str _ => true
    | _ => false
def plK (k : PyData) : PyData := .tuple [.str "places", k]
def good (k : PyData) : Bool := keyG k && keyG (plK k) && SeqAt.shaped k && kt 9 k
/-- what is checked of a kind: its tables are laid in order, and are not too many -/
def chk : Nat → Nat → PyData → Bool
  | 0, _, _ => false
  | n + 1, m, k => match k with
    | .tuple [] => good (.tuple [])
    | .tuple (k0 :: ks) => good (.tuple (k0 :: ks)) && decide (ks.length ≤ 100) && chk n m k0 && chk n m (.tuple ks) && decide ((allL n m k0).length ≤ 100) && decide ((allL n m (.tuple ks)).length ≤ 1000)
      && (List.range ((allL n m k0).length + 1)).all (fun i => decide ((tabTo (allL n m k0) (allL n m (.tuple ks)) i).length ≤ 1000000))
      && (List.range (allL n m k0).length).all (fun i => (List.range i).all fun k => !bel 9 ((allL n m k0).getD i .none) ((allL n m k0).getD k .none))
    | _ => false
theorem chk_eq (n m : Nat) (k0 : PyData) (ks : List PyData) : chk (n + 1) m (.tuple (k0 :: ks)) = (good (.tuple (k0 :: ks)) && decide (ks.length ≤ 100) && chk n m k0 && chk n m (.tuple ks) && decide ((allL n m k0).length ≤ 100) && decide ((allL n m (.tuple ks)).length ≤ 1000)
      && (List.range ((allL n m k0).length + 1)).all (fun i => decide ((tabTo (allL n m k0) (allL n m (.tuple ks)) i).length ≤ 1000000))
      && (List.range (allL n m k0).length).all (fun i => (List.range i).all fun k => !bel 9 ((allL n m k0).getD i .none) ((allL n m k0).getD k .none))) := rfl
structure Chk (n m : Nat) (k0 : PyData) (ks : List PyData) : Prop where
  g : good (.tuple (k0 :: ks)) = true
  kl : ks.length ≤ 100
  h0 : chk n m k0 = true
  hs : chk n m (.tuple ks) = true
  l0 : (allL n m k0).length ≤ 100
  ls : (allL n m (.tuple ks)).length ≤ 1000
  tl : ∀ i, i ≤ (allL n m k0).length → (tabTo (allL n m k0) (allL n m (.tuple ks)) i).length ≤ 1000000
  no : ∀ i, i < (allL n m k0).length → ∀ k, k < i → bel 9 ((allL n m k0).getD i .none) ((allL n m k0).getD k .none) = false
theorem chk_go {n m : Nat} {k0 : PyData} {ks : List PyData} (h : chk (n + 1) m (.tuple (k0 :: ks)) = true) : Chk n m k0 ks := by
  have h' : (good (.tuple (k0 :: ks)) && decide (ks.length ≤ 100) && chk n m k0 && chk n m (.tuple ks) && decide ((allL n m k0).length ≤ 100) && decide ((allL n m (.tuple ks)).length ≤ 1000)
      && (List.range ((allL n m k0).length + 1)).all (fun i => decide ((tabTo (allL n m k0) (allL n m (.tuple ks)) i).length ≤ 1000000))
      && (List.range (allL n m k0).length).all (fun i => (List.range i).all fun k => !bel 9 ((allL n m k0).getD i .none) ((allL n m k0).getD k .none))) = true := h
  simp only [Bool.and_eq_true, decide_eq_true_eq, List.all_eq_true, List.mem_range] at h'
  obtain ⟨⟨⟨⟨⟨⟨⟨g, a0⟩, a1⟩, a2⟩, a3⟩, a4⟩, a5⟩, a6⟩ := h'
  exact ⟨g, a0, a1, a2, a3, a4, fun i hi => a5 i (by omega), fun i hi k hk => by have := a6 i hi k hk; simpa using this⟩
theorem chk_good {n m : Nat} {k : PyData} (h : chk n m k = true) : good k = true := by
  cases n with
  | zero => cases h
  | succ n =>
    cases k with
    | tuple ks =>
      cases ks with
      | nil => exact h
      | cons k0 ks => exact (chk_go h).g
    | _ => cases h
theorem sh_all : ∀ {n m : Nat} {k : PyData}, chk n m k = true → Sh n (allL n m k)
  | 0, m, k, h => by cases h
  | n + 1, m, k, h => by
    cases k with
    | tuple ks =>
      cases ks with
      | nil =>
        have hb : ∀ x ∈ base m, x = .none ∨ ∃ i, x = .int i := fun x hx => by
          rcases List.mem_cons.mp hx with h | h
          · exact .inl h
          · obtain ⟨i, _, e⟩ := List.mem_map.mp h
            exact .inr ⟨_, e.symm⟩
        intro x hx y hy
        rcases hb x hx with rfl | ⟨i, rfl⟩ <;> rcases hb y hy with rfl | ⟨j, rfl⟩ <;> rfl
      | cons k0 ks =>
        have c := chk_go h
        exact sh_tab (sh_all c.hs) (by have := c.l0; unfold lim; omega)
    | _ => cases h
/-- the checked fuel is enough -/
theorem all_fuel : ∀ {n N m : Nat} {k : PyData}, chk n m k = true → n ≤ N → allL N m k = allL n m k ∧ chk N m k = true
  | 0, N, m, k, h, _ => by cases h
  | n + 1, 0, m, k, h, hn => by omega
  | n + 1, N + 1, m, k, h, hn => by
    cases k with
    | tuple ks =>
      cases ks with
      | nil => exact ⟨rfl, h⟩
      | cons k0 ks =>
        have c := chk_go h
        obtain ⟨a1, b1⟩ := all_fuel c.h0 (Nat.le_of_succ_le_succ hn)
        obtain ⟨a2, b2⟩ := all_fuel c.hs (Nat.le_of_succ_le_succ hn)
        refine ⟨?_, ?_⟩
        · show tabL (allL N m k0) (allL N m (.tuple ks)) = tabL (allL n m k0) (allL n m (.tuple ks))
          rw [a1, a2]
        · rw [chk_eq] at h ⊢
          rw [a1, a2, b1, b2]
          rw [c.h0, c.hs] at h
          exact h
    | _ => cases h
theorem shp_mono : ∀ {n N : Nat} {x y : PyData}, shp n x y = true → n ≤ N → shp N x y = true
  | 0, N, x, y, h, _ => by cases h
  | n + 1, 0, x, y, h, hn => by omega
  | n + 1, N + 1, x, y, h, hn => by
    cases x with
    | tuple xs =>
      cases y with
      | tuple ys =>
        have h' : (decide (xs.length ≤ lim) && (xs.zip ys).all fun p => shp n p.1 p.2) = true := h
        show (decide (xs.length ≤ lim) && (xs.zip ys).all fun p => shp N p.1 p.2) = true
        rw [Bool.and_eq_true, List.all_eq_true] at h' ⊢
        exact ⟨h'.1, fun p m => shp_mono (h'.2 p m) (Nat.le_of_succ_le_succ hn)⟩
      | _ => cases h
    | none => cases y <;> first | exact h | cases h
    | int => cases y <;> first | exact h | cases h
    | _ => cases y <;> cases h
theorem sh9 {n m : Nat} {k : PyData} (h : chk n m k = true) (hn : n ≤ 9) : Sh 9 (allL n m k) := fun x hx y hy => shp_mono (sh_all h x hx y hy) hn
end T

namespace T
open PySem Z L2
def kB : PyData := .tuple []
def kO : PyData := .tuple [kB]
def kinds : Nat → List PyData
  | 1 => [kB, kO, .tuple [kB, kB], .tuple [kB, kB, kB], .tuple [kO], .tuple [kO, kB], .tuple [kO, kO], .tuple [.tuple [kB, kB]], .tuple [kB, kO], .tuple [.tuple [kO]], .tuple [kB, kB, kB, kB]]
  | 2 => [kB, kO, kO, kO, .tuple [kB, kB], .tuple [kB, kB], .tuple [kO]]
  | 3 => [kB, kO, kO]
  | _ => []
theorem kinds_chk : ∀ m ∈ [1, 2, 3], ∀ k ∈ kinds m, chk 9 m k = true := by decide +kernel
/-- the same tree -/
def eqt : Nat → PyData → PyData → Bool
  | 0, _, _ => false
  | n + 1, a, b => match a, b with
    | .none, .none => true
    | .int a, .int b => a == b
    | .tuple xs, .tuple ys => decide (xs.length = ys.length) && (xs.zip ys).all fun p => eqt n p.1 p.2
    | _, _ => false
theorem eqt_eq : ∀ {n : Nat} {a b : PyData}, eqt n a b = true → a = b
  | 0, a, b, h => by cases h
  | n + 1, a, b, h => by
    cases a with
    | none => cases b <;> first | rfl | cases h
    | int i =>
      cases b with
      | int j => rw [show i = j from beq_iff_eq.mp h]
      | _ => cases h
    | tuple xs =>
      cases b with
      | tuple ys =>
        have h' : (decide (xs.length = ys.length) && (xs.zip ys).all fun p => eqt n p.1 p.2) = true := h
        rw [Bool.and_eq_true, decide_eq_true_eq, List.all_eq_true] at h'
        obtain ⟨h1, h2⟩ := h'
        congr 1
        clear h
        induction xs generalizing ys with
        | nil => cases ys with
          | nil => rfl
          | cons => cases h1
        | cons a xs ih => cases ys with
          | nil => cases h1
          | cons b ys =>
            have e : a = b := eqt_eq (h2 (a, b) (by rw [List.zip_cons_cons]; exact List.mem_cons_self))
            rw [e, ih ys (by simpa using h1) fun p m => h2 p (by rw [List.zip_cons_cons]; exact List.mem_cons_of_mem _ m)]
      | _ => cases h
    | _ => cases b <;> cases h
/-- the tops, as the program finds them -/
def topsL (every : List PyData) : List PyData := (every.reverse.foldl (fun found one => if found.any (fun o => bel 9 one o) then found else found ++ [one]) []).reverse
/-- the tops, as the law finds them -/
def endsL (every : List PyData) : List PyData := every.filter fun s => !every.any fun o => !PyData.eqv o s && bel 9 s o
def eqts (xs ys : List PyData) : Bool := eqt 9 (.tuple xs) (.tuple ys)
theorem kinds_tops : ∀ m ∈ [1, 2, 3], ∀ k ∈ kinds m, (allL 9 m k).length ≤ 100 → eqts (topsL (allL 9 m k)) (endsL (allL 9 m k)) = true ∧ (m = 1 → (endsL (allL 9 m k)).length = 1) ∧ allL 9 m k ≠ [] ∧ (allL 9 m k).all (fun x => decide (siz 9 x ≤ 1000)) = true := by decide +kernel
theorem kinds_ok : ∀ m ∈ [1, 2, 3], ∀ k ∈ kinds m, tt 9 k = true ∧ isTy 9 k = true ∧ siz 9 k ≤ 1000 := by decide +kernel
end T

namespace T
open PySem Z L2
/-! ### the program's tables -/
theorem tables_ok (d : Nat) (ins outs : List PyData) (st : Sto) (h1 : Sh 9 ins) (h2 : Sh 9 outs) (l1 : ins.length ≤ 100) (l2 : outs.length ≤ 1000) (tl : ∀ i, i ≤ ins.length → (tabTo ins outs i).length ≤ 1000000) : callF cf defs (d + 11) "tables_between" [.dat (.list ins), .dat (.list outs)] st = .ok (.own ((tabL ins outs).map .dat)) st := by
  show callF cf defs ((d + 10) + 1) "tables_between" [.dat (.list ins), .dat (.list outs)] st = _
  have LB : ∀ a ∈ ins, ∀ b ∈ ins, ∀ st, callF cf defs (d + 10) "lies_below" [.dat a, .dat b] st = .ok (.dat (.bool (bel 9 a b))) st := fun a ha b hb st => lies_ok 9 d a b st (h1 a ha b hb)
  have LO : ∀ a ∈ outs, ∀ b ∈ outs, ∀ st, callF cf defs (d + 10) "lies_below" [.dat a, .dat b] st = .ok (.dat (.bool (bel 9 a b))) st := fun a ha b hb st => lies_ok 9 d a b st (h2 a ha b hb)
  rw [op_tables_between]
  have eB : defBody (top 21) = defBody (top 21) := rfl
  conv at eB => rhs; whnf
  rw [eB]
  clear eB
  simp [evN, bi_assoc] <;> (try simp only [b_out])
  rw [show numb 0 ins = _ from numb_eq ins 0]
  rw [lc_m1 (fun p : PyData × Nat => RV.dat (.tuple [.int (p.2 : Nat), p.1])) (fun p => .own (((undL ins p.2).map fun k => PyData.int (k : Nat)).map .dat)) fun p m => by
    obtain ⟨hp, e⟩ := zi_mem m
    have hr : p.2 ≤ 1000000 := by omega
    simp [lc_cons, lc_nil, evN, bi_assoc, range1_nat hr] <;> (try simp only [b_out])
    rw [lc_mF (fun k : Nat => RV.dat (.int (k : Nat))) (fun k => bel 9 (ins.getD k .none) p.1) (fun k => RV.dat (.int (k : Nat))) fun k mk => by
      have hk : k < ins.length := by have := List.mem_range.mp mk; omega
      have := LB _ (getD_mem hk) _ (e ▸ getD_mem hp) st
      cases hb : bel 9 (ins.getD k .none) p.1 <;> simp [lc_cons, lc_nil, evN, bi_assoc, place_nat hk, getD_of hk, this, hb, -List.getD_eq_getElem?_getD] <;> (try simp only [b_out])]
    rw [ne_ok, b_ok, List.length_map]
    rw [if_pos (Nat.le_trans (List.length_filter_le _ _) (by rw [List.length_range]; unfold lim; omega))]
    rw [b_ok, em_own, o_some, b_ok, e]
    unfold undL
    simp [lc_nil, -List.getD_eq_getElem?_getD]]
  rw [ne_ok, b_ok, List.length_map, List.length_zipIdx, if_pos (show ins.length ≤ lim by unfold lim; omega), b_ok]
  rw [he_own, if_neg Bool.false_ne_true, dp_owns, zi_snd (fun i => PyData.list ((undL ins i).map fun k => .int (k : Nat)))]
  have hr : ins.length ≤ 1000000 := by omega
  simp [evN, bi_assoc, range1_nat hr] <;> (try simp only [b_out])
  obtain ⟨und, hu⟩ : ∃ und : List PyData, und = (List.range ins.length).map fun i => PyData.list ((undL ins i).map fun k => PyData.int (k : Nat)) := ⟨_, rfl⟩
  rw [← hu]
  refine fo_rw (γ := L3 (List (List PyData))) (G := fun r => r = R.ok (RV.own ((tabL ins outs).map .dat)) st) (fun i : Nat => RV.dat (.int (i : Nat))) (fun s => [some (.dat (.list ins)), some (.dat (.list outs)), some (.dat (.list und)), some (.own ((s.v.map PyData.tuple).map .dat)), s.a, none, s.b, s.c, none]) (fun _ => st) (fun done s => s.v = tabTo ins outs done.length) (List.range ins.length) ⟨[[]], none, none, none⟩ rfl ?_ ?_ rfl
  · intro done x rest s hj hd G hG
    obtain ⟨rfl, hx⟩ := range_split hd
    obtain ⟨i, hi⟩ : ∃ i, i = done.length := ⟨_, rfl⟩
    rw [← hi] at hx hj hG hd ⊢
    have hg : und[i]? = some (.list ((undL ins i).map fun k => PyData.int (k : Nat))) := by
      rw [hu, List.getElem?_map, List.getElem?_range hx]; rfl
    have hul : und.length = ins.length := by rw [hu, List.length_map, List.length_range]
    have hpl : place ins.length (i : Nat) = some i := place_nat hx
    have tl1 := tl (i + 1) hx
    rw [tabTo_succ] at tl1
    simp [evN, bi_assoc, -List.map_map, -List.map_reverse, -List.getD_eq_getElem?_getD] <;> (try simp only [b_out])
    refine fo_rw (γ := L3 (List (List PyData))) (fun t : List PyData => RV.dat (.tuple t)) (fun s' => [some (.dat (.list ins)), some (.dat (.list outs)), some (.dat (.list und)), some (.dat (.list (s.v.map PyData.tuple))), some (.dat (.int (i : Nat))), some (.own ((s'.v.map PyData.tuple).map .dat)), s'.b, s'.c, none]) (fun _ => st) (fun done s => s.v = done.flatMap (ext1 (undL ins i) outs)) s.v ⟨[], none, s.b, s.c⟩ rfl ?_ ?_ (by rw [List.map_map]; rfl)
    · intro done2 t rest2 s2 hj2 hd2 G2 hG2
      have ht : t ∈ tabTo ins outs i := by rw [← hj, ← hd2]; exact List.mem_append_right _ List.mem_cons_self
      obtain ⟨t1, t2⟩ := tab_inv ht
      simp [evN, bi_assoc, -List.map_map, -List.map_reverse, -List.getD_eq_getElem?_getD] <;> (try simp only [b_out])
      refine fo_rw (γ := L3 (List (List PyData))) (fun t : PyData => RV.dat t) (fun s' => [some (.dat (.list ins)), some (.dat (.list outs)), some (.dat (.list und)), some (.dat (.list (s.v.map PyData.tuple))), some (.dat (.int (i : Nat))), some (.own ((s'.v.map PyData.tuple).map .dat)), some (.dat (.tuple t)), s'.c, none]) (fun _ => st) (fun done s => s.v = s2.v ++ (done.filter (fits (undL ins i) t)).map fun o => t ++ [o]) outs ⟨s2.v, none, none, s2.c⟩ (by simp) ?_ ?_ rfl
      · intro done3 o rest3 s3 hj3 hd3 G3 hG3
        have ho : o ∈ outs := by rw [← hd3]; exact List.mem_append_right _ List.mem_cons_self
        have hlen : s3.v.length < lim := by
          have e1 : (ext ins outs (tabTo ins outs i) i).length = (done2.flatMap (ext1 (undL ins i) outs)).length + ((outs.filter (fits (undL ins i) t)).length + (rest2.flatMap (ext1 (undL ins i) outs)).length) := by
            unfold ext
            rw [← hj, ← hd2, List.flatMap_append, List.flatMap_cons, List.length_append, List.length_append]
            congr 2
            unfold ext1
            rw [List.length_map]
          have e2 : (outs.filter (fits (undL ins i) t)).length = (done3.filter (fits (undL ins i) t)).length + ((o :: rest3).filter (fits (undL ins i) t)).length := by
            rw [← hd3, List.filter_append, List.length_append]
          rw [hj3, List.length_append, List.length_map, hj2]
          unfold lim
          omega
        simp [evN, bi_assoc, -List.map_map, -List.map_reverse, -List.getD_eq_getElem?_getD, hg, hul, hpl] <;> (try simp only [b_out])
        rw [lc_x1 (undL ins i) (fun k : Nat => RV.dat (.int (k : Nat))) (fun k => .dat (.bool (bel 9 (t.getD k .none) o))) (by rw [List.map_map]; rfl) fun k mk => by
          have hk : k < t.length := by rw [t1]; exact List.mem_range.mp (List.mem_filter.mp mk).1
          have := LO _ (t2 _ (getD_mem hk)) _ ho st
          simp [lc_cons, lc_nil, evN, bi_assoc, place_nat hk, getD_of hk, this, -List.getD_eq_getElem?_getD] <;> (try simp only [b_out])]
        have hul2 : (undL ins i).length ≤ lim := Nat.le_trans (List.length_filter_le _ _) (by rw [List.length_range]; unfold lim; omega)
        have htl : t.length + 1 ≤ lim := by unfold lim; omega
        simp [evN, bi_assoc, -List.map_map, -List.map_reverse, -List.getD_eq_getElem?_getD, hul2] <;> (try simp only [b_out])
        by_cases hf : fits (undL ins i) t o = true
        · rw [if_pos (List.all_eq_true.mp hf)]
          simp [evN, bi_assoc, -List.map_map, -List.map_reverse, -List.getD_eq_getElem?_getD, htl, hlen] <;> (try simp only [b_out])
          have := hG3 ⟨s3.v ++ [t ++ [o]], none, none, some (.dat o)⟩ (by rw [hj3, List.filter_append, List.filter_cons, if_pos hf, List.map_append, List.append_assoc]; rfl)
          simpa [-List.map_map] using this
        · rw [if_neg fun h => hf (List.all_eq_true.mpr h)]
          have := hG3 ⟨s3.v, none, none, some (.dat o)⟩ (by rw [hj3, List.filter_append, List.filter_cons, if_neg hf]; simp)
          simpa [-List.map_map] using this
      · intro s3 hj3
        have := hG2 ⟨s3.v, none, some (.dat (.tuple t)), s3.c⟩ (by rw [hj3, hj2, List.flatMap_append, List.flatMap_singleton]; rfl)
        simpa [-List.map_map] using this
    · intro s2 hj2
      simp [evN, bi_assoc, -List.map_map, -List.map_reverse, -List.getD_eq_getElem?_getD] <;> (try simp only [b_out])
      have := hG ⟨s2.v, some (.dat (.int (i : Nat))), s2.b, s2.c⟩ (by rw [List.length_append, ← hi, hj2]; show _ = tabTo ins outs (i + 1); rw [tabTo_succ, ← hj]; rfl)
      simpa [-List.map_map] using this
  · intro s hj
    have hs : s.v = tabTo ins outs ins.length := by rw [hj, List.length_range]
    simp [evN, bi_assoc, -List.map_map, -List.map_reverse, -List.getD_eq_getElem?_getD] <;> (try simp only [b_out])
    unfold tabL
    rw [hs]
end T

namespace T
open PySem Z L2
/-! ### keys -/
theorem kd_tup {xs : List PyData} {y : NestedKey} (h : keyD (.tuple xs) = some y) : ∃ us, keyDs xs = some us ∧ y = .tup us := by
  rw [show keyD (.tuple xs) = (keyDs xs).map .tup by rw [keyD]] at h
  cases e : keyDs xs with
  | none => rw [e] at h; cases h
  | some us => rw [e] at h; cases h; exact ⟨us, rfl, rfl⟩
theorem kds_cons {x : PyData} {xs : List PyData} {us : List NestedKey} (h : keyDs (x :: xs) = some us) : ∃ u us', keyD x = some u ∧ keyDs xs = some us' ∧ us = u :: us' := by
  rw [keyDs] at h
  cases e : keyD x with
  | none => rw [e] at h; cases h
  | some u =>
    cases e2 : keyDs xs with
    | none => rw [e, e2] at h; cases h
    | some us' => rw [e, e2] at h; cases h; exact ⟨u, us', rfl, rfl, rfl⟩
theorem kd_eq : ∀ {n : Nat} {a b : PyData} {x y : NestedKey}, kt n a = true → kt n b = true → keyD a = some x → keyD b = some y → NestedKey.beq x y = true → a = b
  | 0, a, b, x, y, h, _, _, _, _ => by cases h
  | n + 1, a, b, x, y, ha, hb, ea, eb, h => by
    have go : ∀ {xs ys : List PyData} {us vs : List NestedKey}, xs.all (kt n) = true → ys.all (kt n) = true → keyDs xs = some us → keyDs ys = some vs → NestedKey.beqAll us vs = true → xs = ys := by
      intro xs
      induction xs with
      | nil =>
        intro ys us vs _ hy e1 e2 h
        rw [keyDs] at e1; cases e1
        cases ys with
        | nil => rfl
        | cons y ys =>
          obtain ⟨u, us', _, _, rfl⟩ := kds_cons e2
          cases h
      | cons x xs ih =>
        intro ys us vs hx hy e1 e2 h
        obtain ⟨u, us', f1, f2, rfl⟩ := kds_cons e1
        cases ys with
        | nil => rw [keyDs] at e2; cases e2; cases h
        | cons y ys =>
          obtain ⟨v, vs', g1, g2, rfl⟩ := kds_cons e2
          rw [List.all_cons, Bool.and_eq_true] at hx hy
          have h' : (NestedKey.beq u v && NestedKey.beqAll us' vs') = true := h
          rw [Bool.and_eq_true] at h'
          rw [kd_eq hx.1 hy.1 f1 g1 h'.1, ih hx.2 hy.2 f2 g2 h'.2]
    cases a with
    | none => cases b <;> first | rfl | (simp [keyD] at ea eb; subst ea; subst eb; cases h; done) | (obtain ⟨us, _, rfl⟩ := kd_tup eb; simp [keyD] at ea; subst ea; cases h; done) | (cases hb; done)
    | int i => cases b <;> first | (simp [keyD] at ea eb; subst ea; subst eb; first | (simp [NestedKey.beq] at h; subst h; rfl) | (simp [NestedKey.beq] at h; done)) | (obtain ⟨us, _, rfl⟩ := kd_tup eb; simp [keyD] at ea; subst ea; cases h; done) | (cases hb; done)
    | str i => cases b <;> first | (simp [keyD] at ea eb; subst ea; subst eb; first | (simp [NestedKey.beq] at h; subst h; rfl) | (simp [NestedKey.beq] at h; done)) | (obtain ⟨us, _, rfl⟩ := kd_tup eb; simp [keyD] at ea; subst ea; cases h; done) | (cases hb; done)
    | tuple xs =>
      obtain ⟨us, e1, rfl⟩ := kd_tup ea
      cases b with
      | tuple ys =>
        obtain ⟨vs, e2, rfl⟩ := kd_tup eb
        rw [go ha hb e1 e2 h]
      | none => simp [keyD] at eb; subst eb; cases h
      | int => simp [keyD] at eb; subst eb; cases h
      | str => simp [keyD] at eb; subst eb; cases h
      | _ => cases hb
    | _ => cases ha
theorem kd_some : ∀ {n : Nat} {a : PyData}, kt n a = true → ∃ x, keyD a = some x ∧ NestedKey.beq x x = true
  | 0, a, h => by cases h
  | n + 1, a, h => by
    cases a with
    | none => exact ⟨_, by rw [keyD], rfl⟩
    | int i => exact ⟨_, by rw [keyD], by simp [NestedKey.beq]⟩
    | str i => exact ⟨_, by rw [keyD], by simp [NestedKey.beq]⟩
    | tuple xs =>
      replace h : xs.all (kt n) = true := h
      have : ∃ us, keyDs xs = some us ∧ NestedKey.beqAll us us = true := by
        induction xs with
        | nil => exact ⟨[], by rw [keyDs], rfl⟩
        | cons x xs ih =>
          rw [List.all_cons, Bool.and_eq_true] at h
          obtain ⟨u, e1, b1⟩ := kd_some h.1
          obtain ⟨us, e2, b2⟩ := ih h.2
          exact ⟨u :: us, by rw [keyDs, e1, e2], by show (NestedKey.beq u u && NestedKey.beqAll us us) = true; rw [b1, b2]; rfl⟩
      obtain ⟨us, e, b⟩ := this
      exact ⟨.tup us, by rw [keyD, e]; rfl, b⟩
    | _ => cases h
theorem same_eq {n : Nat} {a b : PyData} (ha : kt n a = true) (hb : kt n b = true) (h : sameKey a b = true) : a = b := by
  obtain ⟨x, e1, _⟩ := kd_some ha
  obtain ⟨y, e2, _⟩ := kd_some hb
  unfold sameKey at h
  rw [e1, e2] at h
  exact kd_eq ha hb e1 e2 h
theorem same_rfl {n : Nat} {a : PyData} (ha : kt n a = true) : sameKey a a = true := by
  obtain ⟨x, e1, b⟩ := kd_some ha
  unfold sameKey
  rw [e1]
  exact b
theorem kt_shp : ∀ {n : Nat} {x : PyData}, shp n x x = true → kt n x = true
  | 0, x, h => by cases h
  | n + 1, x, h => by
    cases x with
    | tuple xs =>
      have h' : (decide (xs.length ≤ lim) && (xs.zip xs).all fun p => shp n p.1 p.2) = true := h
      rw [Bool.and_eq_true, List.all_eq_true] at h'
      show xs.all (kt n) = true
      rw [List.all_eq_true]
      intro y m
      refine kt_shp (h'.2 (y, y) ?_)
      clear h h'
      induction xs with
      | nil => cases m
      | cons a xs ih =>
        rw [List.zip_cons_cons]
        rcases List.mem_cons.mp m with rfl | m
        · exact List.mem_cons_self
        · exact List.mem_cons_of_mem _ (ih m)
    | none => rfl
    | int => rfl
    | _ => cases h
theorem tt_shp : ∀ {n : Nat} {x : PyData}, shp n x x = true → tt n x = true
  | 0, x, h => by cases h
  | n + 1, x, h => by
    cases x with
    | tuple xs =>
      have h' : (decide (xs.length ≤ lim) && (xs.zip xs).all fun p => shp n p.1 p.2) = true := h
      rw [Bool.and_eq_true, List.all_eq_true] at h'
      show (decide (xs.length ≤ lim) && xs.all (tt n)) = true
      rw [h'.1, Bool.true_and, List.all_eq_true]
      intro y m
      refine tt_shp (h'.2 (y, y) ?_)
      clear h h'
      induction xs with
      | nil => cases m
      | cons a xs ih =>
        rw [List.zip_cons_cons]
        rcases List.mem_cons.mp m with rfl | m
        · exact List.mem_cons_self
        · exact List.mem_cons_of_mem _ (ih m)
    | none => rfl
    | int => rfl
    | _ => cases h
/-! entries -/
theorem get_mem {α : Type} {kvs : List (PyData × α)} {k : PyData} {v : α} (h : Z.getK kvs k = some v) : ∃ p ∈ kvs, sameKey p.1 k = true ∧ p.2 = v := by
  unfold Z.getK at h
  cases e : kvs.find? fun p => sameKey p.1 k with
  | none => rw [e] at h; cases h
  | some p =>
    rw [e] at h
    cases h
    exact ⟨p, List.mem_of_find?_eq_some e, by simpa using List.find?_some e, rfl⟩
theorem get_none {α : Type} {kvs : List (PyData × α)} {k : PyData} (h : Z.getK kvs k = none) : kvs.any (fun p => sameKey p.1 k) = false := by
  unfold Z.getK at h
  cases e : kvs.find? fun p => sameKey p.1 k with
  | none =>
    rw [List.find?_eq_none] at e
    rw [List.any_eq_false]
    exact e
  | some p => rw [e] at h; cases h
theorem put_new {α : Type} {kvs : List (PyData × α)} {k : PyData} {v : α} (h : kvs.any (fun p => sameKey p.1 k) = false) : Z.putK kvs k v = kvs ++ [(k, v)] := by
  unfold Z.putK
  rw [if_neg (by rw [h]; exact Bool.false_ne_true)]
theorem get_new {α : Type} {kvs : List (PyData × α)} {k : PyData} {v : α} (h : kvs.any (fun p => sameKey p.1 k) = false) (hk : sameKey k k = true) : Z.getK (kvs ++ [(k, v)]) k = some v := by
  unfold Z.getK
  rw [List.find?_append, List.find?_eq_none.mpr (by rw [List.any_eq_false] at h; exact h)]
  simp [hk]
end T

namespace T
open PySem Z L2
/-! ### books -/
theorem kt_mono : ∀ {n N : Nat} {x : PyData}, kt n x = true → n ≤ N → kt N x = true
  | 0, N, x, h, _ => by cases h
  | n + 1, 0, x, h, hn => by omega
  | n + 1, N + 1, x, h, hn => by
    cases x with
    | tuple xs =>
      have h' : xs.all (kt n) = true := h
      show xs.all (kt N) = true
      rw [List.all_eq_true] at h' ⊢
      exact fun y m => kt_mono (h' y m) (Nat.le_of_succ_le_succ hn)
    | none => rfl
    | int => rfl
    | str => rfl
    | _ => cases h
theorem put_get {kvs : List (PyData × RV)} {k : PyData} {v : RV} (hk : sameKey k k = true) : Z.getK (Z.putK kvs k v) k = some v := by
  cases h : kvs.any (fun p => sameKey p.1 k) with
  | false => rw [put_new h]; exact get_new h hk
  | true =>
    unfold Z.putK Z.getK
    rw [if_pos h]
    induction kvs with
    | nil => cases h
    | cons p kvs ih =>
      rw [List.map_cons]
      cases hp : sameKey p.1 k with
      | true =>
        rw [if_pos rfl, List.find?_cons_of_pos (by exact hp)]
        rfl
      | false =>
        rw [if_neg Bool.false_ne_true, List.find?_cons_of_neg (by simp [hp])]
        rw [List.any_cons, hp, Bool.false_or] at h
        exact ih h
theorem put_len {kvs : List (PyData × RV)} {k : PyData} {v : RV} : (Z.putK kvs k v).length ≤ kvs.length + 1 := by
  unfold Z.putK
  split
  · rw [List.length_map]; omega
  · rw [List.length_append]; exact Nat.le_refl _
theorem put_mem {kvs : List (PyData × RV)} {k : PyData} {v : RV} {q : PyData × RV} (h : q ∈ Z.putK kvs k v) : q ∈ kvs ∨ (q.2 = v ∧ (q.1 = k ∨ (sameKey q.1 k = true ∧ ∃ w, (q.1, w) ∈ kvs))) := by
  unfold Z.putK at h
  split at h
  · obtain ⟨p, hp, e⟩ := List.mem_map.mp h
    cases hs : sameKey p.1 k with
    | true => rw [hs, if_pos rfl] at e; subst e; exact .inr ⟨rfl, .inr ⟨hs, p.2, hp⟩⟩
    | false => rw [hs, if_neg Bool.false_ne_true] at e; subst e; exact .inl hp
  · rcases List.mem_append.mp h with h | h
    · exact .inl h
    · rw [List.mem_singleton.mp h]; exact .inr ⟨rfl, .inl rfl⟩
theorem cp_dct {st : Sto} {i : Nat} {kvs : List (PyData × RV)} {k v : PyData} (h : st[i]? = some (.dct kvs)) (hk : keyOk k kvs = true) (hl : kvs.length < lim) : cellPut st i k v = some (st.set i (.dct (Z.putK kvs k (.dat v)))) := by
  unfold cellPut
  rw [h]
  show (if keyOk k kvs = true ∧ kvs.length < lim then some (setAt st i (.dct (Z.putK kvs k (.dat v)))) else none) = _
  rw [if_pos ⟨hk, hl⟩]
  rfl
theorem ci_dct {st : Sto} {i : Nat} {kvs : List (PyData × RV)} {k : PyData} (h : st[i]? = some (.dct kvs)) (hk : keyOk k kvs = true) : cellItem st i k = Z.getK kvs k := by
  unfold cellItem
  rw [h]
  show (if keyOk k kvs = true then Z.getK kvs k else none) = _
  rw [if_pos hk]
theorem set_at {st : Sto} {i : Nat} {c c' : Cell} (h : st[i]? = some c) : (st.set i c')[i]? = some c' := by
  obtain ⟨hl, _⟩ := List.getElem?_eq_some_iff.mp h
  rw [List.getElem?_set, if_pos rfl, if_pos hl]
theorem set_same {st : Sto} {i : Nat} {c : Cell} (h : st[i]? = some c) : st.set i c = st := by
  apply List.ext_getElem?
  intro j
  by_cases e : i = j
  · subst e; rw [set_at h, h]
  · rw [List.getElem?_set_ne e]
@[simp] theorem take_set (st : Sto) (i : Nat) (c : Cell) : (st.set i c).take st.length = st.set i c := by
  rw [List.take_of_length_le]; rw [List.length_set]; exact Nat.le_refl _
/-- an entry of the program's book -/
def KE2 (m : Nat) (p : PyData × RV) : Prop := (chk 9 m p.1 = true ∧ p.2 = .dat (.list (allL 9 m p.1))) ∨ (∃ k kv2, chk 9 m k = true ∧ p.1 = plK k ∧ p.2 = .dat (.dict kv2) ∧ ∀ x ∈ allL 9 m k, (Z.getK kv2 x).isSome = true ∧ keyOk x kv2 = true)
def KI (m : Nat) (kvs : List (PyData × RV)) : Prop := ∀ p ∈ kvs, KE2 m p
theorem good_go {k : PyData} (h : good k = true) : keyG k = true ∧ keyG (plK k) = true ∧ SeqAt.shaped k = true ∧ kt 9 k = true := by
  unfold good at h
  simp only [Bool.and_eq_true] at h
  exact ⟨h.1.1.1, h.1.1.2, h.1.2, h.2⟩
theorem chk_tup {n m : Nat} {k : PyData} (h : chk n m k = true) : ∃ ks, k = .tuple ks := by
  cases n with
  | zero => cases h
  | succ n => cases k <;> first | exact ⟨_, rfl⟩ | cases h
theorem plK_kt {k : PyData} (h : kt 9 k = true) : kt 10 (plK k) = true := by
  show (kt 9 (.str "places") && (kt 9 k && true)) = true
  rw [h]; rfl
theorem chk_ne {n m : Nat} {k k' : PyData} (h : chk n m k = true) : k ≠ plK k' := by
  rintro rfl
  cases n with
  | zero => cases h
  | succ n =>
    have c := chk_go (ks := [k']) (k0 := .str "places") h
    have := chk_tup c.h0
    obtain ⟨_, e⟩ := this
    cases e
theorem KE2.leaf {m : Nat} {p : PyData × RV} (h : KE2 m p) : leafK p.1 = false := by
  rcases h with ⟨h, _⟩ | ⟨k, kv2, _, e, _⟩
  · obtain ⟨ks, e⟩ := chk_tup h; rw [e]; rfl
  · rw [e]; rfl
theorem KE2.kt {m : Nat} {p : PyData × RV} (h : KE2 m p) : T.kt 10 p.1 = true := by
  rcases h with ⟨h, _⟩ | ⟨k, kv2, h, e, _⟩
  · exact kt_mono (good_go (chk_good h)).2.2.2 (by omega)
  · rw [e]; exact plK_kt (good_go (chk_good h)).2.2.2
theorem KI.ok {m : Nat} {kvs : List (PyData × RV)} (h : KI m kvs) {k : PyData} (hk : keyG k = true) (hl : leafK k = false) : keyOk k kvs = true := by
  unfold keyOk
  rw [hk, Bool.true_and, List.all_eq_true]
  intro p hp
  rw [(h p hp).leaf, hl]; rfl
/-- a kind's entry -/
theorem KI.get {m : Nat} {kvs : List (PyData × RV)} (h : KI m kvs) {k : PyData} (hc : chk 9 m k = true) {v : RV} (e : Z.getK kvs k = some v) : v = .dat (.list (allL 9 m k)) := by
  obtain ⟨p, hp, hs, rfl⟩ := get_mem e
  have := same_eq (h p hp).kt (kt_mono (good_go (chk_good hc)).2.2.2 (by omega)) hs
  rcases h p hp with ⟨_, e⟩ | ⟨k', kv2, _, e, _⟩
  · rw [e, this]
  · exact absurd (this ▸ e) (chk_ne hc)
theorem KI.getP {m : Nat} {kvs : List (PyData × RV)} (h : KI m kvs) {k : PyData} (hc : chk 9 m k = true) {v : RV} (e : Z.getK kvs (plK k) = some v) : ∃ kv2, v = .dat (.dict kv2) ∧ ∀ x ∈ allL 9 m k, (Z.getK kv2 x).isSome = true ∧ keyOk x kv2 = true := by
  obtain ⟨p, hp, hs, rfl⟩ := get_mem e
  have := same_eq (h p hp).kt (plK_kt (good_go (chk_good hc)).2.2.2) hs
  rcases h p hp with ⟨h, e⟩ | ⟨k', kv2, _, e, e2, e3⟩
  · exact absurd this (chk_ne h)
  · have : plK k' = plK k := e ▸ this
    unfold plK at this
    simp at this
    subst this
    exact ⟨kv2, e2, e3⟩
theorem KI.put {m : Nat} {kvs : List (PyData × RV)} (h : KI m kvs) {k : PyData} {v : RV} (hk : kt 10 k = true) (hv : KE2 m (k, v)) : KI m (Z.putK kvs k v) := by
  intro q hq
  rcases put_mem hq with hq | ⟨e, hq⟩
  · exact h q hq
  · have e2 : q.1 = k := by
      rcases hq with hq | ⟨hs, w, hw⟩
      · exact hq
      · exact same_eq (h _ hw).kt hk hs
    obtain ⟨q1, q2⟩ := q
    cases e
    cases e2
    exact hv
/-- how many kinds a kind holds -/
def sk : Nat → PyData → Nat
  | 0, _ => 0
  | n + 1, x => match x with
    | .tuple (k0 :: ks) => 1 + sk n k0 + sk n (.tuple ks)
    | _ => 1
theorem eqd_unit {ks : List PyData} (h : SeqAt.shaped (.tuple ks) = true) : eqD (.tuple ks) (.tuple []) = some ks.isEmpty := by
  have e : eqok (.tuple ks) (.tuple []) = true := by
    show (SeqAt.shaped (.tuple ks) && SeqAt.shaped (.tuple [])) = true
    rw [h]; rfl
  unfold eqD
  rw [if_pos e]
  cases ks <;> rfl
theorem cut1 (k0 : PyData) (ks : List PyData) : cutL (k0 :: ks) (some 1) none = ks := by
  have : cutAt (k0 :: ks).length 1 = 1 := by
    unfold cutAt
    rw [if_neg (by decide), List.length_cons]
    show min 1 (ks.length + 1) = 1
    omega
  show (List.take (k0 :: ks).length (k0 :: ks)).drop (cutAt (k0 :: ks).length 1) = ks
  rw [this, List.take_length]
  rfl
theorem place0 (n : Nat) : place (n + 1) 0 = some 0 := place_nat (n := n + 1) (k := 0) (Nat.succ_pos n)
theorem all_ok : ∀ (n d m : Nat) (k : PyData) (i : Nat) (st : Sto) (kvs : List (PyData × RV)), chk n m k = true → n ≤ 9 → m ≤ 3 → st[i]? = some (.dct kvs) → KI m kvs → kvs.length + sk n k ≤ 1000000 → ∃ kvs', callF cf defs (d + n + 11) "all_elements" [.dat (.int (m : Nat)), .dat k, .ref i] st = .ok (.dat (.list (allL 9 m k))) (st.set i (.dct kvs')) ∧ KI m kvs' ∧ kvs'.length ≤ kvs.length + sk n k
  | 0, d, m, k, i, st, kvs, h, _, _, _, _, _ => by cases h
  | n + 1, d, m, k, i, st, kvs, h, hn, hm, hi, hI, hl => by
    have IH := fun k (h : chk n m k = true) => fun st kvs a b c => all_ok n d m k i st kvs h (by omega) hm a b c
    show ∃ kvs', callF cf defs ((d + n + 11) + 1) "all_elements" [.dat (.int (m : Nat)), .dat k, .ref i] st = _ ∧ _
    obtain ⟨h9, c9⟩ := all_fuel h hn
    obtain ⟨g1, g2, g3, g4⟩ := good_go (chk_good h)
    obtain ⟨ks, rfl⟩ := chk_tup h
    have hok := fun kvs (hI : KI m kvs) => hI.ok g1 rfl
    have k10 := kt_mono g4 (show 9 ≤ 10 by omega)
    cases hg : Z.getK kvs (.tuple ks) with
    | some v =>
      have := hI.get c9 hg
      subst this
      refine ⟨kvs, ?_, hI, Nat.le_add_right _ _⟩
      rw [set_same hi]
      rw [op_all_elements]
      have eB : defBody (top 20) = defBody (top 20) := rfl
      conv at eB => rhs; whnf
      rw [eB]
      clear eB
      simp [evN, bi_assoc, -List.map_map, -List.map_reverse, -List.getD_eq_getElem?_getD, in_ref _ _ _ kvs hi (hok kvs hI), hg, ci_dct hi (hok kvs hI)] <;> (try simp only [b_out])
    | none =>
      cases ks with
      | nil =>
        have e0 : allL 9 m (.tuple []) = base m := rfl
        have hI' : KI m (Z.putK kvs (.tuple []) (.dat (.list (base m)))) := hI.put k10 (.inl ⟨c9, rfl⟩)
        have hm2 : 1 + m ≤ lim := by unfold lim; omega
        have hkl : kvs.length < lim := by unfold lim; omega
        have eb : PyData.none :: List.map (fun i : Nat => PyData.int (i : Nat)) (List.range m) = base m := rfl
        refine ⟨Z.putK kvs (.tuple []) (.dat (.list (base m))), ?_, hI', put_len⟩
        rw [e0]
        rw [op_all_elements]
        have eB : defBody (top 20) = defBody (top 20) := rfl
        conv at eB => rhs; whnf
        rw [eB]
        clear eB
        simp [evN, bi_assoc, -List.map_map, -List.map_reverse, -List.getD_eq_getElem?_getD, in_ref _ _ _ kvs hi (hok kvs hI), hg, eqd_unit g3, rangeL_nat (show m ≤ 1000000 by omega), hm2, eb, cp_dct hi (hok kvs hI) hkl, ci_dct (set_at hi) (hok _ hI'), put_get (same_rfl k10)] <;> (try simp only [b_out])
      | cons k0 ks =>
        have c := chk_go h
        obtain ⟨a1, b1⟩ := all_fuel c.h0 (show n ≤ 9 by omega)
        obtain ⟨a2, b2⟩ := all_fuel c.hs (show n ≤ 9 by omega)
        have es : sk (n + 1) (.tuple (k0 :: ks)) = 1 + sk n k0 + sk n (.tuple ks) := rfl
        rw [es] at hl ⊢
        obtain ⟨kv1, e1, i1, l1⟩ := IH k0 c.h0 st kvs hi hI (by omega)
        obtain ⟨kv2, e2, i2, l2⟩ := IH (.tuple ks) c.hs _ kv1 (set_at hi) i1 (by omega)
        rw [List.set_set] at e2
        have hT := tables_ok (d + n) (allL 9 m k0) (allL 9 m (.tuple ks)) (st.set i (.dct kv2)) (sh9 b1 (by omega)) (sh9 b2 (by omega)) (by rw [a1]; exact c.l0) (by rw [a2]; exact c.ls) (by rw [a1, a2]; exact c.tl)
        have et : tabL (allL 9 m k0) (allL 9 m (.tuple ks)) = allL 9 m (.tuple (k0 :: ks)) := by rw [h9, a1, a2]; rfl
        rw [et] at hT
        have hI' : KI m (Z.putK kv2 (.tuple (k0 :: ks)) (.dat (.list (allL 9 m (.tuple (k0 :: ks)))))) := i2.put k10 (.inl ⟨c9, rfl⟩)
        have hkl : kv2.length < lim := by unfold lim; omega
        refine ⟨_, ?_, hI', by have := @put_len kv2 (.tuple (k0 :: ks)) (.dat (.list (allL 9 m (.tuple (k0 :: ks))))); omega⟩
        rw [op_all_elements]
        have eB : defBody (top 20) = defBody (top 20) := rfl
        conv at eB => rhs; whnf
        rw [eB]
        clear eB
        simp [evN, bi_assoc, -List.map_map, -List.map_reverse, -List.getD_eq_getElem?_getD, in_ref _ _ _ kvs hi (hok kvs hI), hg, eqd_unit g3, place0, cut1, e1, e2, hT, cp_dct (set_at hi) (hok kv2 i2) hkl, ci_dct (set_at hi) (hok _ hI'), put_get (same_rfl k10)] <;> (try simp only [b_out])
end T

namespace T
open PySem Z L2
/-! ### the law's tables -/
structure L6 (α : Type) where
  v : α
  a : Option RV
  b : Option RV
  c : Option RV
  d : Option RV
  e : Option RV
  f : Option RV
theorem lall_ok : ∀ (n d m : Nat) (k : PyData) (i : Nat) (st : Sto) (kvs : List (PyData × RV)), chk n m k = true → n ≤ 9 → m ≤ 3 → st[i]? = some (.dct kvs) → KI m kvs → kvs.length + sk n k ≤ 1000000 → ∃ kvs', callF cf defs (d + n + 11) "_law_all" [.ref i, .dat (.int (m : Nat)), .dat k] st = .ok (.dat (.list (allL 9 m k))) (st.set i (.dct kvs')) ∧ KI m kvs' ∧ kvs'.length ≤ kvs.length + sk n k
  | 0, d, m, k, i, st, kvs, h, _, _, _, _, _ => by cases h
  | n + 1, d, m, k, i, st, kvs, h, hn, hm, hi, hI, hl => by
    have IH := fun k (h : chk n m k = true) => fun st kvs a b c => lall_ok n d m k i st kvs h (by omega) hm a b c
    show ∃ kvs', callF cf defs ((d + n + 11) + 1) "_law_all" [.ref i, .dat (.int (m : Nat)), .dat k] st = _ ∧ _
    obtain ⟨h9, c9⟩ := all_fuel h hn
    obtain ⟨g1, g2, g3, g4⟩ := good_go (chk_good h)
    obtain ⟨ks, rfl⟩ := chk_tup h
    have hok := fun kvs (hI : KI m kvs) => hI.ok g1 rfl
    have k10 := kt_mono g4 (show 9 ≤ 10 by omega)
    cases hg : Z.getK kvs (.tuple ks) with
    | some v =>
      have := hI.get c9 hg
      subst this
      refine ⟨kvs, ?_, hI, Nat.le_add_right _ _⟩
      rw [set_same hi]
      rw [op__law_all]
      have eB : defBody (top 38) = defBody (top 38) := rfl
      conv at eB => rhs; whnf
      rw [eB]
      clear eB
      simp [evN, bi_assoc, -List.map_map, -List.map_reverse, -List.getD_eq_getElem?_getD, in_ref _ _ _ kvs hi (hok kvs hI), hg, ci_dct hi (hok kvs hI)] <;> (try simp only [b_out])
    | none =>
      cases ks with
      | nil =>
        have e0 : allL 9 m (.tuple []) = base m := rfl
        have hI' : KI m (Z.putK kvs (.tuple []) (.dat (.list (base m)))) := hI.put k10 (.inl ⟨c9, rfl⟩)
        have hm2 : 1 + m ≤ lim := by unfold lim; omega
        have hkl : kvs.length < lim := by unfold lim; omega
        have eb : PyData.none :: List.map (fun i : Nat => PyData.int (i : Nat)) (List.range m) = base m := rfl
        refine ⟨Z.putK kvs (.tuple []) (.dat (.list (base m))), ?_, hI', put_len⟩
        rw [e0]
        rw [op__law_all]
        have eB : defBody (top 38) = defBody (top 38) := rfl
        conv at eB => rhs; whnf
        rw [eB]
        clear eB
        simp [evN, bi_assoc, -List.map_map, -List.map_reverse, -List.getD_eq_getElem?_getD, in_ref _ _ _ kvs hi (hok kvs hI), hg, eqd_unit g3, rangeL_nat (show m ≤ 1000000 by omega), hm2, eb, cp_dct hi (hok kvs hI) hkl, ci_dct (set_at hi) (hok _ hI'), put_get (same_rfl k10)] <;> (try simp only [b_out])
      | cons k0 ks =>
        have c := chk_go h
        obtain ⟨a1, b1⟩ := all_fuel c.h0 (show n ≤ 9 by omega)
        obtain ⟨a2, b2⟩ := all_fuel c.hs (show n ≤ 9 by omega)
        have es : sk (n + 1) (.tuple (k0 :: ks)) = 1 + sk n k0 + sk n (.tuple ks) := rfl
        rw [es] at hl ⊢
        obtain ⟨kv1, e1, i1, l1⟩ := IH k0 c.h0 st kvs hi hI (by omega)
        obtain ⟨kv2, e2, i2, l2⟩ := IH (.tuple ks) c.hs _ kv1 (set_at hi) i1 (by omega)
        rw [List.set_set] at e2
        have et : tabL (allL 9 m k0) (allL 9 m (.tuple ks)) = allL 9 m (.tuple (k0 :: ks)) := by rw [h9, a1, a2]; rfl
        have hI' : KI m (Z.putK kv2 (.tuple (k0 :: ks)) (.dat (.list (allL 9 m (.tuple (k0 :: ks)))))) := i2.put k10 (.inl ⟨c9, rfl⟩)
        have hkl : kv2.length < lim := by unfold lim; omega
        refine ⟨_, ?_, hI', by have := @put_len kv2 (.tuple (k0 :: ks)) (.dat (.list (allL 9 m (.tuple (k0 :: ks))))); omega⟩
        have h1 := sh9 b1 (show 9 ≤ 9 by omega)
        have h2 := sh9 b2 (show 9 ≤ 9 by omega)
        have l1' := c.l0
        have l2' := c.ls
        have tl := c.tl
        have no := c.no
        rw [← a1] at l1' tl no
        rw [← a2] at l2' tl
        rw [op__law_all]
        have eB : defBody (top 38) = defBody (top 38) := rfl
        conv at eB => rhs; whnf
        rw [eB]
        clear eB
        simp [evN, bi_assoc, -List.map_map, -List.map_reverse, -List.getD_eq_getElem?_getD, in_ref _ _ _ kvs hi (hok kvs hI), hg, eqd_unit g3, place0, cut1, e1, e2] <;> (try simp only [b_out])
        generalize allL 9 m k0 = ins at *
        generalize allL 9 m (.tuple ks) = outs at *
        clear e1 e2 IH a1 a2 h9
        have LB : ∀ a ∈ ins, ∀ b ∈ ins, ∀ st, callF cf defs (d + n + 11) "_law_below" [.dat a, .dat b] st = .ok (.dat (.bool (bel 9 a b))) st := fun a ha b hb st => below_ok 9 (d + n + 1) a b st (h1 a ha b hb)
        have LO : ∀ a ∈ outs, ∀ b ∈ outs, ∀ st, callF cf defs (d + n + 11) "_law_below" [.dat a, .dat b] st = .ok (.dat (.bool (bel 9 a b))) st := fun a ha b hb st => below_ok 9 (d + n + 1) a b st (h2 a ha b hb)
        rw [show numb 0 ins = _ from numb_eq ins 0]
        simp [evN, bi_assoc, -List.map_map, -List.map_reverse, -List.getD_eq_getElem?_getD] <;> (try simp only [b_out])
        refine fo_rw (γ := L6 (List (List PyData))) (G := fun r => r = R.ok (RV.dat (.list (allL 9 m (.tuple (k0 :: ks))))) (st.set i (.dct (Z.putK kv2 (.tuple (k0 :: ks)) (.dat (.list (allL 9 m (.tuple (k0 :: ks)))))))))
          (fun p : PyData × Nat => RV.dat (.tuple [.int (p.2 : Nat), p.1])) (fun s => [some (.ref i), some (.dat (.int (m : Nat))), some (.dat (.tuple (k0 :: ks))), some (.own ((s.v.map PyData.tuple).map .dat)), some (.dat (.list ins)), some (.dat (.list outs)), s.a, s.b, s.c, s.d, none, s.e, s.f, none]) (fun _ => st.set i (.dct kv2)) (fun done s => s.v = tabTo ins outs done.length) ins.zipIdx ⟨[[]], none, none, none, none, none, none⟩ rfl ?_ ?_ rfl
        · intro done p rest s hj hd G hG
          obtain ⟨hp1, hp2, hp3⟩ := zi_split hd
          obtain ⟨p1, j⟩ := p
          dsimp only at hp1 hp2 hp3 ⊢
          subst hp3
          have hr : j ≤ 1000000 := by omega
          have hun : (undL ins j).length ≤ lim := Nat.le_trans (List.length_filter_le _ _) (by rw [List.length_range]; unfold lim; omega)
          have tl1 := tl (j + 1) hp2
          rw [tabTo_succ] at tl1
          rw [← hp1] at hj
          have hpm := getD_mem hp2
          simp [evN, bi_assoc, -List.map_map, -List.map_reverse, -List.getD_eq_getElem?_getD, range1_nat hr] <;> (try simp only [b_out])
          rw [lc_xF (List.range j) (fun k : Nat => RV.dat (.int (k : Nat))) (fun k => bel 9 (ins.getD k .none) (ins.getD j .none)) (fun k => RV.dat (.int (k : Nat))) rfl fun k mk => by
            have hk : k < ins.length := by have := List.mem_range.mp mk; omega
            have := LB _ (getD_mem hk) _ hpm (st.set i (.dct kv2))
            cases hb : bel 9 (ins.getD k .none) (ins.getD j .none) <;> simp [lc_cons, lc_nil, evN, bi_assoc, place_nat hk, getD_of hk, this, hb, -List.getD_eq_getElem?_getD] <;> (try simp only [b_out])]
          rw [show (List.range j).filter (fun k => bel 9 (ins.getD k .none) (ins.getD j .none)) = undL ins j from rfl]
          simp [evN, bi_assoc, -List.map_map, -List.map_reverse, -List.getD_eq_getElem?_getD, hun, range1_nat hr] <;> (try simp only [b_out])
          rw [lc_xF (List.range j) (fun k : Nat => RV.dat (.int (k : Nat))) (fun k => bel 9 (ins.getD j .none) (ins.getD k .none)) (fun k => RV.dat (.int (k : Nat))) rfl fun k mk => by
            have hk : k < ins.length := by have := List.mem_range.mp mk; omega
            have := LB _ hpm _ (getD_mem hk) (st.set i (.dct kv2))
            cases hb : bel 9 (ins.getD j .none) (ins.getD k .none) <;> simp [lc_cons, lc_nil, evN, bi_assoc, place_nat hk, getD_of hk, this, hb, -List.getD_eq_getElem?_getD] <;> (try simp only [b_out])]
          rw [show (List.range j).filter (fun k => bel 9 (ins.getD j .none) (ins.getD k .none)) = [] from List.filter_eq_nil_iff.mpr fun k mk => by rw [no j hp2 k (List.mem_range.mp mk)]; exact Bool.false_ne_true]
          simp [evN, bi_assoc, -List.map_map, -List.map_reverse, -List.getD_eq_getElem?_getD] <;> (try simp only [b_out])
          refine fo_rw (γ := L6 (List (List PyData))) (fun t : List PyData => RV.dat (.tuple t)) (fun s' => [some (.ref i), some (.dat (.int (m : Nat))), some (.dat (.tuple (k0 :: ks))), some (.dat (.list (s.v.map PyData.tuple))), some (.dat (.list ins)), some (.dat (.list outs)), some (.dat (.int (j : Nat))), some (.dat (ins.getD j .none)), some (.dat (.list ((undL ins j).map fun k => PyData.int (k : Nat)))), some (.dat (.list [])), some (.own ((s'.v.map PyData.tuple).map .dat)), s'.e, s'.f, none]) (fun _ => st.set i (.dct kv2)) (fun done s => s.v = done.flatMap (ext1 (undL ins j) outs)) s.v ⟨[], none, none, none, none, s.e, s.f⟩ rfl ?_ ?_ (by rw [List.map_map]; rfl)
          · intro done2 t rest2 s2 hj2 hd2 G2 hG2
            have ht : t ∈ tabTo ins outs j := by rw [← hj, ← hd2]; exact List.mem_append_right _ List.mem_cons_self
            obtain ⟨t1, t2⟩ := tab_inv ht
            simp [evN, bi_assoc, -List.map_map, -List.map_reverse, -List.getD_eq_getElem?_getD] <;> (try simp only [b_out])
            refine fo_rw (γ := L6 (List (List PyData))) (fun t : PyData => RV.dat t) (fun s' => [some (.ref i), some (.dat (.int (m : Nat))), some (.dat (.tuple (k0 :: ks))), some (.dat (.list (s.v.map PyData.tuple))), some (.dat (.list ins)), some (.dat (.list outs)), some (.dat (.int (j : Nat))), some (.dat (ins.getD j .none)), some (.dat (.list ((undL ins j).map fun k => PyData.int (k : Nat)))), some (.dat (.list [])), some (.own ((s'.v.map PyData.tuple).map .dat)), some (.dat (.tuple t)), s'.f, none]) (fun _ => st.set i (.dct kv2)) (fun done s => s.v = s2.v ++ (done.filter (fits (undL ins j) t)).map fun o => t ++ [o]) outs ⟨s2.v, none, none, none, none, none, s2.f⟩ (by simp) ?_ ?_ rfl
            · intro done3 o rest3 s3 hj3 hd3 G3 hG3
              have ho : o ∈ outs := by rw [← hd3]; exact List.mem_append_right _ List.mem_cons_self
              have hlen : s3.v.length < lim := by
                have e1 : (ext ins outs (tabTo ins outs j) j).length = (done2.flatMap (ext1 (undL ins j) outs)).length + ((outs.filter (fits (undL ins j) t)).length + (rest2.flatMap (ext1 (undL ins j) outs)).length) := by
                  unfold ext
                  rw [← hj, ← hd2, List.flatMap_append, List.flatMap_cons, List.length_append, List.length_append]
                  congr 2
                  unfold ext1
                  rw [List.length_map]
                have e2 : (outs.filter (fits (undL ins j) t)).length = (done3.filter (fits (undL ins j) t)).length + ((o :: rest3).filter (fits (undL ins j) t)).length := by
                  rw [← hd3, List.filter_append, List.length_append]
                rw [hj3, List.length_append, List.length_map, hj2]
                unfold lim
                omega
              have htl : t.length + 1 ≤ lim := by unfold lim; omega
              simp [evN, bi_assoc, -List.map_map, -List.map_reverse, -List.getD_eq_getElem?_getD] <;> (try simp only [b_out])
              rw [lc_x1 (undL ins j) (fun k : Nat => RV.dat (.int (k : Nat))) (fun k => .dat (.bool (bel 9 (t.getD k .none) o))) (by rw [List.map_map]; rfl) fun k mk => by
                have hk : k < t.length := by rw [t1]; exact List.mem_range.mp (List.mem_filter.mp mk).1
                have := LO _ (t2 _ (getD_mem hk)) _ ho (st.set i (.dct kv2))
                simp [lc_cons, lc_nil, evN, bi_assoc, place_nat hk, getD_of hk, this, -List.getD_eq_getElem?_getD] <;> (try simp only [b_out])]
              simp [evN, bi_assoc, -List.map_map, -List.map_reverse, -List.getD_eq_getElem?_getD, hun, lc_nil] <;> (try simp only [b_out])
              by_cases hf : fits (undL ins j) t o = true
              · rw [if_pos (List.all_eq_true.mp hf)]
                simp [evN, bi_assoc, -List.map_map, -List.map_reverse, -List.getD_eq_getElem?_getD, htl, hlen, lc_nil] <;> (try simp only [b_out])
                have := hG3 ⟨s3.v ++ [t ++ [o]], none, none, none, none, none, some (.dat o)⟩ (by rw [hj3, List.filter_append, List.filter_cons, if_pos hf, List.map_append, List.append_assoc]; rfl)
                simpa [-List.map_map, -List.getD_eq_getElem?_getD] using this
              · have hf' : ¬ ∀ x : Nat, x ∈ undL ins j → bel 9 (t.getD x .none) o = true := fun h => hf (List.all_eq_true.mpr h)
                simp [evN, bi_assoc, -List.map_map, -List.map_reverse, -List.getD_eq_getElem?_getD, hf'] <;> (try simp only [b_out])
                have := hG3 ⟨s3.v, none, none, none, none, none, some (.dat o)⟩ (by rw [hj3, List.filter_append, List.filter_cons, if_neg hf]; simp)
                simpa [-List.map_map, -List.getD_eq_getElem?_getD] using this
            · intro s3 hj3
              have := hG2 ⟨s3.v, none, none, none, none, some (.dat (.tuple t)), s3.f⟩ (by rw [hj3, hj2, List.flatMap_append, List.flatMap_singleton]; rfl)
              simpa [-List.map_map, -List.getD_eq_getElem?_getD] using this
          · intro s2 hj2
            simp [evN, bi_assoc, -List.map_map, -List.map_reverse, -List.getD_eq_getElem?_getD] <;> (try simp only [b_out])
            have := hG ⟨s2.v, some (.dat (.int (j : Nat))), some (.dat (ins.getD j .none)), some (.dat (.list ((undL ins j).map fun k => PyData.int (k : Nat)))), some (.dat (.list [])), s2.e, s2.f⟩ (by rw [List.length_append, ← hp1, hj2]; show _ = tabTo ins outs (j + 1); rw [tabTo_succ, ← hj]; rfl)
            simpa [-List.map_map, -List.getD_eq_getElem?_getD] using this
        · intro s hj
          rw [List.length_zipIdx] at hj
          have hv : s.v.map PyData.tuple = allL 9 m (.tuple (k0 :: ks)) := by rw [hj]; exact et
          simp [evN, bi_assoc, -List.map_map, -List.map_reverse, -List.getD_eq_getElem?_getD, hv, cp_dct (set_at hi) (hok kv2 i2) hkl, ci_dct (set_at hi) (hok _ hI'), put_get (same_rfl k10)] <;> (try simp only [b_out])
end T

namespace T
open PySem Z L2
/-! ### places -/
theorem in_dict {st : Sto} (neg : Bool) (k : PyData) (kvs : List (PyData × PyData)) (hk : keyOk k kvs = true) : inR neg k (.dat (.dict kvs)) st = .ok (.dat (.bool (if neg then !(Z.getK kvs k).isSome else (Z.getK kvs k).isSome))) st := by
  unfold inR
  simp only [vw_dat, o_some, b_ok, hk, if_true]
def fd (p : PyData × PyData) : PyData × RV := (p.1, .dat p.2)
theorem dkv_fd (kv : List (PyData × PyData)) : deepKv (kv.map fd) = some kv := by
  induction kv with
  | nil => rw [List.map_nil, deepKv]
  | cons p kv ih => rw [List.map_cons, fd, deepKv, ih, deep]
theorem put_fd (kv : List (PyData × PyData)) (k v : PyData) : Z.putK (kv.map fd) k (.dat v) = (Z.putK kv k v).map fd := by
  unfold Z.putK
  rw [List.any_map]
  have e : ((fun p : PyData × RV => sameKey p.1 k) ∘ fd) = fun p => sameKey p.1 k := rfl
  rw [e]
  split
  · rw [List.map_map, List.map_map]
    apply List.map_congr_left
    intro p _
    show (if sameKey p.1 k then (p.1, RV.dat v) else fd p) = fd (if sameKey p.1 k then (p.1, v) else p)
    split <;> rfl
  · rw [List.map_append]; rfl
theorem put_has {kv : List (PyData × PyData)} {k v x : PyData} (h : (Z.getK kv x).isSome = true) : (Z.getK (Z.putK kv k v) x).isSome = true := by
  unfold Z.putK
  split
  · unfold Z.getK at h ⊢
    rw [Option.isSome_map] at h ⊢
    rw [List.find?_isSome] at h ⊢
    obtain ⟨p, hp, hs⟩ := h
    refine ⟨_, List.mem_map.mpr ⟨p, hp, rfl⟩, ?_⟩
    split
    · exact hs
    · exact hs
  · unfold Z.getK at h ⊢
    rw [Option.isSome_map] at h ⊢
    rw [List.find?_isSome] at h ⊢
    obtain ⟨p, hp, hs⟩ := h
    exact ⟨p, List.mem_append_left _ hp, hs⟩
theorem put_hasK {kv : List (PyData × PyData)} {k v : PyData} (hk : sameKey k k = true) : (Z.getK (Z.putK kv k v) k).isSome = true := by
  unfold Z.putK
  split
  · rename_i h
    unfold Z.getK
    rw [Option.isSome_map, List.find?_isSome]
    rw [List.any_eq_true] at h
    obtain ⟨p, hp, hs⟩ := h
    refine ⟨_, List.mem_map.mpr ⟨p, hp, rfl⟩, ?_⟩
    rw [if_pos hs]
    exact hs
  · unfold Z.getK
    rw [Option.isSome_map, List.find?_isSome]
    exact ⟨(k, v), List.mem_append_right _ List.mem_cons_self, hk⟩
theorem put_mem2 {kv : List (PyData × PyData)} {k v : PyData} {q : PyData × PyData} (h : q ∈ Z.putK kv k v) : q.1 = k ∨ ∃ w, (q.1, w) ∈ kv := by
  unfold Z.putK at h
  split at h
  · obtain ⟨p, hp, e⟩ := List.mem_map.mp h
    cases hs : sameKey p.1 k with
    | true => rw [hs, if_pos rfl] at e; subst e; exact .inr ⟨p.2, hp⟩
    | false => rw [hs, if_neg Bool.false_ne_true] at e; subst e; exact .inr ⟨p.2, hp⟩
  · rcases List.mem_append.mp h with h | h
    · exact .inr ⟨q.2, h⟩
    · rw [List.mem_singleton.mp h]; exact .inl rfl
theorem put_len2 {kv : List (PyData × PyData)} {k v : PyData} : (Z.putK kv k v).length ≤ kv.length + 1 := by
  unfold Z.putK
  split
  · rw [List.length_map]; omega
  · rw [List.length_append]; exact Nat.le_refl _
theorem dc_all {δ : Type} {N : List Str} {ev : Expr → Ev → Sto → R RV} {tg : Expr} {k v : Expr} {env : Ev} {st : Sto} (h : δ → RV) (key val : δ → PyData) : ∀ {ps : List δ} (acc : List (PyData × PyData)), (∀ p ∈ ps, (∃ env', asgT N tg (h p) env = some env' ∧ evV ev k env' st = .ok (key p) st ∧ ev v env' st = .ok (.dat (val p)) st) ∧ keyG (key p) = true ∧ leafK (key p) = false ∧ sameKey (key p) (key p) = true) → (∀ p ∈ acc, leafK p.1 = false) → acc.length + ps.length < lim → ∃ kv : List (PyData × PyData), dcF N ev tg [] k v env (ps.map h) (acc.map fd) st = .ok (kv.map fd) st ∧ (∀ p ∈ kv, leafK p.1 = false) ∧ (∀ x, (Z.getK acc x).isSome = true → (Z.getK kv x).isSome = true) ∧ ∀ p ∈ ps, (Z.getK kv (key p)).isSome = true
  | [], acc, _, ha, _ => ⟨acc, rfl, ha, fun _ h => h, fun p m => by cases m⟩
  | p :: ps, acc, hh, ha, hl => by
    obtain ⟨⟨env', e1, e2, e3⟩, hk, hlf, hs⟩ := hh p List.mem_cons_self
    rw [List.length_cons] at hl
    have hok : keyOk (key p) (acc.map fd) = true := by
      unfold keyOk
      rw [hk, Bool.true_and, List.all_map, List.all_eq_true]
      intro q hq
      show (leafK q.1 == leafK (key p)) = true
      rw [ha q hq, hlf]; rfl
    obtain ⟨kv, f1, f2, f3, f4⟩ := dc_all h key val (ps := ps) (Z.putK acc (key p) (val p)) (fun q m => hh q (List.mem_cons_of_mem _ m)) (fun q hq => by
      rcases put_mem2 hq with e | ⟨w, hw⟩
      · rw [e, hlf]
      · exact ha (q.1, w) hw) (by have := @put_len2 acc (key p) (val p); omega)
    refine ⟨kv, ?_, f2, fun x hx => f3 x (put_has hx), fun q m => ?_⟩
    · show ((ofO (asgT N tg (h p) env) st).bind fun env' st => (tests ev [] env' st).bind fun b st =>
        if b then (evV ev k env' st).bind fun kd st => ((ev v env' st).bind fun v st => ofO (elem v) st).bind fun w st => if keyOk kd (acc.map fd) && (isDat w || !((acc.map fd).any fun p => sameKey p.1 kd)) && decide ((acc.map fd).length < lim) then dcF N ev tg [] k v env (ps.map h) (Z.putK (acc.map fd) kd w) st else .err
        else dcF N ev tg [] k v env (ps.map h) (acc.map fd) st) = _
      rw [e1, o_some, b_ok]
      show ((evV ev k env' st).bind fun kd st => ((ev v env' st).bind fun v st => ofO (elem v) st).bind fun w st => if keyOk kd (acc.map fd) && (isDat w || !((acc.map fd).any fun p => sameKey p.1 kd)) && decide ((acc.map fd).length < lim) then dcF N ev tg [] k v env (ps.map h) (Z.putK (acc.map fd) kd w) st else .err) = _
      rw [e2, b_ok, e3, b_ok, em_dat, o_some, b_ok, if_pos, put_fd, f1]
      rw [hok, List.length_map, decide_eq_true (by omega)]; rfl
    · rcases List.mem_cons.mp m with rfl | m
      · exact f3 _ (put_hasK hs)
      · exact f4 q m
theorem dc_G {δ β : Type} {G : R β → Prop} {F : List (PyData × RV) → Sto → R β} {N : List Str} {ev : Expr → Ev → Sto → R RV} {tg : Expr} {k v : Expr} {env : Ev} {st : Sto} {xs : List RV} (ps : List δ) (h : δ → RV) (key val : δ → PyData) (hx : xs = ps.map h) (hh : ∀ p ∈ ps, (∃ env', asgT N tg (h p) env = some env' ∧ evV ev k env' st = .ok (key p) st ∧ ev v env' st = .ok (.dat (val p)) st) ∧ keyG (key p) = true ∧ leafK (key p) = false ∧ sameKey (key p) (key p) = true) (hl : ps.length < lim)
    (kk : ∀ kv : List (PyData × PyData), (∀ p ∈ kv, leafK p.1 = false) → (∀ p ∈ ps, (Z.getK kv (key p)).isSome = true) → G (F (kv.map fd) st)) : G ((noExc (dcF N ev tg [] k v env xs [] st)).bind F) := by
  obtain ⟨kv, e, a, _, b⟩ := dc_all h key val [] hh (fun p m => by cases m) (by simpa using hl)
  rw [hx]
  rw [List.map_nil] at e
  rw [e, ne_ok, b_ok]
  exact kk kv a b
theorem kd_dep : ∀ {n : Nat} {a : PyData} {x : NestedKey}, kt n a = true → keyD a = some x → x.depth ≤ n
  | 0, a, x, h, e => by cases h
  | n + 1, a, x, h, e => by
    cases a with
    | none => rw [keyD] at e; cases e; exact Nat.zero_le _
    | int => rw [keyD] at e; cases e; exact Nat.zero_le _
    | str => rw [keyD] at e; cases e; exact Nat.zero_le _
    | tuple xs =>
      obtain ⟨us, e1, rfl⟩ := kd_tup e
      replace h : xs.all (kt n) = true := h
      show NestedKey.depthAll us + 1 ≤ n + 1
      have : NestedKey.depthAll us ≤ n := by
        clear e
        induction xs generalizing us with
        | nil => rw [keyDs] at e1; cases e1; exact Nat.zero_le _
        | cons x xs ih =>
          obtain ⟨u, us', f1, f2, rfl⟩ := kds_cons e1
          rw [List.all_cons, Bool.and_eq_true] at h
          have a1 := kd_dep h.1 f1
          have a2 := ih us' f2 h.2
          have : NestedKey.depthAll (u :: us') = max u.depth (NestedKey.depthAll us') := by conv => lhs; unfold NestedKey.depthAll
          rw [this]; omega
      omega
    | _ => cases h
theorem key_el {n m : Nat} {k x : PyData} (h : chk n m k = true) (hn : n ≤ 8) (hx : x ∈ allL 9 m k) : keyG x = true ∧ sameKey x x = true := by
  rw [(all_fuel h (show n ≤ 9 by omega)).1] at hx
  have hk := kt_shp (shp_mono (sh_all h x hx x hx) hn)
  refine ⟨?_, same_rfl hk⟩
  obtain ⟨ke, e, _⟩ := kd_some hk
  have hd := kd_dep hk e
  unfold keyG
  cases x with
  | bool => cases hk
  | _ => simp only [e]; exact decide_eq_true hd
theorem el_tup {n m : Nat} {k0 : PyData} {ks : List PyData} {x : PyData} (h : chk n m (.tuple (k0 :: ks)) = true) (hn : n ≤ 9) (hx : x ∈ allL 9 m (.tuple (k0 :: ks))) : ∃ t, x = .tuple t ∧ t.length = (allL 9 m k0).length ∧ ∀ e ∈ t, e ∈ allL 9 m (.tuple ks) := by
  rw [(all_fuel h hn).1] at hx
  cases n with
  | zero => cases h
  | succ n =>
    have c := chk_go h
    rw [(all_fuel c.h0 (show n ≤ 9 by omega)).1, (all_fuel c.hs (show n ≤ 9 by omega)).1]
    obtain ⟨t, ht, rfl⟩ := List.mem_map.mp (show x ∈ tabL (allL n m k0) (allL n m (.tuple ks)) from hx)
    obtain ⟨t1, t2⟩ := tab_inv ht
    exact ⟨t, rfl, t1, t2⟩
theorem all_len {n m : Nat} {k0 : PyData} {ks : List PyData} (h : chk n m (.tuple (k0 :: ks)) = true) (hn : n ≤ 9) : (allL 9 m (.tuple (k0 :: ks))).length ≤ 1000000 := by
  rw [(all_fuel h hn).1]
  cases n with
  | zero => cases h
  | succ n =>
    have c := chk_go h
    show (tabL (allL n m k0) (allL n m (.tuple ks))).length ≤ _
    unfold tabL
    rw [List.length_map]
    exact c.tl _ (Nat.le_refl _)
theorem places_ok (n d m : Nat) (k0 : PyData) (ks : List PyData) (i : Nat) (st : Sto) (kvs : List (PyData × RV)) (h : chk n m (.tuple (k0 :: ks)) = true) (hn : n ≤ 8) (hm : m ≤ 3) (hi : st[i]? = some (.dct kvs)) (hI : KI m kvs) (hl : kvs.length + sk n (.tuple (k0 :: ks)) + 1 ≤ 1000000) : ∃ kvs' kv2, callF cf defs (d + n + 12) "places_of" [.dat (.int (m : Nat)), .dat (.tuple (k0 :: ks)), .ref i] st = .ok (.dat (.dict kv2)) (st.set i (.dct kvs')) ∧ (∀ x ∈ allL 9 m (.tuple (k0 :: ks)), (Z.getK kv2 x).isSome = true ∧ keyOk x kv2 = true) ∧ KI m kvs' ∧ kvs'.length ≤ kvs.length + sk n (.tuple (k0 :: ks)) + 1 := by
  obtain ⟨h9, c9⟩ := all_fuel h (show n ≤ 9 by omega)
  obtain ⟨g1, g2, g3, g4⟩ := good_go (chk_good h)
  have hok := fun kvs (hI : KI m kvs) => hI.ok g2 rfl
  have k10 := plK_kt g4
  cases hg : Z.getK kvs (plK (.tuple (k0 :: ks))) with
  | some v =>
    obtain ⟨kv2, rfl, hv⟩ := hI.getP c9 hg
    refine ⟨kvs, kv2, ?_, hv, hI, by omega⟩
    rw [set_same hi]
    unfold plK at hg hok
    rw [op_places_of]
    have eB : defBody (top 22) = defBody (top 22) := rfl
    conv at eB => rhs; whnf
    rw [eB]
    clear eB
    simp [evN, bi_assoc, -List.map_map, -List.map_reverse, -List.getD_eq_getElem?_getD, in_ref _ _ _ kvs hi (hok kvs hI), hg, ci_dct hi (hok kvs hI)] <;> (try simp only [b_out])
  | none =>
    obtain ⟨kv1, e1, i1, l1⟩ := all_ok n d m _ i st kvs h (by omega) hm hi hI (by omega)
    rw [op_places_of]
    have eB : defBody (top 22) = defBody (top 22) := rfl
    conv at eB => rhs; whnf
    rw [eB]
    clear eB
    unfold plK at hg hok
    simp [evN, bi_assoc, -List.map_map, -List.map_reverse, -List.getD_eq_getElem?_getD, in_ref _ _ _ kvs hi (hok kvs hI), hg, e1] <;> (try simp only [b_out])
    have hln := all_len h (show n ≤ 9 by omega)
    rw [show numb 0 (allL 9 m (.tuple (k0 :: ks))) = _ from numb_eq _ 0]
    refine dc_G (G := fun r => ∃ kvs' kv2, r = R.ok (RV.dat (.dict kv2)) (st.set i (.dct kvs')) ∧ (∀ x ∈ allL 9 m (.tuple (k0 :: ks)), (Z.getK kv2 x).isSome = true ∧ keyOk x kv2 = true) ∧ KI m kvs' ∧ kvs'.length ≤ kvs.length + sk n (.tuple (k0 :: ks)) + 1) (allL 9 m (.tuple (k0 :: ks))).zipIdx (fun p => RV.dat (.tuple [.int (p.2 : Nat), p.1])) (fun p => p.1) (fun p => .int (p.2 : Nat)) rfl ?_ (by rw [List.length_zipIdx]; unfold lim; omega) ?_
    · intro p hp
      have hm : p.1 ∈ allL 9 m (.tuple (k0 :: ks)) := by
        obtain ⟨a, b⟩ := zi_mem hp
        rw [b]; exact getD_mem a
      obtain ⟨q1, q2⟩ := key_el h hn hm
      obtain ⟨t, ht, _⟩ := el_tup h (by omega) hm
      refine ⟨⟨_, by simp; rfl, by simp, by simp⟩, q1, by rw [ht]; rfl, q2⟩
    · intro kv a b
      have hkv : ∀ x ∈ allL 9 m (.tuple (k0 :: ks)), (Z.getK kv x).isSome = true ∧ keyOk x kv = true := by
        intro x hx
        obtain ⟨q1, q2⟩ := key_el h hn hx
        obtain ⟨t, ht, _⟩ := el_tup h (by omega) hx
        obtain ⟨j, hj⟩ := List.mem_iff_getElem?.mp hx
        refine ⟨b (x, j) (by rw [List.mem_iff_getElem?]; exact ⟨j, by rw [List.getElem?_zipIdx, hj]; simp⟩), ?_⟩
        unfold keyOk
        rw [q1, Bool.true_and, List.all_eq_true]
        intro p hp
        rw [a p hp, ht]; rfl
      have hI' : KI m (Z.putK kv1 (plK (.tuple (k0 :: ks))) (.dat (.dict kv))) := i1.put k10 (.inr ⟨_, kv, c9, rfl, rfl, hkv⟩)
      refine ⟨Z.putK kv1 (plK (.tuple (k0 :: ks))) (.dat (.dict kv)), kv, ?_, hkv, hI', by have := @put_len kv1 (plK (.tuple (k0 :: ks))) (.dat (.dict kv)); omega⟩
      have hkl : kv1.length < lim := by unfold lim; omega
      have hsr := same_rfl k10
      unfold plK at hI' hsr ⊢
      simp [evN, bi_assoc, -List.map_map, -List.map_reverse, -List.getD_eq_getElem?_getD, dkv_fd, cp_dct (set_at hi) (hok kv1 i1) hkl, ci_dct (set_at hi) (hok _ hI'), put_get hsr] <;> (try simp only [b_out])
end T

namespace T
open PySem Z L2
/-! ### what is kept of an element -/
@[simp] theorem is_number_ok (d : Nat) (x : PyData) (st : Sto) : callF cf defs (d + 2) "is_number" [.dat x] st = .ok (.dat (.bool (match x with | .int i => decide (0 ≤ i) | _ => false))) st := by
  rw [op_is_number]
  have eB : defBody (top 3) = defBody (top 3) := rfl
  conv at eB => rhs; whnf
  rw [eB]
  clear eB
  cases x <;> simp [evN, isW] <;> (try simp only [b_out])
theorem is_row_ok (d : Nat) (xs : List PyData) (x : PyData) (hx : x = .list xs ∨ x = .tuple xs) (n : Nat) (h : xs.length = n) (st : Sto) : callF cf defs (d + 2) "is_row" [.dat x, .dat (.int n)] st = .ok (.dat (.bool true)) st := by
  rw [op_is_row]
  have eB : defBody (top 4) = defBody (top 4) := rfl
  conv at eB => rhs; whnf
  rw [eB]
  clear eB
  rcases hx with rfl | rfl <;> simp [evN, isL, h] <;> (try simp only [b_out])
def szN : Nat → PyData → Nat
  | 0, _ => 0
  | n + 1, x => match x with
    | .tuple xs => 1 + (xs.map (szN n)).sum
    | _ => 0
structure Lt (n : Nat) (x y : PyData) : Prop where
  t : tr n y = true
  a : asT n y = x
theorem lt_f2 {n : Nat} : ∀ {xs ys : List PyData}, ys.all (tr n) = true → ys.map (asT n) = xs → F2 (Lt n) xs ys
  | xs, [], _, h => by cases h; exact .nil
  | xs, y :: ys, h1, h2 => by
    rw [List.all_cons, Bool.and_eq_true] at h1
    cases h2
    exact .cons ⟨h1.1, rfl⟩ (lt_f2 h1.2 rfl)
theorem f2_len {P : PyData → PyData → Prop} {xs ys : List PyData} (h : F2 P xs ys) : xs.length = ys.length := by
  induction h with
  | nil => rfl
  | cons _ _ ih => rw [List.length_cons, List.length_cons, ih]
/-- a loose copy of a tuple -/
theorem lt_tup {N : Nat} {t : List PyData} {y : PyData} (h : Lt N (.tuple t) y) : ∃ N' ys, N = N' + 1 ∧ (y = .list ys ∨ y = .tuple ys) ∧ F2 (Lt N') t ys := by
  obtain ⟨h1, h2⟩ := h
  cases N with
  | zero => cases h1
  | succ N =>
    refine ⟨N, ?_⟩
    cases y with
    | list ys =>
      have h1 : (decide (ys.length ≤ lim) && ys.all (tr N)) = true := h1
      rw [Bool.and_eq_true] at h1
      have h2 : PyData.tuple (ys.map (asT N)) = .tuple t := h2
      cases h2
      exact ⟨ys, rfl, .inl rfl, lt_f2 h1.2 rfl⟩
    | tuple ys =>
      have h1 : (decide (ys.length ≤ lim) && ys.all (tr N)) = true := h1
      rw [Bool.and_eq_true] at h1
      have h2 : PyData.tuple (ys.map (asT N)) = .tuple t := h2
      cases h2
      exact ⟨ys, rfl, .inr rfl, lt_f2 h1.2 rfl⟩
    | _ => cases h2
theorem lt_leaf {N : Nat} {x y : PyData} (h : Lt N x y) (hx : x = .none ∨ ∃ i, x = .int i) : y = x := by
  obtain ⟨h1, h2⟩ := h
  cases N with
  | zero => cases h1
  | succ N =>
    cases y with
    | list ys => rcases hx with rfl | ⟨i, rfl⟩ <;> cases h2
    | tuple ys => rcases hx with rfl | ⟨i, rfl⟩ <;> cases h2
    | _ => exact h2
theorem lc_kv {N : List Str} {ev : Expr → Ev → Sto → R RV} {tg : Expr} {ifs : List Expr} {elt : Ev → Sto → R (List RV)} {env : Ev} {m i B : Nat} {f : PyData → Nat} {P : PyData → PyData → Prop} : ∀ {xs ys : List PyData}, F2 P xs ys → (∀ x ∈ xs, ∀ y, P x y → ∀ st kvs, st[i]? = some (.dct kvs) → KI m kvs → kvs.length + f x ≤ B → ∃ kvs', lcF N ev tg ifs elt env [.dat y] st = .ok [.own [.dat x]] (st.set i (.dct kvs')) ∧ KI m kvs' ∧ kvs'.length ≤ kvs.length + f x) → ∀ st kvs, st[i]? = some (.dct kvs) → KI m kvs → kvs.length + (xs.map f).sum ≤ B → ∃ kvs', lcF N ev tg ifs elt env (ys.map .dat) st = .ok (xs.map fun x => .own [.dat x]) (st.set i (.dct kvs')) ∧ KI m kvs' ∧ kvs'.length ≤ kvs.length + (xs.map f).sum
  | [], [], _, _, st, kvs, hi, hI, _ => ⟨kvs, by rw [set_same hi]; rfl, hI, Nat.le_add_right _ _⟩
  | x :: xs, y :: ys, h2, h, st, kvs, hi, hI, hb => by
    cases h2 with
    | cons p q =>
      rw [List.map_cons, List.sum_cons] at hb
      obtain ⟨kv1, e1, i1, l1⟩ := h x List.mem_cons_self y p st kvs hi hI (by omega)
      obtain ⟨kv2, e2, i2, l2⟩ := lc_kv q (fun z m => h z (List.mem_cons_of_mem _ m)) _ kv1 (set_at hi) i1 (by omega)
      rw [List.set_set] at e2
      refine ⟨kv2, lc_split e1 e2, i2, ?_⟩
      rw [List.map_cons, List.sum_cons]; omega
  | [], _ :: _, h2, _, _, _, _, _, _ => by cases h2
  | _ :: _, [], h2, _, _, _, _, _, _ => by cases h2
theorem lcG_kv {β : Type} {G : R β → Prop} {F : List RV → Sto → R β} {N : List Str} {ev : Expr → Ev → Sto → R RV} {tg : Expr} {ifs : List Expr} {elt : Ev → Sto → R (List RV)} {env : Ev} {m i : Nat} (B : Nat) (f : PyData → Nat) (P : PyData → PyData → Prop) {xs ys : List PyData} (h2 : F2 P xs ys) {st : Sto} (kvs : List (PyData × RV)) (hi : st[i]? = some (.dct kvs)) (hI : KI m kvs) (hb : kvs.length + (xs.map f).sum ≤ B) (h : ∀ x ∈ xs, ∀ y, P x y → ∀ st kvs, st[i]? = some (.dct kvs) → KI m kvs → kvs.length + f x ≤ B → ∃ kvs', lcF N ev tg ifs elt env [.dat y] st = .ok [.own [.dat x]] (st.set i (.dct kvs')) ∧ KI m kvs' ∧ kvs'.length ≤ kvs.length + f x)
    (k : ∀ kvs', KI m kvs' → kvs'.length ≤ kvs.length + (xs.map f).sum → G (F (xs.map fun x => .own [.dat x]) (st.set i (.dct kvs')))) : G ((noExc (lcF N ev tg ifs elt env (ys.map .dat) st)).bind F) := by
  obtain ⟨kvs', e, a, b⟩ := lc_kv h2 h st kvs hi hI hb
  rw [e, ne_ok, b_ok]
  exact k kvs' a b
theorem sum300 (f : PyData → Nat) (t : List PyData) : (t.map fun x => 300 * f x).sum = 300 * (t.map f).sum := by
  induction t with
  | nil => rfl
  | cons a t ih => rw [List.map_cons, List.sum_cons, ih, List.map_cons, List.sum_cons]; omega
theorem tru_lists (t : List PyData) : truths (t.map fun x => PyData.list [x]) = some (t.map fun _ => true) := by
  induction t with
  | nil => rfl
  | cons a t ih => rw [List.map_cons, truths, ih]; rfl
theorem all_true (t : List PyData) : (t.map fun _ => true).all id = true := by
  induction t with
  | nil => rfl
  | cons a t ih => rw [List.map_cons, List.all_cons, ih]; rfl
theorem kept_ok : ∀ (n N d m : Nat) (k x y : PyData) (i : Nat) (st : Sto) (kvs : List (PyData × RV)), chk n m k = true → n ≤ 8 → m ≤ 3 → sk n k ≤ 100 → x ∈ allL 9 m k → Lt N x y → st[i]? = some (.dct kvs) → KI m kvs → kvs.length + 300 * szN n x ≤ 900000 → ∃ kvs', callF cf defs (d + n + 13) "kept_element" [.dat (.int (m : Nat)), .dat k, .dat y, .ref i] st = .ok (.own [.dat x]) (st.set i (.dct kvs')) ∧ KI m kvs' ∧ kvs'.length ≤ kvs.length + 300 * szN n x
  | 0, N, d, m, k, x, y, i, st, kvs, h, _, _, _, _, _, _, _, _ => by cases h
  | n + 1, N, d, m, k, x, y, i, st, kvs, h, hn, hm, hsk, hx, hL, hi, hI, hl => by
    show ∃ kvs', callF cf defs ((d + n + 13) + 1) "kept_element" [.dat (.int (m : Nat)), .dat k, .dat y, .ref i] st = _ ∧ _
    obtain ⟨g1, g2, g3, g4⟩ := good_go (chk_good h)
    obtain ⟨ks, rfl⟩ := chk_tup h
    cases ks with
    | nil =>
      refine ⟨kvs, ?_, hI, Nat.le_add_right _ _⟩
      rw [set_same hi]
      rcases List.mem_cons.mp (show x ∈ base m from hx) with rfl | hx
      · have hy := lt_leaf hL (.inl rfl)
        subst hy
        rw [op_kept_element]
        have eB : defBody (top 23) = defBody (top 23) := rfl
        conv at eB => rhs; whnf
        rw [eB]
        clear eB
        simp [evN, bi_assoc, -List.map_map, -List.map_reverse, -List.getD_eq_getElem?_getD, eqd_unit g3] <;> (try simp only [b_out])
      · obtain ⟨j, hj, rfl⟩ := List.mem_map.mp hx
        have hj := List.mem_range.mp hj
        have hy := lt_leaf hL (.inr ⟨_, rfl⟩)
        subst hy
        have h1 : (j : Int) < m := by omega
        rw [op_kept_element]
        have eB : defBody (top 23) = defBody (top 23) := rfl
        conv at eB => rhs; whnf
        rw [eB]
        clear eB
        simp [evN, bi_assoc, -List.map_map, -List.map_reverse, -List.getD_eq_getElem?_getD, eqd_unit g3, h1] <;> (try simp only [b_out])
    | cons k0 ks =>
      have c := chk_go h
      obtain ⟨t, rfl, t1, t2⟩ := el_tup h (by omega) hx
      obtain ⟨N', ys, rfl, hy, f2⟩ := lt_tup hL
      have es : sk (n + 1) (.tuple (k0 :: ks)) = 1 + sk n k0 + sk n (.tuple ks) := rfl
      have ez : szN (n + 1) (.tuple t) = 1 + (t.map (szN n)).sum := rfl
      obtain ⟨kv1, e1, i1, l1⟩ := all_ok n (d + 2) m k0 i st kvs c.h0 (by omega) hm hi hI (by omega)
      have e1' : callF cf defs (d + n + 13) "all_elements" [.dat (.int (m : Nat)), .dat k0, .ref i] st = .ok (.dat (.list (allL 9 m k0))) (st.set i (.dct kv1)) := by
        rw [show d + n + 13 = d + 2 + n + 11 by omega]; exact e1
      have hr := is_row_ok (d + n + 11) ys y hy (allL 9 m k0).length (by rw [← f2_len f2, t1])
      rw [op_kept_element]
      have eB : defBody (top 23) = defBody (top 23) := rfl
      conv at eB => rhs; whnf
      rw [eB]
      clear eB
      simp [evN, bi_assoc, -List.map_map, -List.map_reverse, -List.getD_eq_getElem?_getD, eqd_unit g3, place0, cut1, e1', hr] <;> (try simp only [b_out])
      have hq : seqL y = some ys := by rcases hy with rfl | rfl <;> rfl
      have htl : t.length ≤ lim := by have := c.l0; rw [(all_fuel c.h0 (show n ≤ 9 by omega)).1] at t1; unfold lim; omega
      simp [evN, bi_assoc, -List.map_map, -List.map_reverse, -List.getD_eq_getElem?_getD, hq] <;> (try simp only [b_out])
      refine lcG_kv (G := fun r => ∃ kvs', r = R.ok (RV.own [.dat (.tuple t)]) (st.set i (.dct kvs')) ∧ KI m kvs' ∧ kvs'.length ≤ kvs.length + 300 * szN (n + 1) (.tuple t)) 900000 (fun x => 300 * szN n x) (Lt N') f2 kv1 (set_at hi) i1 (by rw [sum300]; omega) ?_ ?_
      · intro x hx y p st' kvs' hi' hI' hl'
        obtain ⟨kv2, e2, i2, l2⟩ := kept_ok n N' d m (.tuple ks) x y i st' kvs' c.hs (by omega) hm (by omega) (t2 x hx) p hi' hI' hl'
        refine ⟨kv2, ?_, i2, l2⟩
        simp [lc_cons, lc_nil, evN, bi_assoc, cut1, e2] <;> (try simp only [b_out])
      · intro kv2 i2 l2
        rw [sum300] at l2
        obtain ⟨kv3, pd, e3, hpd, i3, l3⟩ := places_ok (n + 1) d m k0 ks i (st.set i (.dct kv2)) kv2 h (by omega) hm (set_at hi) i2 (by omega)
        rw [List.set_set, show d + (n + 1) + 12 = d + n + 13 by omega] at e3
        obtain ⟨p1, p2⟩ := hpd _ hx
        refine ⟨kv3, ?_, i3, by omega⟩
        have eo : (t.map fun x => RV.own [RV.dat x]) = t.map fun x => RV.own (([x] : List PyData).map .dat) := rfl
        rw [eo, List.length_map, if_pos htl, b_ok, he_own, if_neg Bool.false_ne_true, dp_owns]
        simp [evN, bi_assoc, -List.map_map, -List.map_reverse, -List.getD_eq_getElem?_getD, tru_lists, all_true] <;> (try simp only [b_out])
        rw [lc_x1 t (fun x => RV.dat (.list [x])) (fun x => .dat x) (by rw [List.map_map]; rfl) fun x _ => by
          have h0 : place 1 0 = some 0 := rfl
          simp [lc_cons, lc_nil, evN, bi_assoc, h0] <;> (try simp only [b_out])]
        simp [evN, bi_assoc, -List.map_map, -List.map_reverse, -List.getD_eq_getElem?_getD, htl, e3, in_dict _ _ _ p2, p1] <;> (try simp only [b_out])
end T

namespace T
open PySem Z L2
/-! ### above, beneath -/
theorem noL_tt : ∀ {n : Nat} {x : PyData}, tt n x = true → noL x = true
  | 0, x, h => by cases h
  | n + 1, x, h => by
    cases x with
    | tuple xs =>
      have h' : (decide (xs.length ≤ lim) && xs.all (tt n)) = true := h
      rw [Bool.and_eq_true] at h'
      replace h' := h'.2
      clear h
      rw [noL]
      induction xs with
      | nil => rfl
      | cons a xs ih =>
        rw [List.all_cons, Bool.and_eq_true] at h'
        rw [noLs, noL_tt h'.1, ih h'.2]; rfl
    | list => cases h
    | dict => cases h
    | _ => rfl
/-- a kind that the law picks -/
structure GK (m : Nat) (k : PyData) : Prop where
  m1 : 1 ≤ m
  m3 : m ≤ 3
  c8 : chk 8 m k = true
  s : sk 8 k ≤ 100
  len : (allL 9 m k).length ≤ 100
  sz : ∀ x ∈ allL 9 m k, szN 8 x ≤ 1000
theorem GK.c9 {m : Nat} {k : PyData} (h : GK m k) : chk 9 m k = true := (all_fuel h.c8 (by omega)).2
theorem GK.sh {m : Nat} {k : PyData} (h : GK m k) : Sh 9 (allL 9 m k) := sh9 h.c9 (by omega)
theorem GK.tt {m : Nat} {k x : PyData} (h : GK m k) (hx : x ∈ allL 9 m k) : T.tt 9 x = true := tt_shp (h.sh x hx x hx)
theorem need_ok (N d m : Nat) (k x y : PyData) (i : Nat) (st : Sto) (kvs : List (PyData × RV)) (g : GK m k) (hx : x ∈ allL 9 m k) (hL : Lt N x y) (hi : st[i]? = some (.dct kvs)) (hI : KI m kvs) (hl : kvs.length ≤ 600000) : ∃ kvs', callF cf defs (d + 22) "need_element" [.dat (.int (m : Nat)), .dat k, .dat y, .ref i] st = .ok (.dat x) (st.set i (.dct kvs')) ∧ KI m kvs' ∧ kvs'.length ≤ 900000 := by
  have hs := g.sz x hx
  obtain ⟨kv1, e1, i1, l1⟩ := kept_ok 8 N d m k x y i st kvs g.c8 (by omega) g.m3 g.s hx hL hi hI (by omega)
  have hn := noL_tt (g.tt hx)
  have h0 : place 1 0 = some 0 := rfl
  refine ⟨kv1, ?_, i1, by omega⟩
  rw [op_need_element]
  have eB : defBody (top 24) = defBody (top 24) := rfl
  conv at eB => rhs; whnf
  rw [eB]
  clear eB
  simp [evN, bi_assoc, -List.map_map, -List.map_reverse, -List.getD_eq_getElem?_getD, e1, h0] <;> (try simp only [b_out])
theorem app_at (st : Sto) (c : Cell) : (st ++ [c])[st.length]? = some c := by simp
@[simp] theorem take_app_set (st : Sto) (c c' : Cell) : ((st ++ [c]).set st.length c').take st.length = st := by
  rw [List.set_append_right _ _ (Nat.le_refl _)]
  simp
theorem set_app (st : Sto) (c c' : Cell) : (st ++ [c]).set st.length c' = st ++ [c'] := by
  rw [List.set_append_right _ _ (Nat.le_refl _)]
  simp
theorem above_ok (N d m : Nat) (k kk x y : PyData) (st : Sto) (g : GK m k) (hx : x ∈ allL 9 m k) (hL : Lt N x y) (k1 : tr 9 kk = true) (k2 : asT 9 kk = k) (k3 : isTy 9 kk = true) : callF cf defs (d + 30) "above" [.dat (.int (m : Nat)), .dat kk, .dat y] st = .ok (.own (((allL 9 m k).filter fun o => bel 9 x o).map .dat)) st := by
  have m1 := g.m1
  have m3 := g.m3
  have c1 := check_many_ok (d + 26) m st (by omega) (by omega)
  have c2 := need_type_ok 9 (d + 17) kk st k1 k3
  rw [k2] at c2
  obtain ⟨kv1, e1, i1, l1⟩ := need_ok N (d + 7) m k x y st.length (st ++ [.dct []]) [] g hx hL (app_at st _) (fun p m => by cases m) (by simp)
  have hs := g.s
  obtain ⟨kv2, e2, i2, l2⟩ := all_ok 8 (d + 10) m k st.length ((st ++ [Cell.dct []]).set st.length (.dct kv1)) kv1 g.c8 (by omega) m3 (set_at (app_at st (.dct []))) i1 (by omega)
  rw [List.set_set, set_app, set_app] at e2
  rw [set_app] at e1
  rw [op_above]
  have eB : defBody (top 26) = defBody (top 26) := rfl
  conv at eB => rhs; whnf
  rw [eB]
  clear eB
  simp [evN, bi_assoc, -List.map_map, -List.map_reverse, -List.getD_eq_getElem?_getD, c1, c2, e1, e2] <;> (try simp only [b_out])
  rw [lc_xF (allL 9 m k) .dat (fun o => bel 9 x o) .dat rfl fun o ho => by
    have := lies_ok 9 (d + 19) x o (st ++ [Cell.dct kv2]) (g.sh x hx o ho)
    cases hb : bel 9 x o <;> simp [lc_cons, lc_nil, evN, bi_assoc, this, hb] <;> (try simp only [b_out])]
  have hl : ((allL 9 m k).filter fun o => bel 9 x o).length ≤ lim := Nat.le_trans (List.length_filter_le _ _) (by have := g.len; unfold lim; omega)
  simp [evN, bi_assoc, -List.map_map, -List.map_reverse, -List.getD_eq_getElem?_getD, hl] <;> (try simp only [b_out])
theorem beneath_ok (N d m : Nat) (k kk x y : PyData) (st : Sto) (g : GK m k) (hx : x ∈ allL 9 m k) (hL : Lt N x y) (k1 : tr 9 kk = true) (k2 : asT 9 kk = k) (k3 : isTy 9 kk = true) : callF cf defs (d + 30) "beneath" [.dat (.int (m : Nat)), .dat kk, .dat y] st = .ok (.own (((allL 9 m k).filter fun o => bel 9 o x).map .dat)) st := by
  have m1 := g.m1
  have m3 := g.m3
  have c1 := check_many_ok (d + 26) m st (by omega) (by omega)
  have c2 := need_type_ok 9 (d + 17) kk st k1 k3
  rw [k2] at c2
  obtain ⟨kv1, e1, i1, l1⟩ := need_ok N (d + 7) m k x y st.length (st ++ [.dct []]) [] g hx hL (app_at st _) (fun p m => by cases m) (by simp)
  have hs := g.s
  obtain ⟨kv2, e2, i2, l2⟩ := all_ok 8 (d + 10) m k st.length ((st ++ [Cell.dct []]).set st.length (.dct kv1)) kv1 g.c8 (by omega) m3 (set_at (app_at st (.dct []))) i1 (by omega)
  rw [List.set_set, set_app, set_app] at e2
  rw [set_app] at e1
  rw [op_beneath]
  have eB : defBody (top 27) = defBody (top 27) := rfl
  conv at eB => rhs; whnf
  rw [eB]
  clear eB
  simp [evN, bi_assoc, -List.map_map, -List.map_reverse, -List.getD_eq_getElem?_getD, c1, c2, e1, e2] <;> (try simp only [b_out])
  rw [lc_xF (allL 9 m k) .dat (fun o => bel 9 o x) .dat rfl fun o ho => by
    have := lies_ok 9 (d + 19) o x (st ++ [Cell.dct kv2]) (g.sh o ho x hx)
    cases hb : bel 9 o x <;> simp [lc_cons, lc_nil, evN, bi_assoc, this, hb] <;> (try simp only [b_out])]
  have hl : ((allL 9 m k).filter fun o => bel 9 o x).length ≤ lim := Nat.le_trans (List.length_filter_le _ _) (by have := g.len; unfold lim; omega)
  simp [evN, bi_assoc, -List.map_map, -List.map_reverse, -List.getD_eq_getElem?_getD, hl] <;> (try simp only [b_out])
/-! ### tops -/
theorem tops_in : ∀ (xs found : List PyData) (S : List PyData), (∀ x ∈ xs, x ∈ S) → (∀ x ∈ found, x ∈ S) → ∀ x ∈ xs.foldl (fun found one => if found.any (fun o => bel 9 one o) then found else found ++ [one]) found, x ∈ S
  | [], found, S, _, h => h
  | a :: xs, found, S, h1, h2 => by
    rw [List.foldl_cons]
    apply tops_in xs _ S (fun x m => h1 x (List.mem_cons_of_mem _ m))
    split
    · exact h2
    · intro x m
      rcases List.mem_append.mp m with m | m
      · exact h2 x m
      · rw [List.mem_singleton.mp m]; exact h1 a List.mem_cons_self
theorem tops_len : ∀ (xs found : List PyData), (xs.foldl (fun found one => if found.any (fun o => bel 9 one o) then found else found ++ [one]) found).length ≤ found.length + xs.length
  | [], found => Nat.le_refl _
  | a :: xs, found => by
    rw [List.foldl_cons, List.length_cons]
    have := tops_len xs (if found.any (fun o => bel 9 a o) then found else found ++ [a])
    split at this
    · rw [if_pos ‹_›]; omega
    · rw [if_neg ‹_›]; rw [List.length_append] at this; simp at this ⊢; omega
theorem noLs_in {m : Nat} {k : PyData} (g : GK m k) {xs : List PyData} (h : ∀ x ∈ xs, x ∈ allL 9 m k) : noLs xs = true := by
  induction xs with
  | nil => rfl
  | cons a xs ih => rw [noLs, noL_tt (g.tt (h a List.mem_cons_self)), ih fun x m => h x (List.mem_cons_of_mem _ m)]; rfl
theorem tops_ok (d m : Nat) (k kk : PyData) (st : Sto) (g : GK m k) (k1 : tr 9 kk = true) (k2 : asT 9 kk = k) (k3 : isTy 9 kk = true) : callF cf defs (d + 30) "tops" [.dat (.int (m : Nat)), .dat kk] st = .ok (.own ((topsL (allL 9 m k)).map .dat)) st := by
  have m1 := g.m1
  have m3 := g.m3
  have c1 := check_many_ok (d + 26) m st (by omega) (by omega)
  have c2 := need_type_ok 9 (d + 17) kk st k1 k3
  rw [k2] at c2
  have hs := g.s
  obtain ⟨kv2, e2, i2, l2⟩ := all_ok 8 (d + 10) m k st.length (st ++ [.dct []]) [] g.c8 (by omega) m3 (app_at st (.dct [])) (fun p m => by cases m) (by simp; omega)
  rw [set_app] at e2
  rw [op_tops]
  have eB : defBody (top 28) = defBody (top 28) := rfl
  conv at eB => rhs; whnf
  rw [eB]
  clear eB
  simp [evN, bi_assoc, -List.map_map, -List.map_reverse, -List.getD_eq_getElem?_getD, c1, c2, e2] <;> (try simp only [b_out])
  refine fo_rw (γ := L3 (List PyData)) (G := fun r => r = R.ok (RV.own ((topsL (allL 9 m k)).map .dat)) st) (fun x : PyData => RV.dat x) (fun s => [some (.dat (.int (m : Nat))), some (.dat kk), some (.dat (.list (allL 9 m k))), some (.own (s.v.map .dat)), s.a, none]) (fun _ => st ++ [.dct kv2]) (fun done s => s.v = done.foldl (fun found one => if found.any (fun o => bel 9 one o) then found else found ++ [one]) []) (allL 9 m k).reverse ⟨[], none, none, none⟩ rfl ?_ ?_ rfl
  · intro done x rest s hj hd G hG
    have hmem : ∀ y ∈ done ++ x :: rest, y ∈ allL 9 m k := fun y hy => by rw [hd] at hy; exact List.mem_reverse.mp hy
    have hx := hmem x (List.mem_append_right _ List.mem_cons_self)
    have hv : ∀ y ∈ s.v, y ∈ allL 9 m k := by
      rw [hj]
      exact tops_in done [] _ (fun y hy => hmem y (List.mem_append_left _ hy)) (fun y hy => by cases hy)
    have hlen : s.v.length ≤ 100 := by
      have h1 := tops_len done []
      rw [← hj] at h1
      have h2 := congrArg List.length hd
      rw [List.length_append, List.length_reverse] at h2
      have := g.len
      simp at h1 h2
      omega
    have hnl := noLs_in g hv
    simp [evN, bi_assoc, -List.map_map, -List.map_reverse, -List.getD_eq_getElem?_getD, part_map hnl] <;> (try simp only [b_out])
    rw [lc_x1 s.v .dat (fun o => .dat (.bool (bel 9 x o))) rfl fun o ho => by
      have := lies_ok 9 (d + 19) x o (st ++ [Cell.dct kv2]) (g.sh x hx o (hv o ho))
      simp [lc_cons, lc_nil, evN, bi_assoc, this] <;> (try simp only [b_out])]
    have hl2 : s.v.length ≤ lim := by unfold lim; omega
    have hl3 : s.v.length < lim := by unfold lim; omega
    simp [evN, bi_assoc, -List.map_map, -List.map_reverse, -List.getD_eq_getElem?_getD, hl2] <;> (try simp only [b_out])
    by_cases hb : s.v.any (fun o => bel 9 x o) = true
    · have hb' : ¬ ∀ z : PyData, z ∈ s.v → bel 9 x z = false := fun h => by
        obtain ⟨z, hz, hz2⟩ := List.any_eq_true.mp hb
        rw [h z hz] at hz2; cases hz2
      simp [evN, bi_assoc, -List.map_map, -List.map_reverse, -List.getD_eq_getElem?_getD, hb'] <;> (try simp only [b_out])
      have := hG ⟨s.v, some (.dat x), none, none⟩ (by rw [List.foldl_append, ← hj, List.foldl_cons, List.foldl_nil, if_pos hb])
      simpa [-List.map_map] using this
    · have hb' : ∀ z : PyData, z ∈ s.v → bel 9 x z = false := fun z hz => by
        cases h : bel 9 x z with
        | false => rfl
        | true => exact absurd (List.any_eq_true.mpr ⟨z, hz, h⟩) hb
      rw [if_pos hb']
      simp [evN, bi_assoc, -List.map_map, -List.map_reverse, -List.getD_eq_getElem?_getD, hl3] <;> (try simp only [b_out])
      have := hG ⟨s.v ++ [x], some (.dat x), none, none⟩ (by rw [List.foldl_append, ← hj, List.foldl_cons, List.foldl_nil, if_neg hb])
      simpa [-List.map_map] using this
  · intro s hj
    have hv : ∀ y ∈ s.v, y ∈ allL 9 m k := by
      rw [hj]
      exact tops_in _ [] _ (fun y hy => List.mem_reverse.mp hy) (fun y hy => by cases hy)
    have hnl := noLs_in g hv
    simp [evN, bi_assoc, -List.map_map, -List.map_reverse, -List.getD_eq_getElem?_getD, hnl] <;> (try simp only [b_out])
    unfold topsL
    rw [hj]
end T

namespace T
open PySem Z L2
/-! ### an element is right -/
@[simp] theorem kwf1 : seq' "element" "element" = true := mkf rfl
@[simp] theorem kwf2 : seq' "element" "kind" = false := mkf rfl
@[simp] theorem kwf3 : seq' "element" "many" = false := mkf rfl
@[simp] theorem kwf4 : seq' "kind" "element" = false := mkf rfl
@[simp] theorem kwf5 : seq' "kind" "kind" = true := mkf rfl
@[simp] theorem kwf6 : seq' "kind" "many" = false := mkf rfl
@[simp] theorem kwf7 : seq' "many" "element" = false := mkf rfl
@[simp] theorem kwf8 : seq' "many" "kind" = false := mkf rfl
@[simp] theorem kwf9 : seq' "many" "many" = true := mkf rfl
theorem tt_tr : ∀ {n : Nat} {x : PyData}, tt n x = true → tr n x = true
  | 0, x, h => by cases h
  | n + 1, x, h => by
    cases x with
    | tuple xs =>
      have h' : (decide (xs.length ≤ lim) && xs.all (tt n)) = true := h
      show (decide (xs.length ≤ lim) && xs.all (tr n)) = true
      rw [Bool.and_eq_true, List.all_eq_true] at h' ⊢
      exact ⟨h'.1, fun y m => tt_tr (h'.2 y m)⟩
    | list => cases h
    | dict => cases h
    | _ => rfl
theorem tt_asT : ∀ {n : Nat} {x : PyData}, tt n x = true → asT n x = x
  | 0, x, h => by cases h
  | n + 1, x, h => by
    cases x with
    | tuple xs =>
      have h' : (decide (xs.length ≤ lim) && xs.all (tt n)) = true := h
      rw [Bool.and_eq_true, List.all_eq_true] at h'
      show PyData.tuple (xs.map (asT n)) = _
      congr 1
      have e : xs.map (asT n) = xs.map id := List.map_congr_left fun y m => tt_asT (h'.2 y m)
      rw [e, List.map_id]
    | list => cases h
    | dict => cases h
    | _ => rfl
theorem tt_spD : ∀ {n N : Nat} {x : PyData}, tt n x = true → n ≤ N → spD N x = true
  | 0, N, x, h, _ => by cases h
  | n + 1, 0, x, h, hn => by omega
  | n + 1, N + 1, x, h, hn => by
    cases x with
    | tuple xs =>
      have h' : (decide (xs.length ≤ lim) && xs.all (tt n)) = true := h
      rw [Bool.and_eq_true, List.all_eq_true] at h'
      show xs.all (spD N) = true
      rw [List.all_eq_true]
      exact fun y m => tt_spD (h'.2 y m) (Nat.le_of_succ_le_succ hn)
    | list => cases h
    | dict => cases h
    | _ => rfl
theorem shp_lay : ∀ {n : Nat} {x : PyData}, shp n x x = true → x.canLay0 = true ∧ x.depth ≤ n
  | 0, x, h => by cases h
  | n + 1, x, h => by
    cases x with
    | tuple xs =>
      have h' : (decide (xs.length ≤ lim) && (xs.zip xs).all fun p => shp n p.1 p.2) = true := h
      rw [Bool.and_eq_true, List.all_eq_true] at h'
      have key : ∀ ys : List PyData, (∀ y ∈ ys, shp n y y = true) → PyData.canLayAll0 ys = true ∧ PyData.depthAll ys ≤ n := by
        intro ys
        induction ys with
        | nil => intro _; exact ⟨rfl, by rw [dpa_nil]; exact Nat.zero_le _⟩
        | cons a ys ih =>
          intro h
          obtain ⟨a1, a2⟩ := ih fun y m => h y (List.mem_cons_of_mem _ m)
          obtain ⟨b1, b2⟩ := shp_lay (h a List.mem_cons_self)
          refine ⟨?_, by rw [dpa_cons]; omega⟩
          show (a.canLay0 && PyData.canLayAll0 ys) = true
          rw [a1, b1]; rfl
      obtain ⟨k1, k2⟩ := key xs fun y m => h'.2 (y, y) (by
        clear h h'
        induction xs with
        | nil => cases m
        | cons a xs ih =>
          rw [List.zip_cons_cons]
          rcases List.mem_cons.mp m with rfl | m
          · exact List.mem_cons_self
          · exact List.mem_cons_of_mem _ (ih m))
      exact ⟨k1, by rw [dp_tup]; omega⟩
    | none => exact ⟨rfl, Nat.zero_le _⟩
    | int => exact ⟨rfl, Nat.zero_le _⟩
    | _ => cases h
theorem shp_shaped {n : Nat} {x : PyData} (h : shp n x x = true) (hn : n ≤ 64) : SeqAt.shaped x = true := by
  obtain ⟨a, b⟩ := shp_lay h
  show (x.canLay0 && decide (x.depth ≤ 64)) = true
  rw [a, decide_eq_true (by omega)]; rfl
theorem eqd_el {n : Nat} {x y : PyData} (h : shp n x y = true) (hx : shp n x x = true) (hy : shp n y y = true) (hn : n ≤ 64) : eqD x y = some (PyData.eqv x y) := by
  have e : eqok x y = true := by
    cases n with
    | zero => cases h
    | succ n =>
      cases x with
      | none => cases y <;> first | rfl | cases h
      | int => cases y <;> first | rfl | cases h
      | tuple xs =>
        cases y with
        | tuple ys =>
          show (SeqAt.shaped (.tuple xs) && SeqAt.shaped (.tuple ys)) = true
          rw [shp_shaped hx hn, shp_shaped hy hn]; rfl
        | _ => cases h
      | _ => cases y <;> cases h
  unfold eqD
  rw [if_pos e]
theorem call_bor {C : Str → List RV → Sto → R RV} {f : Str} {vs : List RV} {st st' : Sto} {ds : List PyData} {b : Bool} (h : anyBor vs = true) (hv : vws st vs = some ds) (hc : C f (ds.map .dat) [] = .ok (.dat (.bool b)) st') : callR C f vs st = .ok (.dat (.bool b)) st := by
  unfold callR
  rw [if_pos h, hv]
  show (match C f (ds.map .dat) [] with
      | .ok v _ => if clean v then R.ok v st else R.err
      | _ => R.err) = _
  rw [hc]
  rfl
/-- all that is checked of a kind -/
structure GL (m : Nat) (k : PyData) : Prop extends GK m k where
  ne : allL 9 m k ≠ []
  tops : topsL (allL 9 m k) = endsL (allL 9 m k)
  one : m = 1 → (endsL (allL 9 m k)).length = 1
  esz : ∀ x ∈ allL 9 m k, siz 9 x ≤ 1000
  kt : T.tt 9 k = true
  ky : isTy 9 k = true
  ks : siz 9 k ≤ 1000
theorem GL.lt {m : Nat} {k x : PyData} (g : GL m k) (hx : x ∈ allL 9 m k) : Lt 9 x x := ⟨tt_tr (g.toGK.tt hx), tt_asT (g.toGK.tt hx)⟩
theorem tr_list {m n : Nat} {k : PyData} (g : GK m k) {xs : List PyData} (h : ∀ x ∈ xs, x ∈ allL 9 m k) (hl : xs.length ≤ lim) : tr 10 (.list xs) = true := by
  show (decide (xs.length ≤ lim) && xs.all (tr 9)) = true
  rw [decide_eq_true hl, Bool.true_and, List.all_eq_true]
  exact fun x m => tt_tr (g.tt (h x m))
theorem sp_list {m : Nat} {k : PyData} (g : GK m k) {xs : List PyData} (h : ∀ x ∈ xs, x ∈ allL 9 m k) (hl : xs.length < lim) : spV 39 (.own (xs.map .dat)) = true := by
  show (decide ((xs.map RV.dat).length < lim) && (xs.map RV.dat).all (spV 38)) = true
  rw [List.length_map, decide_eq_true hl, Bool.true_and, List.all_map, List.all_eq_true]
  intro x m
  show spD 38 x = true
  exact tt_spD (g.tt (h x m)) (by omega)
theorem same_bor {d : Nat} {xs : List PyData} (h : tr 11 (.list xs) = true) (st : Sto) : callR (callF cf defs (d + 40)) "_law_same" [.bor (.list xs), .dat (.list xs)] st = .ok (.dat (.bool true)) st := by
  refine call_bor (ds := [.list xs, .list xs]) rfl ?_ (same_ok 11 (d + 28) _ [] h)
  rw [vws, vw_bor, vws, vw_dat, vws]
theorem tr_two {xs : List PyData} (h : ∀ x ∈ xs, tr 10 x = true) (hl : xs.length ≤ lim) : tr 11 (.list xs) = true := by
  show (decide (xs.length ≤ lim) && xs.all (tr 10)) = true
  rw [decide_eq_true hl, Bool.true_and, List.all_eq_true]
  exact h
theorem sp_two {vs : List RV} (h : ∀ v ∈ vs, spV 39 v = true) (hl : vs.length < lim) : spoilOk vs = true := by
  show (decide (vs.length < lim) && vs.all (spV 39)) = true
  rw [decide_eq_true hl, Bool.true_and, List.all_eq_true]
  exact h
theorem any_own (W : List PyData) (f : PyData → Bool) (st : Sto) : blt1V "any" (.own (W.map fun z => .dat (.bool (f z)))) st = .ok (.dat (.bool (W.any f))) st := by
  rw [b1_any, so_own, dp_mapf]
  simp only [Option.map_some, o_some, b_ok, bl_any, tru_mapf]
  rw [List.any_map]
  rfl
theorem right_ok (d j m : Nat) (hj : m = j + 1) (k : PyData) (ns : List Int) (a b c : Int) (rest : Sto) (kvs : List (PyData × RV)) (g : GL m k) (hs : SI ns a b c) (hi : rest[j]? = some (.dct kvs)) (hI : KI m kvs) (hl : kvs.length ≤ 100000) (hb : b + 10000 < 100000000000000) : ∃ ns' a' b' c' kvs', callF cf defs (d + 41) "_law_element_right" [.ref 1, .ref (j + 2), .dat (.int (m : Nat)), .dat k] (sst ns a b c rest) = .ok (.dat (.bool true)) (sst ns' a' b' c' (rest.set j (.dct kvs'))) ∧ SI ns' a' b' c' ∧ b' ≤ b + 10000 ∧ KI m kvs' ∧ kvs'.length ≤ kvs.length + 100 := by
  have gs := g.s
  have gl := g.len
  obtain ⟨kv1, e1, i1, l1⟩ := lall_ok 8 (d + 21) m k (j + 2) (sst ns a b c rest) kvs g.c8 (by omega) g.m3 hi hI (by omega)
  rw [show (sst ns a b c rest).set (j + 2) (.dct kv1) = sst ns a b c (rest.set j (.dct kv1)) from rfl] at e1
  obtain ⟨x, hx, ns2, a2, c2, e2, s2⟩ := pick_dat (d + 38) ns a b c (rest.set j (.dct kv1)) (allL 9 m k) hs (by omega) g.ne (by omega)
  have zx := g.esz x hx
  have zx0 := siz_nn 9 x
  have zk := g.ks
  have zk0 := siz_nn 9 k
  obtain ⟨y, ns3, a3, c3, e3, s3, lo3⟩ := loose_ok 9 (d + 30) x ns2 a2 (b + 1) c2 (rest.set j (.dct kv1)) (g.toGK.tt hx) s2 (by omega)
  have e4 := fun st => copied_ok 9 (d + 30) y st lo3.t
  have ly : Lt 9 x y := ⟨lo3.t, lo3.a⟩
  have k1 := tt_tr g.kt
  have k2 := tt_asT g.kt
  have e5 := fun st => above_ok 9 (d + 10) m k k x y st g.toGK hx ly k1 k2 g.ky
  obtain ⟨ka, ns4, a4, c4, e6, s4, lo4⟩ := loose_ok 9 (d + 30) k ns3 a3 (b + 1 + siz 9 x) c3 (rest.set j (.dct kv1)) g.kt s3 (by omega)
  have e7 := fun st => above_ok 9 (d + 10) m k ka x x st g.toGK hx (g.lt hx) lo4.t lo4.a (lo4.k.trans g.ky)
  have e8 := fun st => beneath_ok 9 (d + 10) m k k x y st g.toGK hx ly k1 k2 g.ky
  obtain ⟨kb, ns5, a5, c5, e9, s5, lo5⟩ := loose_ok 9 (d + 30) k ns4 a4 (b + 1 + siz 9 x + siz 9 k) c4 (rest.set j (.dct kv1)) g.kt s4 (by omega)
  have e10 := fun st => beneath_ok 9 (d + 10) m k kb x x st g.toGK hx (g.lt hx) lo5.t lo5.a (lo5.k.trans g.ky)
  have e11 := fun st => above_ok 9 (d + 10) m k k x x st g.toGK hx (g.lt hx) k1 k2 g.ky
  have e12 := fun st => beneath_ok 9 (d + 10) m k k x x st g.toGK hx (g.lt hx) k1 k2 g.ky
  obtain ⟨kc, ns6, a6, c6, e13, s6, lo6⟩ := loose_ok 9 (d + 30) k ns5 a5 (b + 1 + siz 9 x + siz 9 k + siz 9 k) c5 (rest.set j (.dct kv1)) g.kt s5 (by omega)
  have e14 := fun st => tops_ok (d + 10) m k kc st g.toGK lo6.t lo6.a (lo6.k.trans g.ky)
  have e15 := fun st => tops_ok (d + 10) m k k st g.toGK k1 k2 g.ky
  refine ⟨ns6, a6, b + 1 + siz 9 x + siz 9 k + siz 9 k + siz 9 k, c6, kv1, ?_, s6, by omega, i1, by omega⟩
  have hUl : ((allL 9 m k).filter fun o => bel 9 x o).length ≤ lim := Nat.le_trans (List.length_filter_le _ _) (by unfold lim; omega)
  have hLl : ((allL 9 m k).filter fun o => bel 9 o x).length ≤ lim := Nat.le_trans (List.length_filter_le _ _) (by unfold lim; omega)
  have hUm : ∀ o ∈ (allL 9 m k).filter fun o => bel 9 x o, o ∈ allL 9 m k := fun o ho => (List.mem_filter.mp ho).1
  have hLm : ∀ o ∈ (allL 9 m k).filter fun o => bel 9 o x, o ∈ allL 9 m k := fun o ho => (List.mem_filter.mp ho).1
  rw [op__law_element_right]
  have eB : defBody (top 40) = defBody (top 40) := rfl
  conv at eB => rhs; whnf
  rw [eB]
  clear eB
  simp [evN, bi_assoc, -List.map_map, -List.map_reverse, -List.getD_eq_getElem?_getD, e1, e2] <;> (try simp only [b_out])
  rw [lc_xF (allL 9 m k) .dat (fun o => bel 9 x o) .dat rfl fun o ho => by
    have := below_ok 9 (d + 30) x o (sst ns2 a2 (b + 1) c2 (rest.set j (.dct kv1))) (g.sh x hx o ho)
    cases hb : bel 9 x o <;> simp [lc_cons, lc_nil, evN, bi_assoc, this, hb] <;> (try simp only [b_out])]
  simp [evN, bi_assoc, -List.map_map, -List.map_reverse, -List.getD_eq_getElem?_getD, hUl] <;> (try simp only [b_out])
  rw [lc_xF (allL 9 m k) .dat (fun o => bel 9 o x) .dat rfl fun o ho => by
    have := below_ok 9 (d + 30) o x (sst ns2 a2 (b + 1) c2 (rest.set j (.dct kv1))) (g.sh o ho x hx)
    cases hb : bel 9 o x <;> simp [lc_cons, lc_nil, evN, bi_assoc, this, hb] <;> (try simp only [b_out])]
  simp [evN, bi_assoc, -List.map_map, -List.map_reverse, -List.getD_eq_getElem?_getD, hLl] <;> (try simp only [b_out])
  obtain ⟨U, hU⟩ : ∃ U, U = (allL 9 m k).filter fun o => bel 9 x o := ⟨_, rfl⟩
  obtain ⟨L, hL⟩ : ∃ L, L = (allL 9 m k).filter fun o => bel 9 o x := ⟨_, rfl⟩
  simp only [← hU, ← hL] at hUl hLl hUm hLm e5 e7 e8 e10 e11 e12 ⊢
  simp [evN, bi_assoc, -List.map_map, -List.map_reverse, -List.getD_eq_getElem?_getD, e3, e4, e5, e6, e7, e8, e9, e10] <;> (try simp only [b_out])
  have tU : tr 10 (.list U) = true := tr_list (n := 0) g.toGK hUm hUl
  have tL : tr 10 (.list L) = true := tr_list (n := 0) g.toGK hLm hLl
  have hUl2 : U.length < lim := by have := List.length_filter_le (fun o => bel 9 x o) (allL 9 m k); rw [hU]; unfold lim; omega
  have hLl2 : L.length < lim := by have := List.length_filter_le (fun o => bel 9 o x) (allL 9 m k); rw [hL]; unfold lim; omega
  have pU := sp_list g.toGK hUm hUl2
  have pL := sp_list g.toGK hLm hLl2
  have h4 : 4 ≤ lim := by decide
  have t4 : tr 11 (.list [.list U, .list U, .list L, .list L]) = true := tr_two (by simp [tU, tL]) h4
  have t2 : tr 11 (.list [.list U, .list L]) = true := tr_two (by simp [tU, tL]) (show 2 ≤ lim by decide)
  have p4 : spoilOk [.own (U.map .dat), .own (U.map .dat), .own (L.map .dat), .own (L.map .dat)] = true := sp_two (by simp [pU, pL]) (show 4 < lim by decide)
  have p2 : spoilOk [.own (U.map .dat), .own (L.map .dat)] = true := sp_two (by simp [pU, pL]) (show 2 < lim by decide)
  have sy := fun st => same_ok 9 (d + 30) y st lo3.t
  simp [evN, bi_assoc, -List.map_map, -List.map_reverse, -List.getD_eq_getElem?_getD, h4, same_bor t4, same_bor t2, p4, p2, sy, e11, e12] <;> (try simp only [b_out])
  have hUE : U.length + (allL 9 m k).length ≤ lim := by have := List.length_filter_le (fun o => bel 9 x o) (allL 9 m k); rw [← hU] at this; unfold lim; omega
  obtain ⟨W, hW⟩ : ∃ W, W = U ++ allL 9 m k := ⟨_, rfl⟩
  have hWm : ∀ z ∈ W, z ∈ allL 9 m k := fun z hz => by
    rw [hW] at hz
    rcases List.mem_append.mp hz with hz | hz
    · exact hUm z hz
    · exact hz
  have hWl : W.length ≤ lim := by rw [hW, List.length_append]; exact hUE
  rw [lc_xF (allL 9 m k) .dat (fun o => !W.any fun z => !PyData.eqv z o && bel 9 o z) .dat rfl fun o ho => by
    generalize hq : (!W.any fun z => !PyData.eqv z o && bel 9 o z) = q
    simp [evN, bi_assoc, -List.map_map, -List.map_reverse, -List.getD_eq_getElem?_getD, lc_cons, lc_nil, hUE, ← hW, -List.map_append] <;> (try simp only [b_out])
    rw [lc_x1 W .dat (fun z => .dat (.bool (!PyData.eqv z o && bel 9 o z))) rfl fun z hz => by
      have hz' := hWm z hz
      have h1 := below_ok 9 (d + 30) o z (sst ns5 a5 (b + 1 + siz 9 x + siz 9 k + siz 9 k) c5 (rest.set j (.dct kv1))) (g.sh o ho z hz')
      have h2 := eqd_el (g.sh z hz' o ho) (g.sh z hz' z hz') (g.sh o ho o ho) (by omega)
      cases hq : PyData.eqv z o <;> simp [lc_cons, lc_nil, evN, bi_assoc, h1, h2, hq] <;> (try simp only [b_out])]
    rw [ne_ok, b_ok, List.length_map, if_pos hWl, b_ok, any_own]
    subst hq
    generalize (W.any fun z => !PyData.eqv z o && bel 9 o z) = r
    cases r
    · simp [evN, bi_assoc, -List.map_map, -List.map_reverse, -List.getD_eq_getElem?_getD, lc_nil] <;> (try simp only [b_out])
    · simp [evN, bi_assoc, -List.map_map, -List.map_reverse, -List.getD_eq_getElem?_getD, lc_nil] <;> (try simp only [b_out])]
  have hE : ((allL 9 m k).filter fun o => !W.any fun z => !PyData.eqv z o && bel 9 o z) = endsL (allL 9 m k) := by
    unfold endsL
    apply List.filter_congr
    intro o ho
    congr 1
    rw [hW, List.any_append]
    cases h : U.any fun z => !PyData.eqv z o && bel 9 o z with
    | false => rfl
    | true =>
      obtain ⟨z, hz, hz2⟩ := List.any_eq_true.mp h
      rw [List.any_eq_true.mpr ⟨z, hUm z hz, hz2⟩]; rfl
  rw [hE]
  obtain ⟨E, hEE⟩ : ∃ E, E = endsL (allL 9 m k) := ⟨_, rfl⟩
  rw [g.tops] at e14 e15
  rw [← hEE] at e14 e15 ⊢
  have hEm : ∀ o ∈ E, o ∈ allL 9 m k := fun o ho => by rw [hEE] at ho; exact (List.mem_filter.mp ho).1
  have hEl : E.length ≤ lim := by have := List.length_filter_le (fun s => !(allL 9 m k).any fun o => !PyData.eqv o s && bel 9 s o) (allL 9 m k); rw [hEE]; unfold endsL lim; omega
  have hEl2 : E.length < lim := by have := List.length_filter_le (fun s => !(allL 9 m k).any fun o => !PyData.eqv o s && bel 9 s o) (allL 9 m k); rw [hEE]; unfold endsL lim; omega
  have hE1 := g.one
  rw [← hEE] at hE1
  have tE : tr 10 (.list E) = true := tr_list (n := 0) g.toGK hEm hEl
  have pE := sp_list g.toGK hEm hEl2
  have t22 : tr 11 (.list [.list E, .list E]) = true := tr_two (by simp [tE]) (show 2 ≤ lim by decide)
  have p22 : spoilOk [.own (E.map .dat), .own (E.map .dat)] = true := sp_two (by simp [pE]) (show 2 < lim by decide)
  have sE := fun st => same_ok 10 (d + 29) (.list E) st tE
  simp [evN, bi_assoc, -List.map_map, -List.map_reverse, -List.getD_eq_getElem?_getD, hEl, e13, e14, e15, same_bor t22, p22, sE] <;> (try simp only [b_out])
  by_cases hm1 : (m : Int) = 1
  · have hE2 : ((E.length : Nat) : Int) = 1 := by rw [hE1 (by omega)]; rfl
    rw [hm1] at e15
    simp [evN, bi_assoc, -List.map_map, -List.map_reverse, -List.getD_eq_getElem?_getD, hm1, hE2, e15, sE, p22] <;> (try simp only [b_out])
  · have hb1 : ((m : Int) == 1) = false := by simp [hm1]
    simp [evN, bi_assoc, -List.map_map, -List.map_reverse, -List.getD_eq_getElem?_getD, hm1, hb1, e15, sE, p22] <;> (try simp only [b_out])
end T

namespace T
open PySem Z L2
/-! ### the law -/
theorem kinds_8 : ∀ m ∈ [1, 2, 3], ∀ k ∈ kinds m, chk 8 m k = true ∧ sk 8 k ≤ 100 ∧ (allL 9 m k).all (fun x => decide (szN 8 x ≤ 1000)) = true := by decide +kernel
theorem mem123 {m : Nat} (h1 : 1 ≤ m) (h3 : m ≤ 3) : m ∈ [1, 2, 3] := by
  have : m = 1 ∨ m = 2 ∨ m = 3 := by omega
  rcases this with rfl | rfl | rfl <;> simp
theorem kinds_GL {m : Nat} {k : PyData} (h1 : 1 ≤ m) (h3 : m ≤ 3) (hk : k ∈ kinds m) (hl : (allL 9 m k).length ≤ 100) : GL m k := by
  have hm := mem123 h1 h3
  obtain ⟨a1, a2, a3⟩ := kinds_8 m hm k hk
  obtain ⟨b1, b2, b3, b4⟩ := kinds_tops m hm k hk hl
  obtain ⟨c1, c2, c3⟩ := kinds_ok m hm k hk
  have e := eqt_eq b1
  injection e with e
  exact { m1 := h1, m3 := h3, c8 := a1, s := a2, len := hl, sz := fun x hx => of_decide_eq_true (List.all_eq_true.mp a3 x hx), ne := b3, tops := e, one := b2, esz := fun x hx => of_decide_eq_true (List.all_eq_true.mp b4 x hx), kt := c1, ky := c2, ks := c3 }
theorem kO_l : ∀ m ∈ [1, 2, 3], (allL 9 m kO).length ≤ 100 := by decide +kernel
theorem kO_m : ∀ m, 1 ≤ m → m ≤ 3 → kO ∈ kinds m := by
  intro m h1 h3
  have : m = 1 ∨ m = 2 ∨ m = 3 := by omega
  rcases this with rfl | rfl | rfl
  · exact List.mem_cons_of_mem _ List.mem_cons_self
  · exact List.mem_cons_of_mem _ List.mem_cons_self
  · exact List.mem_cons_of_mem _ List.mem_cons_self
section
variable (ns : List Int) (a b c : Int) (rest : Sto) (l : List RV) (kv : List (PyData × RV))
theorem at_l : (sst ns a b c (rest ++ [.lst l, .dct kv]))[rest.length + 2]? = some (.lst l) := by
  show (rest ++ [Cell.lst l, Cell.dct kv])[rest.length]? = _
  simp
theorem at_d : (sst ns a b c (rest ++ [.lst l, .dct kv]))[rest.length + 3]? = some (.dct kv) := by
  show (rest ++ [Cell.lst l, Cell.dct kv])[rest.length + 1]? = _
  simp
theorem set_l (x : Cell) : (sst ns a b c (rest ++ [.lst l, .dct kv])).set (rest.length + 2) x = sst ns a b c (rest ++ [x, .dct kv]) := by
  show sst ns a b c ((rest ++ [Cell.lst l, Cell.dct kv]).set rest.length x) = _
  rw [List.set_append_right _ _ (Nat.le_refl _)]; simp
theorem set_d (x : Cell) : (sst ns a b c (rest ++ [.lst l, .dct kv])).set (rest.length + 3) x = sst ns a b c (rest ++ [.lst l, x]) := by
  show sst ns a b c ((rest ++ [Cell.lst l, Cell.dct kv]).set (rest.length + 1) x) = _
  rw [List.set_append_right _ _ (Nat.le_succ _)]; simp
theorem wk_ci (k : PyData) : cellItem (sst ns a b c (rest ++ [.lst l, .dct kv])) (rest.length + 3) k = if keyOk k kv = true then Z.getK kv k else none := by
  unfold cellItem; rw [at_d]
theorem wk_cp (k v : PyData) : cellPut (sst ns a b c (rest ++ [.lst l, .dct kv])) (rest.length + 3) k v = if keyOk k kv = true ∧ kv.length < lim then some (sst ns a b c (rest ++ [.lst l, .dct (Z.putK kv k (.dat v))])) else none := by
  unfold cellPut; rw [at_d]
  show (if keyOk k kv = true ∧ kv.length < lim then some ((sst ns a b c (rest ++ [.lst l, .dct kv])).set (rest.length + 3) _) else none) = _
  rw [set_d]
theorem wk_mo : methOk true (.ref (rest.length + 2)) (sst ns a b c (rest ++ [.lst l, .dct kv])) = true := by
  show (match (sst ns a b c (rest ++ [.lst l, .dct kv]))[rest.length + 2]? with
    | some (.lst _) => true
    | some (.dct _) => !true
    | none => false) = true
  rw [at_l]
theorem wk_mr (d : PyData) (hl : l.length < lim) : methR "append" (.ref (rest.length + 2)) [.dat d] (sst ns a b c (rest ++ [.lst l, .dct kv])) = .ok (.dat .none) (sst ns a b c (rest ++ [.lst (l ++ [.dat d]), .dct kv])) := by
  show cellMeth "append" (rest.length + 2) [.dat d] (sst ns a b c (rest ++ [.lst l, .dct kv])) = _
  unfold cellMeth
  rw [at_l]
  show (if seq' "append" "append" then (if l.length < lim then R.ok (RV.dat .none) ((sst ns a b c (rest ++ [.lst l, .dct kv])).set (rest.length + 2) (.lst (l ++ [.dat d]))) else R.err) else _) = _
  rw [if_pos (show seq' "append" "append" = true from rfl), if_pos hl, set_l]
end
def st1 (C : Str → List RV → Sto → R RV) (N : List Str) (ss : List Stmt) (env : Ev) (st : Sto) : R Fl := match ss with
  | s :: _ => execS cf C N evN s env st
  | [] => .err
@[simp] theorem st1_c (C : Str → List RV → Sto → R RV) (N : List Str) (s : Stmt) (ss : List Stmt) (env : Ev) (st : Sto) : st1 C N (s :: ss) env st = execS cf C N evN s env st := rfl
theorem ex_step {C : Str → List RV → Sto → R RV} {N : List Str} {ss : List Stmt} {env env' : Ev} {st st' : Sto} (h : st1 C N ss env st = .ok (.nxt env') st') : execL (execS cf C N evN) ss env st = execL (execS cf C N evN) (ss.drop 1) env' st' := by
  cases ss with
  | nil => cases h
  | cons s r =>
    rw [st1_c] at h
    rw [x_cons, h, b_ok]
    rfl
theorem ex_ret {C : Str → List RV → Sto → R RV} {N : List Str} {ss : List Stmt} {env : Ev} {st st' : Sto} {v : RV} (h : st1 C N ss env st = .ok (.ret v) st') : execL (execS cf C N evN) ss env st = .ok (.ret v) st' := by
  cases ss with
  | nil => cases h
  | cons s r =>
    rw [st1_c] at h
    rw [x_cons, h, b_ok]
def wkN : List Str := ["stream", "many", "base", "one", "kinds"]
def wkE (m : Nat) (v : Option RV) : Ev := [some (.ref 1), some (.dat (.int (m : Nat))), some (.dat (.tuple [])), some (.dat (.tuple [.tuple []])), v]
def wkL0 : List PyData := [kB, kO, .tuple [kB, kB], .tuple [kB, kB, kB], .tuple [kO], .tuple [kO, kB], .tuple [kO, kO], .tuple [.tuple [kB, kB]], .tuple [kB, kO], .tuple [.tuple [kO]]]
def wkS (ns : List Int) (a b c : Int) (rest : Sto) (l : List PyData) (kv : List (PyData × RV)) : Sto := sst ns a b c (rest ++ [.lst (l.map .dat), .dct kv])
theorem wk0 (d m : Nat) (ns : List Int) (a b c : Int) (rest : Sto) : st1 (callF cf defs (d + 2)) wkN ((defBody (top 39)).drop 0) [some (.ref 1), some (.dat (.int (m : Nat))), none, none, none] (sst ns a b c rest) = R.ok (Fl.nxt (wkE m none)) (sst ns a b c rest) := by
  have eB : (defBody (top 39)).drop 0 = (defBody (top 39)).drop 0 := rfl
  conv at eB => rhs; whnf
  rw [eB]
  clear eB
  unfold wkE wkN
  simp [evN, bi_assoc, -List.map_map, -List.map_reverse, -List.getD_eq_getElem?_getD] <;> (try simp only [b_out])
theorem wk1 (d m : Nat) (ns : List Int) (a b c : Int) (rest : Sto) : st1 (callF cf defs (d + 2)) wkN ((defBody (top 39)).drop 1) (wkE m none) (sst ns a b c rest) = R.ok (Fl.nxt (wkE m (some (.ref (rest.length + 3))))) (wkS ns a b c rest wkL0 [(.int 1, .ref (rest.length + 2))]) := by
  have k1 : keyOk (.int 1) ([] : List (PyData × RV)) = true := rfl
  have eB : (defBody (top 39)).drop 1 = (defBody (top 39)).drop 1 := rfl
  conv at eB => rhs; whnf
  rw [eB]
  clear eB
  unfold wkE wkN wkS wkL0 kO kB
  simp [evN, bi_assoc, -List.map_map, -List.map_reverse, -List.getD_eq_getElem?_getD, k1] <;> (try simp only [b_out])
theorem wk2 (d m : Nat) (ns : List Int) (a b c : Int) (rest : Sto) : st1 (callF cf defs (d + 2)) wkN ((defBody (top 39)).drop 2) (wkE m (some (.ref (rest.length + 3)))) (wkS ns a b c rest wkL0 [(.int 1, .ref (rest.length + 2))]) = R.ok (Fl.nxt (wkE m (some (.ref (rest.length + 3))))) (wkS ns a b c rest (kinds 1) [(.int 1, .ref (rest.length + 2))]) := by
  have k1' : ∀ r, keyOk (.int 1) [(PyData.int 1, RV.ref r)] = true := fun r => rfl
  have g1' : ∀ r, Z.getK [(PyData.int 1, RV.ref r)] (.int 1) = some (.ref r) := fun r => rfl
  have hl : (wkL0.map RV.dat).length < lim := by rw [List.length_map]; show 10 < lim; decide
  have e : wkL0.map RV.dat ++ [.dat (.tuple [.tuple [], .tuple [], .tuple [], .tuple []])] = (kinds 1).map .dat := rfl
  have eB : (defBody (top 39)).drop 2 = (defBody (top 39)).drop 2 := rfl
  conv at eB => rhs; whnf
  rw [eB]
  clear eB
  unfold wkE wkN wkS
  generalize wkL0.map RV.dat = L0 at *
  generalize (kinds 1).map RV.dat = L1 at *
  simp [evN, bi_assoc, -List.map_map, -List.map_reverse, -List.getD_eq_getElem?_getD, wk_ci, wk_mo, k1', g1', wk_mr _ _ _ _ _ _ _ _ hl, e] <;> (try simp only [b_out])
theorem wk3 (d m : Nat) (ns : List Int) (a b c : Int) (rest : Sto) : st1 (callF cf defs (d + 2)) wkN ((defBody (top 39)).drop 3) (wkE m (some (.ref (rest.length + 3)))) (wkS ns a b c rest (kinds 1) [(.int 1, .ref (rest.length + 2))]) = R.ok (Fl.nxt (wkE m (some (.ref (rest.length + 3))))) (wkS ns a b c rest (kinds 1) [(.int 1, .ref (rest.length + 2)), (.int 2, .dat (.list (kinds 2)))]) := by
  have k2 : ∀ r, keyOk (.int 2) [(PyData.int 1, RV.ref r)] = true := fun r => rfl
  have p2 : ∀ r v, Z.putK [(PyData.int 1, RV.ref r)] (.int 2) v = [(PyData.int 1, RV.ref r), (.int 2, v)] := fun r v => rfl
  have hl1 : 1 < lim := by decide
  have eB : (defBody (top 39)).drop 3 = (defBody (top 39)).drop 3 := rfl
  conv at eB => rhs; whnf
  rw [eB]
  clear eB
  unfold wkE wkN wkS
  generalize (kinds 1).map RV.dat = L1 at *
  unfold kinds kO kB
  simp [evN, bi_assoc, -List.map_map, -List.map_reverse, -List.getD_eq_getElem?_getD, wk_cp, k2, p2, hl1] <;> (try simp only [b_out])
theorem wk4 (d m : Nat) (ns : List Int) (a b c : Int) (rest : Sto) : st1 (callF cf defs (d + 2)) wkN ((defBody (top 39)).drop 4) (wkE m (some (.ref (rest.length + 3)))) (wkS ns a b c rest (kinds 1) [(.int 1, .ref (rest.length + 2)), (.int 2, .dat (.list (kinds 2)))]) = R.ok (Fl.nxt (wkE m (some (.ref (rest.length + 3))))) (wkS ns a b c rest (kinds 1) [(.int 1, .ref (rest.length + 2)), (.int 2, .dat (.list (kinds 2))), (.int 3, .dat (.list (kinds 3)))]) := by
  have k3 : ∀ r v, keyOk (.int 3) [(PyData.int 1, RV.ref r), (.int 2, v)] = true := fun r v => rfl
  have p3 : ∀ r v w, Z.putK [(PyData.int 1, RV.ref r), (.int 2, v)] (.int 3) w = [(PyData.int 1, RV.ref r), (.int 2, v), (.int 3, w)] := fun r v w => rfl
  have hl2 : 2 < lim := by decide
  have eB : (defBody (top 39)).drop 4 = (defBody (top 39)).drop 4 := rfl
  conv at eB => rhs; whnf
  rw [eB]
  clear eB
  unfold wkE wkN wkS
  generalize (kinds 1).map RV.dat = L1 at *
  generalize kinds 2 = L2 at *
  unfold kinds kO kB
  simp [evN, bi_assoc, -List.map_map, -List.map_reverse, -List.getD_eq_getElem?_getD, wk_cp, k3, p3, hl2] <;> (try simp only [b_out])
theorem wk5 (d m : Nat) (h1 : 1 ≤ m) (h3 : m ≤ 3) (ns : List Int) (a b c : Int) (rest : Sto) (hs : SI ns a b c) (hb : b + 1 < 100000000000000) : ∃ k ∈ kinds m, ∃ ns' a' c' rest', st1 (callF cf defs (d + 2)) wkN ((defBody (top 39)).drop 5) (wkE m (some (.ref (rest.length + 3)))) (wkS ns a b c rest (kinds 1) [(.int 1, .ref (rest.length + 2)), (.int 2, .dat (.list (kinds 2))), (.int 3, .dat (.list (kinds 3)))]) = R.ok (Fl.ret (.dat k)) (sst ns' a' (b + 1) c' rest') ∧ rest'.take rest.length = rest ∧ SI ns' a' (b + 1) c' := by
  have hm : m = 1 ∨ m = 2 ∨ m = 3 := by omega
  have ht : ∀ x y : Cell, (rest ++ [x, y]).take rest.length = rest := fun x y => by simp
  have eB : (defBody (top 39)).drop 5 = (defBody (top 39)).drop 5 := rfl
  conv at eB => rhs; whnf
  rw [eB]
  clear eB
  unfold wkE wkN wkS
  rcases hm with rfl | rfl | rfl
  · have kk : ∀ r v w, keyOk (.int 1) [(PyData.int 1, RV.ref r), (.int 2, v), (.int 3, w)] = true := fun r v w => rfl
    have gg : ∀ r v w, Z.getK [(PyData.int 1, RV.ref r), (.int 2, v), (.int 3, w)] (.int 1) = some (.ref r) := fun r v w => rfl
    have n1 : kinds 1 ≠ [] := by unfold kinds; exact List.cons_ne_nil _ _
    have n2 : (kinds 1).length ≤ 1000000 := by show 11 ≤ 1000000; omega
    generalize kinds 2 = L2 at *
    generalize kinds 3 = L3 at *
    generalize kinds 1 = L1 at *
    obtain ⟨k, hk, ns', a', c', e, hs'⟩ := pick_ref d rest.length ns a b c (rest ++ [.lst (L1.map .dat), .dct [(.int 1, .ref (rest.length + 2)), (.int 2, .dat (.list L2)), (.int 3, .dat (.list L3))]]) L1 hs hb n1 n2 (by simp)
    refine ⟨k, hk, ns', a', c', (rest ++ [.lst (L1.map .dat), .dct [(.int 1, .ref (rest.length + 2)), (.int 2, .dat (.list L2)), (.int 3, .dat (.list L3))]]), ?_, ht _ _, hs'⟩
    simp [evN, bi_assoc, -List.map_map, -List.map_reverse, -List.getD_eq_getElem?_getD, wk_ci, kk, gg, e] <;> (try simp only [b_out])
  · have kk : ∀ r v w, keyOk (.int 2) [(PyData.int 1, RV.ref r), (.int 2, v), (.int 3, w)] = true := fun r v w => rfl
    have gg : ∀ r v w, Z.getK [(PyData.int 1, RV.ref r), (.int 2, v), (.int 3, w)] (.int 2) = some v := fun r v w => rfl
    have n1 : kinds 2 ≠ [] := by unfold kinds; exact List.cons_ne_nil _ _
    have n2 : (kinds 2).length ≤ 1000000 := by show 7 ≤ 1000000; omega
    generalize kinds 2 = L2 at *
    generalize kinds 3 = L3 at *
    generalize kinds 1 = L1 at *
    obtain ⟨k, hk, ns', a', c', e, hs'⟩ := pick_dat d ns a b c (rest ++ [.lst (L1.map .dat), .dct [(.int 1, .ref (rest.length + 2)), (.int 2, .dat (.list L2)), (.int 3, .dat (.list L3))]]) L2 hs hb n1 n2
    refine ⟨k, hk, ns', a', c', (rest ++ [.lst (L1.map .dat), .dct [(.int 1, .ref (rest.length + 2)), (.int 2, .dat (.list L2)), (.int 3, .dat (.list L3))]]), ?_, ht _ _, hs'⟩
    simp [evN, bi_assoc, -List.map_map, -List.map_reverse, -List.getD_eq_getElem?_getD, wk_ci, kk, gg, e] <;> (try simp only [b_out])
  · have kk : ∀ r v w, keyOk (.int 3) [(PyData.int 1, RV.ref r), (.int 2, v), (.int 3, w)] = true := fun r v w => rfl
    have gg : ∀ r v w, Z.getK [(PyData.int 1, RV.ref r), (.int 2, v), (.int 3, w)] (.int 3) = some w := fun r v w => rfl
    have n1 : kinds 3 ≠ [] := by unfold kinds; exact List.cons_ne_nil _ _
    have n2 : (kinds 3).length ≤ 1000000 := by show 3 ≤ 1000000; omega
    generalize kinds 2 = L2 at *
    generalize kinds 3 = L3 at *
    generalize kinds 1 = L1 at *
    obtain ⟨k, hk, ns', a', c', e, hs'⟩ := pick_dat d ns a b c (rest ++ [.lst (L1.map .dat), .dct [(.int 1, .ref (rest.length + 2)), (.int 2, .dat (.list L2)), (.int 3, .dat (.list L3))]]) L3 hs hb n1 n2
    refine ⟨k, hk, ns', a', c', (rest ++ [.lst (L1.map .dat), .dct [(.int 1, .ref (rest.length + 2)), (.int 2, .dat (.list L2)), (.int 3, .dat (.list L3))]]), ?_, ht _ _, hs'⟩
    simp [evN, bi_assoc, -List.map_map, -List.map_reverse, -List.getD_eq_getElem?_getD, wk_ci, kk, gg, e] <;> (try simp only [b_out])
theorem w_kind_ok (d m : Nat) (h1 : 1 ≤ m) (h3 : m ≤ 3) (ns : List Int) (a b c : Int) (rest : Sto) (hs : SI ns a b c) (hb : b + 1 < 100000000000000) : ∃ k ∈ kinds m, ∃ ns' a' c', callF cf defs (d + 3) "_law_w_kind" [.ref 1, .dat (.int (m : Nat))] (sst ns a b c rest) = .ok (.dat k) (sst ns' a' (b + 1) c' rest) ∧ SI ns' a' (b + 1) c' := by
  obtain ⟨k, hk, ns', a', c', rest', e, ht, hs'⟩ := wk5 d m h1 h3 ns a b c rest hs hb
  refine ⟨k, hk, ns', a', c', ?_, hs'⟩
  rw [op__law_w_kind, if_neg (by simp)]
  have h0 := ex_step (wk0 d m ns a b c rest)
  rw [show (defBody (top 39)).drop 0 = defBody (top 39) from rfl] at h0
  have h1' := ex_step (wk1 d m ns a b c rest)
  have h2 := ex_step (wk2 d m ns a b c rest)
  have h3' := ex_step (wk3 d m ns a b c rest)
  have h4 := ex_step (wk4 d m ns a b c rest)
  rw [List.drop_drop] at h1' h2 h3' h4
  have h5 := ex_ret e
  have hh : execL (execS cf (callF cf defs (d + 2)) wkN evN) (defBody (top 39)) [some (.ref 1), some (.dat (.int (m : Nat))), none, none, none] (sst ns a b c rest) = .ok (.ret (.dat k)) (sst ns' a' (b + 1) c' rest') := by
    rw [h0, h1', h2, h3', h4, h5]
  have F : ∀ r : R Fl, r = .ok (.ret (.dat k)) (sst ns' a' (b + 1) c' rest') → (r.bind fun r st' => match r with | .ret v => exitR (sst ns a b c rest).length v st' | .nxt _ => exitR (sst ns a b c rest).length (.dat .none) st' | _ => .err) = .ok (.dat k) (sst ns' a' (b + 1) c' rest) := by
    rintro r rfl
    rw [b_ok]
    show exitR (sst ns a b c rest).length (.dat k) (sst ns' a' (b + 1) c' rest') = _
    rw [ex_dat, sst_len, sst_take, ht]
  exact F _ hh
theorem keyI (i : Int) (kvs : List (PyData × RV)) (h : ∀ p ∈ kvs, leafK p.1 = true) : keyOk (.int i) kvs = true := by
  unfold keyOk
  rw [show keyG (.int i) = true from rfl, Bool.true_and, List.all_eq_true]
  intro p hp
  rw [h p hp]; rfl
/-- the books' book -/
def bkv : List (PyData × RV) := [(.int 1, .ref 2), (.int 2, .ref 3), (.int 3, .ref 4)]
/-- the books -/
structure RI (n : Nat) (rest : Sto) : Prop where
  bk : rest[3]? = some (.dct bkv)
  b : ∀ j, j < 3 → ∃ kv, rest[j]? = some (.dct kv) ∧ KI (j + 1) kv ∧ kv.length ≤ n
theorem RI.set {n n' : Nat} {rest : Sto} (h : RI n rest) {j : Nat} (hj : j < 3) {kv : List (PyData × RV)} (hk : KI (j + 1) kv) (hl : kv.length ≤ n') (hn : n ≤ n') : RI n' (rest.set j (.dct kv)) := by
  refine ⟨by rw [List.getElem?_set_ne (by omega)]; exact h.bk, fun i hi => ?_⟩
  by_cases e : j = i
  · subst e
    obtain ⟨kv0, h0, _, _⟩ := h.b j hj
    exact ⟨kv, set_at h0, hk, hl⟩
  · obtain ⟨kv0, h0, h1, h2⟩ := h.b i hi
    exact ⟨kv0, by rw [List.getElem?_set_ne e]; exact h0, h1, by omega⟩
theorem bk_item {n : Nat} {rest : Sto} (h : RI n rest) (ns : List Int) (a b c : Int) (j : Nat) (hj : j < 3) : cellItem (sst ns a b c rest) 5 (.int ((j : Nat) + 1)) = some (.ref (j + 2)) := by
  have e : (sst ns a b c rest)[5]? = some (.dct bkv) := h.bk
  rw [ci_dct e (keyI _ _ (by simp [bkv]))]
  have : j = 0 ∨ j = 1 ∨ j = 2 := by omega
  rcases this with rfl | rfl | rfl <;> rfl
theorem law_stream_ok (d : Nat) (ns : List Int) : callF cf defs (d + 1) "_law_stream" [.scr ns] [] = .ok (.ref 1) (sst ns 0 0 17 []) := by
  rw [op__law_stream]
  have eB : defBody (top 30) = defBody (top 30) := rfl
  conv at eB => rhs; whnf
  rw [eB]
  clear eB
  simp [evN, bi_assoc, -List.map_map, -List.map_reverse, -List.getD_eq_getElem?_getD] <;> (try simp only [b_out])
  unfold sst
  rw [List.map_map]
  rfl
end T

namespace T
open PySem Z L2
/-- what a turn leaves -/
structure LS where
  ns : List Int
  a : Int
  b : Int
  c : Int
  rest : Sto
  x : Option RV
  y : Option RV
  z : Option RV
structure LJ (n : Nat) (s : LS) : Prop where
  si : SI s.ns s.a s.b s.c
  ri : RI (n * 1000) s.rest
  lb : s.b ≤ n * 20000
theorem t1_ok : topsL (allL 9 2 kB) = [.int 0, .int 1] := by
  have := eqt_eq (n := 9) (a := .tuple (topsL (allL 9 2 kB))) (b := .tuple [.int 0, .int 1]) (by decide +kernel)
  injection this
theorem t2_ok : topsL (allL 9 1 (.tuple [kB, kB])) = [.tuple [.tuple [.int 0, .int 0], .tuple [.int 0, .int 0]]] := by
  have := eqt_eq (n := 9) (a := .tuple (topsL (allL 9 1 (.tuple [kB, kB])))) (b := .tuple [.tuple [.tuple [.int 0, .int 0], .tuple [.int 0, .int 0]]]) (by decide +kernel)
  injection this
theorem t3_ok : ((allL 9 1 kO).filter fun o => bel 9 (.tuple [.none, .int 0]) o) = [.tuple [.none, .int 0], .tuple [.int 0, .int 0]] := by
  have := eqt_eq (n := 9) (a := .tuple ((allL 9 1 kO).filter fun o => bel 9 (.tuple [.none, .int 0]) o)) (b := .tuple [.tuple [.none, .int 0], .tuple [.int 0, .int 0]]) (by decide +kernel)
  injection this
theorem t4_ok : ((allL 9 2 kO).filter fun o => bel 9 o (.tuple [.int 0, .int 0, .int 0])) = [.tuple [.none, .none, .none], .tuple [.none, .none, .int 0], .tuple [.none, .int 0, .none], .tuple [.none, .int 0, .int 0], .tuple [.int 0, .int 0, .int 0]] := by
  have := eqt_eq (n := 9) (a := .tuple ((allL 9 2 kO).filter fun o => bel 9 o (.tuple [.int 0, .int 0, .int 0]))) (b := .tuple [.tuple [.none, .none, .none], .tuple [.none, .none, .int 0], .tuple [.none, .int 0, .none], .tuple [.none, .int 0, .int 0], .tuple [.int 0, .int 0, .int 0]]) (by decide +kernel)
  injection this
theorem kB_l : (allL 9 2 kB).length ≤ 100 := by decide +kernel
theorem kBB_l : (allL 9 1 (.tuple [kB, kB])).length ≤ 100 := by decide +kernel
theorem law_ok (d : Nat) (sc : List Int) (hn : sc.length ≤ 63) : ∃ st, callF cf defs (d + 46) "law" [.scr sc] [] = .ok (.dat (.bool true)) st := by
  have e1 := law_stream_ok (d + 44) sc
  have h4 : range1 (.int 4) = some ((List.range 4).map fun i => RV.dat (.int (i : Nat))) := range1_nat (n := 4) (by omega)
  have hpa : putAll [] [(PyData.int 1, RV.ref 2), (.int 2, .ref 3), (.int 3, .ref 4)] = some bkv := rfl
  rw [op_law]
  have eB : defBody (top 41) = defBody (top 41) := rfl
  conv at eB => rhs; whnf
  rw [eB]
  clear eB
  simp [evN, bi_assoc, -List.map_map, -List.map_reverse, -List.getD_eq_getElem?_getD, e1, h4, -Z.pa_cons, hpa] <;> (try simp only [b_out])
  refine fo_rw (γ := LS) (G := fun r => ∃ st, r = R.ok (RV.dat (.bool true)) st) (fun i : Nat => RV.dat (.int (i : Nat))) (fun s => [some (.scr sc), some (.ref 1), some (.ref 5), s.x, s.y, s.z, none, none]) (fun s => sst s.ns s.a s.b s.c s.rest) (fun done s => LJ done.length s) (List.range 4) ⟨sc, 0, 0, 17, [.dct [], .dct [], .dct [], .dct bkv], none, none, none⟩ ⟨⟨Int.le_refl 0, Int.le_refl 0, Int.lt_of_sub_pos (by simp), by show (0:Int) ≤ 17; omega, by show (17:Int) < 2147483647; omega, hn⟩, ⟨rfl, ?_⟩, Int.le_refl 0⟩ ?_ ?_ rfl
  · intro j hj
    have : j = 0 ∨ j = 1 ∨ j = 2 := by omega
    rcases this with rfl | rfl | rfl <;> exact ⟨[], rfl, (fun p m => by cases m), Nat.zero_le _⟩
  · intro done t more s hs hd G hG
    obtain ⟨ns, a, b, c, rest, x, y, z⟩ := s
    obtain ⟨si, ri, lb⟩ := hs
    dsimp only at si ri lb
    obtain ⟨ht, ht4⟩ := range_split hd
    have hdl : done.length < 4 := by omega
    generalize hN : done.length = n at *
    have lb' : b ≤ 80000 := by omega
    obtain ⟨v, ns1, a1, c1, e2, v0, v3, s1⟩ := draw_ok (d + 44) ns a b c 3 rest si (by omega) (by omega) (by omega)
    obtain ⟨j, rfl⟩ : ∃ j : Nat, v = j := ⟨v.toNat, by omega⟩
    obtain ⟨m, hm⟩ : ∃ m : Nat, m = j + 1 := ⟨_, rfl⟩
    have hm2 : (1 : Int) + (j : Nat) = (m : Nat) := by omega
    obtain ⟨k, hk, ns2, a2, c2, e3, s2⟩ := w_kind_ok (d + 42) m (by omega) (by omega) ns1 a1 (b + 1) c1 rest s1 (by omega)
    obtain ⟨kv, hi, hI, hl⟩ := ri.b j (by omega)
    rw [← hm] at hI
    obtain ⟨ck, skk, _⟩ := kinds_8 m (mem123 (by omega) (by omega)) k hk
    obtain ⟨kv1, e4, i1, l1⟩ := lall_ok 8 (d + 26) m k (j + 2) (sst ns2 a2 (b + 1 + 1) c2 rest) kv ck (by omega) (by omega) hi hI (by omega)
    rw [show (sst ns2 a2 (b + 1 + 1) c2 rest).set (j + 2) (.dct kv1) = sst ns2 a2 (b + 1 + 1) c2 (rest.set j (.dct kv1)) from rfl] at e4
    have ri1 : RI (n * 1000 + 500) (rest.set j (.dct kv1)) := ri.set (by omega) (hm ▸ i1) (by omega) (by omega)
    have hbk : ∀ ns a b c, cellItem (sst ns a b c rest) 5 (.int (m : Nat)) = some (.ref (j + 2)) := fun ns a b c => by
      have := bk_item ri ns a b c j (by omega)
      rw [hm]; exact this
    have hbk1 : ∀ ns a b c, cellItem (sst ns a b c (rest.set j (.dct kv1))) 5 (.int (m : Nat)) = some (.ref (j + 2)) := fun ns a b c => by
      have := bk_item ri1 ns a b c j (by omega)
      rw [hm]; exact this
    obtain ⟨k', hk'⟩ : ∃ k', k' = if 100 < (allL 9 m k).length then kO else k := ⟨_, rfl⟩
    have hG' : GL m k' := by
      rw [hk']
      split
      · exact kinds_GL (by omega) (by omega) (kO_m m (by omega) (by omega)) (kO_l m (mem123 (by omega) (by omega)))
      · exact kinds_GL (by omega) (by omega) hk (by omega)
    obtain ⟨ns3, a3, b3, c3, kv2, e5, s3, lb3, i2, l2⟩ := right_ok (d + 4) j m hm k' ns2 a2 (b + 1 + 1) c2 (rest.set j (.dct kv1)) kv1 hG' s2 (set_at hi) i1 (by omega) (by omega)
    simp [evN, bi_assoc, -List.map_map, -List.map_reverse, -List.getD_eq_getElem?_getD, e2, hm2, e3, hbk, e4] <;> (try simp only [b_out])
    have hif : ∀ st : Sto, (if (100 : Int) < ((allL 9 m k).length : Nat) then R.ok (RV.dat (.tuple [.tuple []])) st else R.ok (RV.dat k) st) = R.ok (RV.dat k') st := fun st => by
      rw [hk']
      by_cases h : 100 < (allL 9 m k).length
      · rw [if_pos h, if_pos (by omega)]; rfl
      · rw [if_neg h, if_neg (by omega)]
    rw [hif]
    simp [evN, bi_assoc, -List.map_map, -List.map_reverse, -List.getD_eq_getElem?_getD, hbk1, e5] <;> (try simp only [b_out])
    have := hG ⟨ns3, a3, b3, c3, (rest.set j (.dct kv1)).set j (.dct kv2), some (.dat (.int (t : Nat))), some (.dat (.int (m : Nat))), some (.dat k')⟩ ⟨s3, by
      have := ri1.set (j := j) (kv := kv2) (n' := (done ++ [t]).length * 1000) (by omega) (hm ▸ i2) (by rw [List.length_append, hN]; simp; omega) (by rw [List.length_append, hN]; simp; omega)
      exact this, by show b3 ≤ _; rw [List.length_append, hN]; simp; omega⟩
    simpa using this
  · intro s hs
    have g1 : GL 2 kB := kinds_GL (by omega) (by omega) List.mem_cons_self kB_l
    have g2 : GL 1 (.tuple [kB, kB]) := kinds_GL (by omega) (by omega) (List.mem_cons_of_mem _ (List.mem_cons_of_mem _ List.mem_cons_self)) kBB_l
    have g3 : GL 1 kO := kinds_GL (by omega) (by omega) (kO_m 1 (by omega) (by omega)) (kO_l 1 (mem123 (by omega) (by omega)))
    have g4 : GL 2 kO := kinds_GL (by omega) (by omega) (kO_m 2 (by omega) (by omega)) (kO_l 2 (mem123 (by omega) (by omega)))
    have x3 : PyData.tuple [.none, .int 0] ∈ allL 9 1 kO := by
      have : PyData.tuple [.none, .int 0] ∈ (allL 9 1 kO).filter fun o => bel 9 (.tuple [.none, .int 0]) o := by rw [t3_ok]; exact List.mem_cons_self
      exact (List.mem_filter.mp this).1
    have x4 : PyData.tuple [.int 0, .int 0, .int 0] ∈ allL 9 2 kO := by
      have : PyData.tuple [.int 0, .int 0, .int 0] ∈ (allL 9 2 kO).filter fun o => bel 9 o (.tuple [.int 0, .int 0, .int 0]) := by rw [t4_ok]; simp
      exact (List.mem_filter.mp this).1
    have f1 : ∀ st, callF cf defs (d + 45) "tops" [.dat (.int 2), .dat (.tuple [])] st = .ok (.own ([PyData.int 0, .int 1].map .dat)) st := fun st => by
      have := tops_ok (d + 15) 2 kB (.tuple []) st g1.toGK rfl rfl rfl
      rw [t1_ok] at this
      exact this
    have f2 : ∀ st, callF cf defs (d + 45) "tops" [.dat (.int 1), .dat (.tuple [.tuple [], .tuple []])] st = .ok (.own ([PyData.tuple [.tuple [.int 0, .int 0], .tuple [.int 0, .int 0]]].map .dat)) st := fun st => by
      have := tops_ok (d + 15) 1 (.tuple [kB, kB]) (.tuple [.tuple [], .tuple []]) st g2.toGK rfl rfl rfl
      rw [t2_ok] at this
      exact this
    have f3 : ∀ st, callF cf defs (d + 45) "above" [.dat (.int 1), .dat (.tuple [.tuple []]), .dat (.tuple [.none, .int 0])] st = .ok (.own ([PyData.tuple [.none, .int 0], .tuple [.int 0, .int 0]].map .dat)) st := fun st => by
      have := above_ok 9 (d + 15) 1 kO (.tuple [.tuple []]) _ _ st g3.toGK x3 (g3.lt x3) rfl rfl rfl
      rw [t3_ok] at this
      exact this
    have f4 : ∀ st, callF cf defs (d + 45) "beneath" [.dat (.int 2), .dat (.tuple [.tuple []]), .dat (.tuple [.int 0, .int 0, .int 0])] st = .ok (.own ([PyData.tuple [.none, .none, .none], .tuple [.none, .none, .int 0], .tuple [.none, .int 0, .none], .tuple [.none, .int 0, .int 0], .tuple [.int 0, .int 0, .int 0]].map .dat)) st := fun st => by
      have := beneath_ok 9 (d + 15) 2 kO (.tuple [.tuple []]) _ _ st g4.toGK x4 (g4.lt x4) rfl rfl rfl
      rw [t4_ok] at this
      exact this
    have f5 := fun x st h => same_ok 9 (d + 35) x st h
    refine ⟨[], ?_⟩
    have f6 := fun st => same_ok 9 (d + 35) (.list [.list [.int 0, .int 1], .list [.tuple [.tuple [.int 0, .int 0], .tuple [.int 0, .int 0]]], .list [.tuple [.none, .int 0], .tuple [.int 0, .int 0]], .list [.tuple [.none, .none, .none], .tuple [.none, .none, .int 0], .tuple [.none, .int 0, .none], .tuple [.none, .int 0, .int 0], .tuple [.int 0, .int 0, .int 0]]]) st (by decide)
    clear f5
    simp [evN, bi_assoc, -List.map_map, -List.map_reverse, -List.getD_eq_getElem?_getD, f1, f2, f3, f4, f6] <;> (try simp only [b_out])
theorem law_true : ∀ ns : List Int, ns.length ≤ 63 → (∀ z ∈ ns, PySem.Builtin.Int.intBits z ≤ 1048576) → ∃ st, Z.callF T.cf T.defs 100 "law" [.scr ns] [] = .ok (.dat (.bool true)) st := fun ns h _ => law_ok 54 ns h
end T

namespace Hd
open PySem PySem.Spec PyProof.Rows L2 Z
def fn : List He.DefD := T.tb.map Ent.d
def fa : List He.Fa := T.tb.map (fun e => .glo e.x) ++ blNames.map .free
def nm0 : List PySem.Str := ["is_list", "is_whole", "is_number", "is_row", "as_tuples", "SameError", "BadMany", "BadType", "BadElement", "is_type", "kept_type", "need_type", "is_many", "check_many", "lies_below", "all_elements", "tables_between", "places_of", "kept_element", "need_element", "above", "beneath", "tops", "_law_stream", "_law_draw", "_law_pick", "_law_same", "_law_spoilt", "_law_copied", "_law_loose"]
def nm30 : List PySem.Str := ["_law_below", "_law_all", "_law_w_kind", "_law_element_right"]
def names : List PySem.Str := nm0 ++ nm30
abbrev R : PySem.W.OpenRow := PySem.W.OpenLaw.row PySem.Challenge.rw_sameinall_k24_whole_above_beneath_tops
abbrev qv : Program := PySem.W.view R.prog [41]
abbrev hk : PySem.W.Hook := He.hookX 6 fa fn [] [] (fun _ => true)
def ob (s : PySem.W.SharedT) : He.AlX := He.obsX 6 fa fn [] [] (fun _ => true) (HandSHeadRun.getT s)
theorem ob_eq (s : PySem.W.SharedT) : ob s = hk.obs s.abs := He.obsX_eq (HandSHeadRun.getT_eq s)
set_option maxHeartbeats 0 in
theorem run (w : World) : HandSHeadRun.RunEq R qv hk ob 6000 names w := by
  intro os
  kernel_rfl
end Hd

open PySem PySem.W PySem.Calls PyProof.Rows
set_option maxRecDepth 100000 in
set_option maxHeartbeats 8000000 in
theorem PySem.Challenge.cw_sameinall_k24_whole_above_beneath_tops_holds : PySem.Challenge.rw_sameinall_k24_whole_above_beneath_tops.Holds := by
  w_on; o_law
  refine HandSHeadRun.head_any (r := OpenLaw.row PySem.Challenge.rw_sameinall_k24_whole_above_beneath_tops) (q := view (OpenLaw.row PySem.Challenge.rw_sameinall_k24_whole_above_beneath_tops).prog [41]) (H := Hd.hk) (ob := Hd.ob) (M := 6000) (loose := Hd.names) (d := HandSHeadRun.topDef (OpenLaw.row PySem.Challenge.rw_sameinall_k24_whole_above_beneath_tops).prog 41) (kwd := []) Hd.ob_eq
    (by kernel_rfl) (fun s => by kernel_rfl) Hd.run (by kernel_rfl) (by kernel_rfl) (by kernel_rfl) (by rfl) (by first | assumption | decide +kernel) (by decide +kernel) ⟨rfl, rfl, rfl, rfl, rfl, by decide +kernel⟩ ?hw ?hc
  case hw => w_witness2
  case hc =>
    refine Z.walk_end (l := PySem.Challenge.rw_sameinall_k24_whole_above_beneath_tops) (n := 63) (k := 100 + Z.lvl) (x := "script") rfl (by decide) (by kernel_rfl) ⟨rfl, by decide, by decide⟩ ?F
    case F =>
      intro w mg fa h Y G hmg0
      obtain ⟨K, KX, c⟩ := Y
      have hmg : mg ("law" : PySem.Str) = some (.ref fa) := by
        have e : (HandSHeadRun.topDef (OpenLaw.row PySem.Challenge.rw_sameinall_k24_whole_above_beneath_tops).prog 41).name = ("law" : PySem.Str) := by kernel_rfl
        rw [← e]
        exact hmg0
      exact Z.law_end (P := (PySem.Challenge.rw_sameinall_k24_whole_above_beneath_tops).prog) (w := w) (d := 100) KX G c.t.d (fun e he => List.mem_map_of_mem he) (fun e he => List.mem_append_left _ (List.mem_map.mpr ⟨e, he, rfl⟩)) (fun x hx => List.mem_append_right _ (List.mem_map.mpr ⟨x, hx, rfl⟩)) T.ck T.ckl hmg (by decide +kernel) T.law_true

