import PyProof.Rows.All
import Wide.All
import OpenK.AllK
import Wide.FinOn
import HandS.Base
import KE.DataEq
import HandS.Comp
import PyProof.ReprReads
import PyProof.P3Statements
import PyProof.EqLayable
import PyProof.SliceList
import HandS.ForMost
import HandS.Exc
import HandS.Lambda
import HandS.Flow
import HandS.Wide
import HandS.TupAny
import HandS.TupMul
import HandS.Style
import HandS.IsInst
import HandS.Zip
import KE.KTupSum
import HandS.Deep
import PyProof.ReprRoads
import HandS.NoneIn
import HandS.Star
import HandS.SortInts
import HandS.Conv
import PyProof.Rows.FactsT1
import PyProof.Rows.FactsT3
import KE.DataFind
import HandS.ExcIs
import HandS.ExcField
import KE.GoesEnum
import KE.KTryMore
import PyProof.LongRange
import HandS.TryOnly
import HandS.Defaults
import HandS.ExcInit
import KE.KExcInit
import PyProof.ExcBaseAll.RuntimeError
import HandS.EndTab
import HandS.HeadHook4
import HandS.Head2
import HandS.HeadEnd
import PyProof.ReprLen
import PyProof.FitsInt
import PyProof.ReprBulk
import PySem.Challenge.RW_sumwheels_k42_loops_checked_and_folded
set_option Elab.async false
set_option linter.all false
set_option maxRecDepth 100000
/-! An interpreter of the Python of these laws over plain data: slots, lists owned by a slot, own exceptions. -/
namespace Z
open PySem

abbrev D := PyData
/-- the fields of an exception -/
abbrev Fs := List (Str × D)
/-- what a slot holds, what an expression gives: plain data that nobody changes; the list that slot i owns; a new list that nobody else knows; an exception; a lambda without parameters, by what its call gives -/
inductive SV where
  | dat (d : D)
  | bor (i : Nat)
  | own (xs : List D)
  | exc (c : Str) (fs : Fs)
  | thk (r : Option D) (c : Str) (fs : Fs)
abbrev Sl := List (Option SV)
inductive O (α : Type) where
  | ok (a : α) (S : Sl)
  | exc (c : Str) (fs : Fs) (S : Sl)
  | bad
/-- a statement's end -/
inductive Fl where
  | nx (S : Sl)
  | ret (r : SV) (S : Sl)
  | bk (S : Sl)
  | ct (S : Sl)
  | exc (c : Str) (fs : Fs) (S : Sl)
  | bad
inductive Res where
  | ok (r : SV) (io : List D)
  | exc (c : Str) (fs : Fs)
  | bad
@[inline] def O.bind {α β : Type} (x : O α) (f : α → Sl → O β) : O β := match x with
  | .ok a S => f a S
  | .exc c fs S => .exc c fs S
  | .bad => .bad
@[inline] def O.st {α : Type} (x : O α) (f : α → Sl → Fl) : Fl := match x with
  | .ok a S => f a S
  | .exc c fs S => .exc c fs S
  | .bad => .bad
@[inline] def O.of {α : Type} (x : Option α) (S : Sl) : O α := match x with
  | some a => .ok a S
  | none => .bad
@[inline] def Fl.bind (x : Fl) (f : Sl → Fl) : Fl := match x with
  | .nx S => f S
  | r => r

/-- where an argument comes from: a written place, a keyword's place, a default -/
inductive Src where
  | pos (i : Nat)
  | kw (j : Nat)
  | dfl (d : D)
structure Fn where
  ps : List Str
  star : Option Nat := none
  thk : Bool := false
  io : Option Nat := none
  lvl : Nat
  plan : Nat → List Str → Option (List Src)
  run : List SV → Res
inductive GV where
  | fn (f : Fn)
  | bi
  | val (d : D)
/-- an own exception class: its one field, that field's default -/
structure XC where
  fld : Str
  dfl : Option D
structure Ctx where
  N : List Str
  sc : Scope
  lvl : Nat
  io : Option Nat := none
  G : Str → Option GV
  xcl : Str → Option XC
  isx : Str → Str → Option Bool
  isT : Str → Bool := fun _ => false
  own : Str → Bool
  lam : Bool := false
  hasT : Bool := false
def ownS (sc : Scope) (x : Str) : Bool := match sc.names.lookup x with
  | some .local => true
  | some .cell => true
  | _ => false
/-- a comprehension's block -/
def Ctx.blk (c : Ctx) (scope : Scope) : Ctx := { c with sc := L2.relS scope c.sc, own := ownS scope, lam := false, hasT := false }
/-- a lambda's body -/
def Ctx.lamC (c : Ctx) (scope : Scope) (k : Nat) : Ctx := { c with sc := scope, own := fun _ => false, lam := false, hasT := false, lvl := k, io := none }

/-! ### slots -/
def vis (c : Ctx) (x : Str) : Bool := match c.sc.names.lookup x with
  | some .local => true
  | some .cell => true
  | some .free => true
  | _ => false
def loc (c : Ctx) (x : Str) : Bool := match c.sc.names.lookup x with
  | some .local => true
  | some .cell => true
  | _ => false
def glo (c : Ctx) (x : Str) : Bool := match c.sc.names.lookup x with
  | some .globalImplicit => true
  | _ => false
def ix (c : Ctx) (x : Str) : Option Nat := c.N.findIdx? (· == x)
def slot (c : Ctx) (x : Str) : Option Nat := if vis c x then ix c x else none
def put (S : Sl) (i : Nat) (v : SV) : Sl := S.set i (some v)
def cont (S : Sl) : SV → Option D
  | .dat d => some d
  | .own xs => some (.list xs)
  | .bor i => match S[i]? with
    | some (some (.own xs)) => some (.list xs)
    | _ => none
  | _ => none
/-- the same of a list that was read once more meanwhile -/
def cont2 (S : Sl) : SV → Option D
  | .bor i => match S[i]? with
    | some (some (.own xs)) => some (.list xs)
    | some (some (.dat (.list xs))) => some (.list xs)
    | _ => none
  | v => cont S v
/-- slot i's list from now on never changes -/
def frz (S : Sl) (i : Nat) : Sl := match S[i]? with
  | some (some (.own xs)) => put S i (.dat (.list xs))
  | _ => S
/-- as plain data that nobody changes -/
def settle (S : Sl) : SV → O D
  | .dat d => .ok d S
  | .own xs => .ok (.list xs) S
  | .bor i => match S[i]? with
    | some (some (.own xs)) => .ok (.list xs) (put S i (.dat (.list xs)))
    | _ => .bad
  | _ => .bad
def settleAll : List SV → Sl → O (List D)
  | [], S => .ok [] S
  | v :: vs, S => (settle S v).bind fun d S1 => (settleAll vs S1).bind fun ds S2 => .ok (d :: ds) S2
/-- what a name that is assigned holds -/
def stow (S : Sl) : SV → O SV
  | .own xs => .ok (.own xs) S
  | .exc c fs => .ok (.exc c fs) S
  | .thk _ _ _ => .bad
  | v => (settle S v).bind fun d S1 => .ok (.dat d) S1
mutual
def noLst : D → Bool
  | .list _ => false
  | .dict _ => false
  | .tuple xs => noLsts xs
  | _ => true
def noLsts : List D → Bool
  | [] => true
  | x :: xs => noLst x && noLsts xs
end

/-! ### operations -/
def mulOk (i j : Int) : Bool := decide (i.natAbs < 2 ^ 64) || decide (j.natAbs < 2 ^ 64) || decide (i.natAbs.log2 + j.natAbs.log2 < 1000000)
def divOk (j : Int) : Bool := (decide (j ≠ 0) && decide (j.natAbs < 1073741824)) || (decide (0 < j) && decide (j.natAbs.log2 < 9000))
def binD : Operator → D → D → Option SV
  | .Add, .int i, .int j => some (.dat (.int (i + j)))
  | .Add, .str x, .str y => if x.length + y.length ≤ sizeLine then some (.dat (.str (x ++ y))) else none
  | .Add, .list xs, .list ys => if xs.length + ys.length ≤ sizeLine then some (.own (xs ++ ys)) else none
  | .Add, .tuple xs, .tuple ys => if xs.length + ys.length ≤ sizeLine then some (.dat (.tuple (xs ++ ys))) else none
  | .Sub, .int i, .int j => some (.dat (.int (i - j)))
  | .Mult, .int i, .int j => if mulOk i j then some (.dat (.int (i * j))) else none
  | .Mult, .list xs, .int k => if decide (-(2 ^ 63) ≤ k) && decide (k < 2 ^ 63) && decide (xs.length * k.toNat ≤ sizeLine) then some (.own (List.replicate k.toNat xs).flatten) else none
  | .Mult, .tuple xs, .int k => if decide (2 ≤ k) && decide (k ≤ 4000) && decide (xs.length ≤ 4000) && !xs.isEmpty then some (.dat (.tuple (List.replicate k.toNat xs).flatten))
    else if decide (-(2 ^ 63) ≤ k) && decide (k < 2 ^ 63) then (if xs.isEmpty || k == 1 then some (.dat (.tuple xs)) else if k ≤ 0 then some (.dat (.tuple [])) else none) else none
  | .FloorDiv, .int i, .int j => if divOk j then some (.dat (.int (i.fdiv j))) else none
  | .Mod, .int i, .int j => if j ≠ 0 then some (.dat (.int (i.fmod j))) else none
  | .Pow, .int i, .int j => if decide (0 ≤ j) && decide (j ≤ 1000000) && decide (i.natAbs < 2 ^ 64) then some (.dat (.int (i ^ j.toNat))) else none
  | _, _, _ => none
def truth : D → Option Bool
  | .none => some false
  | .bool b => some b
  | .int i => some (i != 0)
  | .str x => if x.length ≤ sizeLine then some (x.length != 0) else none
  | .list xs => some (!xs.isEmpty)
  | .tuple xs => some (!xs.isEmpty)
  | .dict _ => none
def unD : UnaryOp → D → Option D
  | .USub, .int i => some (.int (-i))
  | .Not, d => (truth d).map fun b => .bool (!b)
  | _, _ => none
def unOk : UnaryOp → Bool
  | .USub => true
  | .Not => true
  | _ => false
/-- data without dicts, not too deep: what == and != are read of -/
def flatD (d : D) : Bool := d.plain && decide (d.depth ≤ 64)
def intsOf : List D → Option (List Int)
  | [] => some []
  | .int i :: r => (intsOf r).map (i :: ·)
  | _ :: _ => none
def cmpD : CmpOp → D → D → Option Bool
  | .Eq, x, y => if flatD x && flatD y then some (PyData.eqv x y) else none
  | .NotEq, x, y => if flatD x && flatD y then some (!PyData.eqv x y) else none
  | .Lt, .int i, .int j => some (decide (i < j))
  | .LtE, .int i, .int j => some (decide (i ≤ j))
  | .Gt, .int i, .int j => some (decide (j < i))
  | .GtE, .int i, .int j => some (decide (j ≤ i))
  | .In, .int i, .list xs => (intsOf xs).map fun ns => ns.any (· == i)
  | .In, .int i, .tuple xs => (intsOf xs).map fun ns => ns.any (· == i)
  | .NotIn, .int i, .list xs => (intsOf xs).map fun ns => !ns.any (· == i)
  | .NotIn, .int i, .tuple xs => (intsOf xs).map fun ns => !ns.any (· == i)
  | _, _, _ => none
def isNone (S : Sl) : SV → Option Bool
  | .dat d => some (match d with
    | .none => true
    | _ => false)
  | .own _ => some false
  | .bor i => (cont S (.bor i)).map fun _ => false
  | .exc _ _ => some false
  | .thk _ _ _ => none
def cmpV (S : Sl) (op : CmpOp) (x y : SV) : Option Bool := match op, y with
  | .Is, .dat .none => isNone S x
  | .IsNot, .dat .none => (isNone S x).map (!·)
  | .Is, .dat (.bool b) => match x with
    | .dat (.bool a) => some (decide (a = b))
    | _ => none
  | _, _ => match cont S x, cont S y with
    | some a, some b => cmpD op a b
    | _, _ => none
def ixN (n : Nat) (i : Int) : Option Nat := if 0 ≤ i then (if i < n then some i.toNat else none) else if -(n : Int) ≤ i then some (i + n).toNat else none
def atI (xs : List D) (i : Int) : Option D := (ixN xs.length i).bind fun j => xs[j]?
def ixD : D → D → Option D
  | .list xs, .int i => atI xs i
  | .tuple xs, .int i => atI xs i
  | _, _ => none
def sIx (n d : Nat) : Option Int → Nat
  | none => d
  | some v => if v < 0 then (v + (n : Int)).toNat else min v.toNat n
def cut (xs : List D) (lo hi : Option Int) : List D := (xs.drop (sIx xs.length 0 lo)).take (sIx xs.length xs.length hi - sIx xs.length 0 lo)
def sliceD (lo hi : Option Int) : D → Option SV
  | .list xs => some (.own (cut xs lo hi))
  | .tuple xs => some (.dat (.tuple (cut xs lo hi)))
  | _ => none
/-- the items at lo, lo + st, .. (n of them) -/
def pickN {α : Type} (xs : List α) (ks : List Nat) : List α := ks.filterMap (xs[·]?)
def stepT (n : Nat) (lo hi : Option Int) (st : Int) : List Nat := (List.range (Builtin.Slice.slicePlaces (Builtin.Slice.sliceAdjust lo hi st n).1 (Builtin.Slice.sliceAdjust lo hi st n).2 st)).map fun (m : Nat) => ((Builtin.Slice.sliceAdjust lo hi st n).1 + (m : Int) * st).toNat
def stepL (n : Nat) (lo hi : Option Int) (st : Int) : List Nat := sliceRange (sliceBounds lo hi (some st) n).1 (sliceBounds lo hi (some st) n).2.1 (sliceBounds lo hi (some st) n).2.2
def stepD (lo hi st : Option Int) : D → Option SV
  | .list xs => st.bind fun k => if k = 0 then none else some (.own (pickN xs (stepL xs.length lo hi k)))
  | .tuple xs => st.bind fun k => if k = 0 then none else if (pickN xs (stepT xs.length lo hi k)).length ≤ sizeLine then some (.dat (.tuple (pickN xs (stepT xs.length lo hi k)))) else none
  | _ => none
def sliceRev : D → Option SV
  | .list xs => some (.own xs.reverse)
  | .tuple xs => some (.dat (.tuple xs.reverse))
  | _ => none
def tyOf : D → String
  | .none => "NoneType"
  | .bool _ => "bool"
  | .int _ => "int"
  | .str _ => "str"
  | .list _ => "list"
  | .tuple _ => "tuple"
  | .dict _ => "dict"
def isD (x : D) (t : Str) : Option Bool :=
  if t = "int" then some (match x with | .int _ => true | .bool _ => true | _ => false)
  else if t = "bool" then some (match x with | .bool _ => true | _ => false)
  else if t = "str" then some (match x with | .str _ => true | _ => false)
  else if t = "tuple" then some (match x with | .tuple _ => true | _ => false)
  else if t = "list" then some (match x with | .list _ => true | _ => false)
  else none
def boolsOf : List D → Option (List Bool)
  | [] => some []
  | .bool b :: r => (boolsOf r).map (b :: ·)
  | _ :: _ => none
def itemsOf : D → Option (List D)
  | .list xs => some xs
  | .tuple xs => some xs
  | _ => none
def reprD (d : D) : Option D := if d.showable && decide (d.depth ≤ 20) && decide (d.shown.length ≤ sizeLine) then some (.str d.shown) else none
def biLen : List D → Option SV
  | [.list xs] => some (.dat (.int xs.length))
  | [.tuple xs] => some (.dat (.int xs.length))
  | _ => none
def biAbs : List D → Option SV
  | [.int i] => some (.dat (.int (if i < 0 then -i else i)))
  | _ => none
def biMin : List D → Option SV
  | [.int i, .int j] => some (.dat (.int (if j < i then j else i)))
  | _ => none
/-- the greatest -/
def maxL : List Int → Int → Int
  | [], m => m
  | a :: r, m => maxL r (if a > m then a else m)
/-- sorted integers -/
def insL (a : Int) : List Int → List Int
  | [] => [a]
  | b :: r => if a ≤ b then a :: b :: r else b :: insL a r
def sortL : List Int → List Int
  | [] => []
  | a :: r => insL a (sortL r)
def biSorted : List D → Option SV
  | [.list xs] => (intsOf xs).map fun ns => .own ((sortL ns).map .int)
  | _ => none
def biMax : List D → Option SV
  | [.int i, .int j] => some (.dat (.int (if j > i then j else i)))
  | [.list xs] => (match intsOf xs with
    | some (n :: ns) => some (.dat (.int (maxL ns n)))
    | _ => none)
  | _ => none
def biSum : List D → Option SV
  | [.list xs] => (intsOf xs).map fun ns => .dat (.int ns.sum)
  | [.tuple xs] => (intsOf xs).map fun ns => .dat (.int ns.sum)
  | _ => none
def biAll : List D → Option SV
  | [.list xs] => (boolsOf xs).map fun bs => .dat (.bool (bs.all id))
  | _ => none
def biAny : List D → Option SV
  | [.list xs] => (boolsOf xs).map fun bs => .dat (.bool (bs.any id))
  | _ => none
def biTuple : List D → Option SV
  | [.list xs] => some (.dat (.tuple xs))
  | [.tuple xs] => some (.dat (.tuple xs))
  | _ => none
def biList : List D → Option SV
  | [.list xs] => some (.own xs)
  | [.tuple xs] => some (.own xs)
  | _ => none
def biRepr : List D → Option SV
  | [d] => (reprD d).map .dat
  | _ => none
def biInt : List D → Option SV
  | [.int i] => some (.dat (.int i))
  | [.bool b] => some (.dat (.int (if b then 1 else 0)))
  | _ => none
def biD (f : Str) (args : List D) : Option SV :=
  if f = "len" then biLen args else if f = "abs" then biAbs args else if f = "min" then biMin args else if f = "max" then biMax args else if f = "sum" then biSum args
  else if f = "all" then biAll args else if f = "any" then biAny args else if f = "tuple" then biTuple args else if f = "list" then biList args else if f = "repr" then biRepr args else if f = "int" then biInt args else if f = "sorted" then biSorted args else none
def biKnown (f : Str) : Bool := f = "len" || f = "abs" || f = "min" || f = "max" || f = "sum" || f = "all" || f = "any" || f = "tuple" || f = "list" || f = "repr" || f = "int" || f = "sorted"
/-- the same by what is in the slots: nothing of a list is handed on but by tuple, list -/
def biV (S : Sl) (f : Str) (vs : List SV) : Option SV := match vs with
  | [a] => (cont S a).bind fun x => biD f [x]
  | [a, b] => (cont S a).bind fun x => (cont S b).bind fun y => biD f [x, y]
  | _ => none
def rng (lo : Int) (n : Nat) : List D := (List.range n).map fun (i : Nat) => .int (lo + i)
def small (i : Int) : Bool := decide (-(2 ^ 62) ≤ i) && decide (i < 2 ^ 62)
def pick (src : List Src) (ps ks : List SV) : Option (List SV) := match src with
  | [] => some []
  | .pos i :: r => (ps[i]?).bind fun v => (pick r ps ks).map (v :: ·)
  | .kw j :: r => (ks[j]?).bind fun v => (pick r ps ks).map (v :: ·)
  | .dfl d :: r => (pick r ps ks).map (.dat d :: ·)
/-- what is handed to a callee in its slot k: at the place io a list that it owns meanwhile -/
def hand1 (S : Sl) (io : Option Nat) (k : Nat) (v : SV) : Option SV :=
  if io = some k then (match v with
      | .bor i => (match S[i]? with
        | some (some (.own xs)) => some (.own xs)
        | _ => none)
      | _ => none)
  else (cont S v).map SV.dat
def hand (S : Sl) (io : Option Nat) : Nat → List SV → Option (List SV)
  | _, [] => some []
  | k, v :: r => (hand1 S io k v).bind fun a => (hand S io (k + 1) r).map (a :: ·)
def bors : List SV → List Nat
  | [] => []
  | .bor i :: r => i :: bors r
  | _ :: r => bors r
def frzAll (S : Sl) : List Nat → Sl
  | [] => S
  | i :: r => frzAll (frz S i) r
def noL : SV → Bool
  | .dat d => noLst d
  | .own xs => noLsts xs
  | _ => false
def ioAt (io : Option Nat) (vs : List SV) : Option Nat := match io with
  | none => none
  | some k => match vs[k]? with
    | some (.bor i) => some i
    | _ => none
def noLF (fs : Fs) : Bool := fs.all fun p => noLst p.2
/-- the call of an own def with the arguments vs in its parameters' order -/
def callF (f : Fn) (vs : List SV) (S : Sl) : O SV := match hand S f.io 0 vs with
  | none => .bad
  | some as => match f.run as with
    | .ok r xs => (match f.io with
      | some _ => (match ioAt f.io vs with
        | some i => if (bors vs).count i = 1 && ((noL r && noLsts xs) || (bors vs).length = 1) then .ok r (put S i (.own xs)) else .bad
        | none => .bad)
      | none => if noL r then .ok r S else .ok r (frzAll S (bors vs)))
    | .exc c fs => (match f.io with
      | some _ => .bad
      | none => if noLF fs then .exc c fs S else .exc c fs (frzAll S (bors vs)))
    | .bad => .bad
/-- a def that got a lambda -/
def callT (f : Fn) (t : SV) (S : Sl) : O SV := match f.io with
  | some _ => .bad
  | none => match f.run [t] with
    | .ok r _ => .ok r S
    | _ => .bad
/-- a lambda: no parameter, no name of its own -/
def lamOk (c : Ctx) (prm : Arguments) (scope : Scope) : Bool := (match prm with
  | ⟨[], [], none, [], [], none, []⟩ => true
  | _ => false) && decide (scope.kind = .function) && !scope.isCoroutine && !scope.isGenerator &&
    scope.names.all fun y => !decide (y.2 = .local) && !decide (y.2 = .cell) && (!decide (y.2 = .free) || decide (c.sc.names.lookup y.1 = some .cell) || decide (c.sc.names.lookup y.1 = some .free))
/-- the places of what a lambda knows -/
def lamIx (c : Ctx) (scope : Scope) : List Nat := scope.names.filterMap fun y => if y.2 = .free then ix c y.1 else none
/-- without the lists that slots own -/
def hide (S : Sl) : Sl := S.map fun v => match v with
  | some (.dat d) => some (.dat d)
  | some (.exc c fs) => some (.exc c fs)
  | _ => none
def noOwn : Sl → Bool
  | [] => true
  | some (.own _) :: _ => false
  | _ :: r => noOwn r

/-! ### statements' parts -/
def setN (c : Ctx) (x : Str) (v : SV) (S : Sl) : Option Sl := if loc c x && c.own x then (match ix c x with
  | some i => if c.io = some i then none else some (put S i v)
  | none => none) else none
def names : List Expr → Option (List Str)
  | [] => some []
  | .Name x _ :: r => (names r).map (x :: ·)
  | _ :: _ => none
def setNs (c : Ctx) : List Str → List SV → Sl → Option Sl
  | [], [], S => some S
  | x :: xs, v :: vs, S => (setN c x v S).bind (setNs c xs vs)
  | _, _, _ => none
def asgD (c : Ctx) (tg : Expr) (d : D) (S : Sl) : Option Sl := match tg with
  | .Name x _ => setN c x (.dat d) S
  | .Tuple es _ _ => (names es).bind fun xs => match d with
    | .tuple ds => if ds.length = xs.length then setNs c xs (ds.map .dat) S else none
    | .list ds => if ds.length = xs.length then setNs c xs (ds.map .dat) S else none
    | _ => none
  | _ => none
def stowAll : List SV → Sl → O (List SV)
  | [], S => .ok [] S
  | v :: vs, S => (stow S v).bind fun d S1 => (stowAll vs S1).bind fun ds S2 => .ok (d :: ds) S2
def forL (body : D → Sl → Fl) : List D → Sl → Fl
  | [], S => .nx S
  | d :: r, S => match body d S with
    | .nx S1 => forL body r S1
    | .ct S1 => forL body r S1
    | .bk S1 => .nx S1
    | x => x
def whL (test : Sl → O Bool) (body : Sl → Fl) : Nat → Sl → Fl
  | 0, _ => .bad
  | k + 1, S => (test S).st fun b S1 => if b then (match body S1 with
    | .nx S2 => whL test body k S2
    | .ct S2 => whL test body k S2
    | .bk S2 => .nx S2
    | x => x) else .nx S1
/-- a comprehension's turns: acc the items made so far; S: the slots (its own names stand in them only within a turn) -/
def lcL (turn : D → Sl → O (Option D)) : List D → List D → Sl → O (List D)
  | [], acc, S => .ok acc S
  | d :: r, acc, S => match turn d S with
    | .ok (some x) S1 => if acc.length < sizeLine then lcL turn r (acc ++ [x]) S1 else .bad
    | .ok none S1 => lcL turn r acc S1
    | _ => .bad
def targets : Expr → List Str
  | .Name x _ => [x]
  | .Tuple es _ _ => (names es).getD []
  | _ => []
def wipeN (c : Ctx) : List Str → Sl → Sl
  | [], S => S
  | x :: xs, S => match ix c x with
    | some i => (wipeN c xs S).set i none
    | none => wipeN c xs S
/-- the slots behind a turn: those of the comprehension's own names as they were ahead of it -/
def keepN (c : Ctx) (S0 : Sl) : List Str → Sl → Sl
  | [], S => S
  | x :: xs, S => match ix c x with
    | some i => (keepN c S0 xs S).set i (S0[i]?).join
    | none => keepN c S0 xs S
def ioOwn (io : Option Nat) (S : Sl) : Bool := match io with
  | none => true
  | some k => (match S[k]? with
    | some (some (.own _)) => true
    | _ => false)
def retV (io : Option Nat) (S : Sl) (v : SV) : O SV := if ioOwn io S then (match v with
  | .bor i => if io = some i then .bad else (match S[i]? with
    | some (some (.own xs)) => .ok (.own xs) S
    | _ => .bad)
  | .own xs => .ok (.own xs) S
  | .dat d => .ok (.dat d) S
  | _ => .bad) else .bad
def kwNames : List Keyword → Option (List Str)
  | [] => some []
  | k :: r => k.arg.bind fun a => (kwNames r).map (a :: ·)
def isNm (c : Ctx) (x : Str) : Option GV := if glo c x && (ix c x).isNone then c.G x else none
def biG (c : Ctx) (x : Str) : Bool := match isNm c x with
  | some .bi => true
  | _ => false
def clsNames (c : Ctx) : Expr → Option (List Str)
  | .Name x _ => if glo c x then some [x] else none
  | .Tuple es _ _ => (names es).bind fun xs => if xs.all (glo c) then some xs else none
  | _ => none
def isOk (c : Ctx) (t : Str) : Bool := glo c t && (ix c t).isNone && (c.isT t || (biG c t && (t = "int" || t = "bool" || t = "str" || t = "tuple" || t = "list")))
def isV (c : Ctx) (S : Sl) (v : SV) (t : Str) : Option Bool := match v with
  | .exc k _ => c.isx k t
  | _ => if biG c t then (cont S v).bind fun d => isD d t else none
def isAny (c : Ctx) (S : Sl) (v : SV) : List Str → Option Bool
  | [] => some false
  | t :: ts => (isV c S v t).bind fun b => if b then some true else isAny c S v ts
def excAny (c : Ctx) (k : Str) : List Str → Option Bool
  | [] => some false
  | t :: ts => (c.isx k t).bind fun b => if b then some true else excAny c k ts

def tupO (ds : List D) (S : Sl) : O SV := if ds.length ≤ sizeLine then .ok (.dat (.tuple ds)) S else .bad
def lstO (ds : List D) (S : Sl) : O SV := if ds.length ≤ sizeLine then .ok (.own ds) S else .bad
def plainOp : CmpOp → Bool
  | .In => false
  | .NotIn => false
  | _ => true
/-- in, not in: no set that is written there -/
def plainC : CmpOp → Expr → Bool
  | .In, .Set _ _ _ => false
  | .NotIn, .Set _ _ _ => false
  | _, _ => true
def isM1 : Expr → Bool
  | .UnaryOp .USub (.Constant (.int 1) _ _) _ => true
  | _ => false
def plainIx : Expr → Bool
  | .Slice _ _ _ _ => false
  | .Tuple _ _ _ => false
  | _ => true
def plainTest : Expr → Bool
  | .Name _ _ => true
  | .Call _ _ _ _ => true
  | .Subscript _ _ _ => true
  | .Constant _ _ _ => true
  | .Attribute _ _ _ => true
  | .IfExp _ _ _ _ => false
  | _ => false
def mAppend (i : Nat) (vs : List SV) (S : Sl) : O SV := match vs with
  | [v] => (settle S v).bind fun d S3 => (match S3[i]? with
    | some (some (.own ys)) => if ys.length < sizeLine then .ok (.dat .none) (put S3 i (.own (ys ++ [d]))) else .bad
    | _ => .bad)
  | _ => .bad
def mPop (i : Nat) (S : Sl) : O SV := match S[i]? with
  | some (some (.own xs)) => (match xs[xs.length - 1]? with
    | some d => .ok (.dat d) (put S i (.own xs.dropLast))
    | none => .bad)
  | _ => .bad
def mIndex (i : Nat) (vs : List SV) (S : Sl) : O SV := match S[i]?, vs with
  | some (some (.own xs)), [v] => (match cont S v with
    | some y => if SeqAt.shaped y && SeqAt.shaped (.list xs) then (match xs.findIdx? (fun z => PyData.eqv z y) with
      | some j => .ok (.dat (.int j)) S
      | none => .bad) else .bad
    | none => .bad)
  | _, _ => .bad
def mCount (i : Nat) (vs : List SV) (S : Sl) : O SV := match S[i]?, vs with
  | some (some (.own xs)), [v] => (match cont S v with
    | some y => if SeqAt.shaped y && SeqAt.shaped (.list xs) then .ok (.dat (.int (xs.countP fun z => PyData.eqv z y : Nat))) S else .bad
    | none => .bad)
  | _, _ => .bad
def mInsert (i : Nat) (vs : List SV) (S : Sl) : O SV := match vs with
  | [.dat (.int k), v] => (settle S v).bind fun d S3 => (match S3[i]? with
    | some (some (.own ys)) => if ys.length < sizeLine && decide (0 ≤ k) && decide (k < 2 ^ 63) then .ok (.dat .none) (put S3 i (.own (ys.take k.toNat ++ [d] ++ ys.drop k.toNat))) else .bad
    | _ => .bad)
  | _ => .bad
def mPopAt (i : Nat) (vs : List SV) (S : Sl) : O SV := match S[i]?, vs with
  | some (some (.own xs)), [.dat (.int k)] => if decide (0 ≤ k) && decide (k < 2 ^ 63) then (match xs[k.toNat]? with
    | some d => .ok (.dat d) (put S i (.own (xs.eraseIdx k.toNat)))
    | none => .bad) else .bad
  | _, _ => .bad
def cmA (i : Nat) (m : Str) (args : List Expr) (o : O (List SV)) (S : Sl) : O SV := match S[i]? with
  | some (some (.own _)) => if m = "append" then (if args.isEmpty then .bad else o.bind fun vs S2 => mAppend i vs S2)
    else if m = "pop" then (if args.isEmpty then mPop i S else o.bind fun vs S2 => mPopAt i vs S2)
    else if m = "index" then (if args.isEmpty then .bad else o.bind fun vs S2 => mIndex i vs S2)
    else if m = "count" then (if args.isEmpty then .bad else o.bind fun vs S2 => mCount i vs S2)
    else if m = "insert" then (if args.isEmpty then .bad else o.bind fun vs S2 => mInsert i vs S2)
    else .bad
  | _ => .bad
/-- a comprehension's scope and own names are of the form that is served -/
def lcOk (c : Ctx) (tg : Expr) (scope : Scope) : Bool :=
  let ts := targets tg
  let own := ts.filterMap fun x => (ix c x).map fun i => (x, i)
  decide (own.length = ts.length) && !ts.isEmpty && ts.all (ownS scope) && L2.blkC c.N c.sc scope own && own.all fun p => decide (c.io ≠ some p.2)
def rng1 (vs : List SV) (S : Sl) : O (List D) := match vs with
  | [.dat (.int j)] => .ok (rng 0 j.toNat) S
  | _ => .bad
def rng2 (vs : List SV) (S : Sl) : O (List D) := match vs with
  | [.dat (.int i), .dat (.int j)] => .ok (rng i (j - i).toNat) S
  | _ => .bad
def rngC (lo c : Int) (n : Nat) : List D := (List.range n).map fun (i : Nat) => .int (lo + (i : Int) * c)
def rngOk (i j c : Int) : Bool := decide (c ≠ 0) && decide (c.natAbs < 1073741824) && Builtin.Range.small i j c && decide (0 ≤ Builtin.Range.rangeSize i j c)
def rng3 (vs : List SV) (S : Sl) : O (List D) := match vs with
  | [.dat (.int i), .dat (.int j), .dat (.int c)] => if rngOk i j c then .ok (rngC i c (Builtin.Range.rangeSize i j c).toNat) S else .bad
  | _ => .bad
def enumD (xs : List D) : List D := xs.zipIdx.map fun p => .tuple [.int (p.2 : Nat), p.1]
def zipD (xs ys : List D) : List D := (xs.zip ys).map fun p => .tuple [p.1, p.2]
def enum1 (vs : List SV) (S : Sl) : O (List D) := match vs with
  | [v] => (settle S v).bind fun d S2 => O.of ((itemsOf d).map enumD) S2
  | _ => .bad
def zip2 (vs : List SV) (S : Sl) : O (List D) := match vs with
  | [v, w] => (settleAll [v, w] S).bind fun ds S2 => (match ds with
    | [d, e] => O.of ((itemsOf d).bind fun xs => (itemsOf e).map fun ys => zipD xs ys) S2
    | _ => .bad)
  | _ => .bad
def noStar : List Expr → Bool
  | [] => true
  | .Starred _ _ :: _ => false
  | _ :: r => noStar r
def rngA (args : List Expr) (o : O (List SV)) : O (List D) := match args with
  | [a] => if noStar [a] then o.bind rng1 else .bad
  | [a, b] => if noStar [a, b] then o.bind rng2 else .bad
  | [a, b, c] => if noStar [a, b, c] then o.bind rng3 else .bad
  | _ => .bad
def isTup : Expr → Bool
  | .Tuple _ _ _ => true
  | _ => false
def enumA (tg : Expr) (args : List Expr) (o : O (List SV)) : O (List D) := match args with
  | [a] => if isTup tg && noStar [a] then o.bind enum1 else .bad
  | _ => .bad
def zipA (tg : Expr) (args : List Expr) (o : O (List SV)) : O (List D) := match args with
  | [a, b] => if isTup tg && noStar [a, b] then o.bind zip2 else .bad
  | _ => .bad
def forOk : Expr → Bool
  | .Set _ _ _ => false
  | _ => true
/-- a turn of a comprehension -/
def lcT (c : Ctx) (tg : Expr) (scope : Scope) (fif : Sl → O Bool) (fe : Sl → O SV) : D → Sl → O (Option D) := fun d S2 => match asgD (c.blk scope) tg d (wipeN c (targets tg) S2) with
  | none => .bad
  | some S3 => (fif S3).bind fun b S4 => if b then (fe S4).bind fun v S5 => (settle S5 v).bind fun x S6 => .ok (some x) (keepN c S2 (targets tg) S6) else .ok none (keepN c S2 (targets tg) S4)
def kwOk : List Keyword → Bool
  | [] => true
  | k :: r => k.arg.isSome && kwOk r
def mkX (x : Str) (k : XC) (vs : List SV) (S : Sl) : O (Str × Fs) := match vs with
  | [] => (match k.dfl with
    | some d => .ok (x, [(k.fld, d)]) S
    | none => .bad)
  | [v] => (settle S v).bind fun d S2 => .ok (x, [(k.fld, d)]) S2
  | _ => .bad
/-- *x, then the others -/
def stA (x : SV) (S1 : Sl) (o : O (List SV)) : O (List SV) := match (cont S1 x).bind itemsOf with
  | some ds => o.bind fun xs S2 => .ok (ds.map SV.dat ++ xs) S2
  | none => .bad
/-- a def with a star: what is left over goes into a tuple -/
def nOwn : SV → Bool
  | .own _ => false
  | .dat _ => true
  | .bor _ => true
  | _ => false
/-- how many places of a call of a def with a star are written: without any, all leading parameters are keywords -/
def starK (kk : Nat) (args : List Expr) : Nat := if args.isEmpty then 0 else kk
/-- tuple(range(n)) -/
def tupR (x : SV) (S : Sl) : O SV := match x with
  | .dat (.int j) => if small j && decide (j.toNat ≤ sizeLine) then .ok (.dat (.tuple (rng 0 j.toNat))) S else .bad
  | _ => .bad
def isRg (c : Ctx) : List Expr → Bool
  | [.Call (.Name r _) [a] [] _] => decide (r = "range") && biG c "range" && noStar [a]
  | _ => false
def callS (F : Fn) (k : Nat) (src : List Src) (ps ks : List SV) (S : Sl) : O SV := if decide (k ≤ ps.length) && (ps.take k).all nOwn && ks.all nOwn then (settleAll (ps.drop k) S).bind fun ds S1 => if ds.length ≤ sizeLine then (match pick src (ps.take k) (ks ++ [.dat (.tuple ds)]) with
  | some vs => callF F vs S1
  | none => .bad) else .bad else .bad
/-- the forms of a call of such a def -/
def starOk (args : List Expr) (kws : List Keyword) : Bool := noStar args || (kws.isEmpty && (match args with
  | [.Starred _ _] => true
  | .Starred _ _ :: _ => false
  | _ => true))
mutual
def ev : Nat → Ctx → Expr → Sl → O SV
  | 0, _, _, _ => .bad
  | n + 1, c, e, S => match e with
    | .Name x _ => match ix c x with
      | some i => if vis c x then (match S[i]? with
        | some (some (.own _)) => .ok (.bor i) S
        | some (some v) => .ok v S
        | _ => .bad) else .bad
      | none => match isNm c x with
        | some (.val d) => .ok (.dat d) S
        | _ => .bad
    | .Constant k _ _ => match k with
      | .none => .ok (.dat .none) S
      | .bool b => .ok (.dat (.bool b)) S
      | .int i => .ok (.dat (.int i)) S
      | .str x => .ok (.dat (.str x)) S
      | _ => .bad
    | .BinOp a op b _ => (ev n c a S).bind fun x S1 => (ev n c b S1).bind fun y S2 =>
        match cont2 S2 x, cont S2 y with
        | some d, some e => O.of (binD op d e) S2
        | _, _ => .bad
    | .UnaryOp op a _ => if unOk op then (ev n c a S).bind fun x S1 => match cont S1 x with
      | some d => O.of ((unD op d).map .dat) S1
      | none => .bad
      else .bad
    | .BoolOp op vs _ => evB n c op vs S
    | .Compare a ops bs _ => match ops, bs with
      | [op], [b] => if plainC op b then (ev n c a S).bind fun x S1 => (ev n c b S1).bind fun y S2 => O.of ((cmpV S2 op x y).map fun b => .dat (.bool b)) S2 else .bad
      | [op, op2], [b, d] => if plainOp op && plainOp op2 then (ev n c a S).bind fun x S1 => (ev n c b S1).bind fun y S2 => match cmpV S2 op x y with
        | some true => (ev n c d S2).bind fun z S3 => O.of ((cmpV S3 op2 y z).map fun b => .dat (.bool b)) S3
        | some false => .ok (.dat (.bool false)) S2
        | none => .bad
        else .bad
      | _, _ => .bad
    | .IfExp t a b _ => (evT n c t S).bind fun k S1 => if k then ev n c a S1 else ev n c b S1
    | .Tuple es _ _ => (evA n c es S).bind fun vs S1 => (settleAll vs S1).bind fun ds S2 => tupO ds S2
    | .List es _ => (evA n c es S).bind fun vs S1 => (settleAll vs S1).bind fun ds S2 => lstO ds S2
    | .Dict ks vs _ => match ks, vs with
      | [], [] => .ok (.dat (.dict [])) S
      | _, _ => .bad
    | .Subscript o i _ => match i with
      | .Slice lo hi st _ => (match st with
        | none => (ev n c o S).bind fun x S1 => (evO n c lo S1).bind fun l S2 => (evO n c hi S2).bind fun h S3 => match cont S3 x with
          | some d => O.of (sliceD l h d) S3
          | none => .bad
        | some s => (match lo, hi, isM1 s with
          | none, none, true => (ev n c o S).bind fun x S1 => match cont S1 x with
            | some d => O.of (sliceRev d) S1
            | none => .bad
          | _, _, _ => (ev n c o S).bind fun x S1 => (evO n c lo S1).bind fun l S2 => (evO n c hi S2).bind fun h S3 => (evO n c (some s) S3).bind fun k S4 => match cont S4 x with
            | some d => O.of (stepD l h k d) S4
            | none => .bad))
      | _ => if plainIx i then (ev n c o S).bind fun x S1 => (ev n c i S1).bind fun y S2 => match cont S2 x, cont S2 y with
        | some d, some k => O.of ((ixD d k).map .dat) S2
        | _, _ => .bad else .bad
    | .ListComp elt gens scope _ => match gens with
      | [g] => if g.is_async = 0 then evLC n c elt g.target g.iter g.ifs scope S else .bad
      | _ => .bad
    | .Attribute o f _ => match o with
      | .Name y _ => (ev n c o S).bind fun x S1 => match x with
        | .exc k fs => (match c.xcl k with
          | some xc => if xc.fld = f then O.of ((fs.lookup f).map .dat) S1 else .bad
          | none => .bad)
        | _ => .bad
      | _ => .bad
    | .Call f args kws cp => match f with
      | .Name x _ => match ix c x with
        | some i => if vis c x && c.hasT && i == 0 && args.isEmpty && kws.isEmpty then (match S[i]? with
          | some (some (.thk (some d) _ _)) => .ok (.dat d) S
          | some (some (.thk none k fs)) => .exc k fs S
          | _ => .bad) else .bad
        | none => match isNm c x with
          | some (.fn F) => evCF n c F args kws S
          | some .bi => if noStar args && kws.isEmpty then evCB n c x args S else .bad
          | _ => .bad
      | .Attribute o m ap => (match o with
        | .Name y _ => if noStar args && kws.isEmpty && (ap.endLine == cp.line) && decide (args.length < 30) then evCM n c y m args S else .bad
        | _ => .bad)
      | _ => .bad
    | _ => .bad
/-- a comprehension -/
def evLC : Nat → Ctx → Expr → Expr → Expr → List Expr → Scope → Sl → O SV
  | 0, _, _, _, _, _, _, _ => .bad
  | n + 1, c, elt, tg, it, ifs, scope, S => if lcOk c tg scope && forOk it then (evI n c tg it S).bind fun ds S1 =>
      (lcL (lcT c tg scope (evIf n (c.blk scope) ifs) (ev n (c.blk scope) elt)) ds [] S1).bind fun xs S2 => .ok (.own xs) S2 else .bad
/-- an own def called -/
def evCF : Nat → Ctx → Fn → List Expr → List Keyword → Sl → O SV
  | 0, _, _, _, _, _ => .bad
  | n + 1, c, F, args, kws, S => if F.thk then (match args, kws with
      | [.Lambda prm body scope _], [] => if c.lam && lamOk c prm scope && decide (F.lvl ≤ c.lvl) && decide (2 ≤ F.lvl) then evLm n c F body scope (frzAll S (lamIx c scope)) else .bad
      | _, _ => .bad)
    else if !decide (F.lvl ≤ c.lvl) then .bad
    else match F.star with
      | none => if noStar args && kwOk kws then (match (kwNames kws).bind fun ns => F.plan args.length ns with
        | some src => (evA n c args S).bind fun ps S1 => (evK n c kws S1).bind fun ks S2 => (match pick src ps ks with
          | some vs => callF F vs S2
          | none => .bad)
        | none => .bad) else .bad
      | some k => if starOk args kws && kwOk kws then (match (kwNames kws).bind fun ns => F.plan (starK k args) ns with
        | some src => (evA n c args S).bind fun ps S1 => (evK n c kws S1).bind fun ks S2 => callS F (starK k args) src ps ks S2
        | none => .bad) else .bad
/-- a def that gets a lambda -/
def evLm : Nat → Ctx → Fn → Expr → Scope → Sl → O SV
  | 0, _, _, _, _, _ => .bad
  | n + 1, c, F, body, scope, S => match ev n (c.lamC scope (F.lvl - 2)) body (hide S) with
    | .ok v S1 => (match settle S1 v with
      | .ok d _ => if noOwn S1 then callT F (.thk (some d) "" []) S else .bad
      | _ => .bad)
    | .exc k fs _ => callT F (.thk none k fs) S
    | .bad => .bad
/-- a built-in called -/
def evCB : Nat → Ctx → Str → List Expr → Sl → O SV
  | 0, _, _, _, _ => .bad
  | n + 1, c, f, args, S => if f = "isinstance" then (match args with
      | [a, .Name t _] => if isOk c t && noStar [a] then (ev n c a S).bind fun x S1 => O.of ((isV c S1 x t).map fun b => .dat (.bool b)) S1 else .bad
      | _ => .bad)
    else if decide (f = "tuple") && isRg c args then (match args with
      | [.Call _ [a] _ _] => (ev n c a S).bind fun x S1 => tupR x S1
      | _ => .bad)
    else if biKnown f && !args.isEmpty then (evA n c args S).bind fun vs S1 => O.of (biV S1 f vs) S1 else .bad
/-- a method of a list that a name owns, called -/
def evCM : Nat → Ctx → Str → Str → List Expr → Sl → O SV
  | 0, _, _, _, _, _ => .bad
  | n + 1, c, y, m, args, S => match slot c y with
    | some i => cmA i m args (evA n c args S) S
    | none => .bad
/-- and, or as values -/
def evB : Nat → Ctx → BoolOp → List Expr → Sl → O SV
  | 0, _, _, _, _ => .bad
  | n + 1, c, op, vs, S => match vs with
    | [] => .bad
    | [a] => ev n c a S
    | a :: r => (ev n c a S).bind fun x S1 => match (cont S1 x).bind truth with
      | some b => (match op with
        | .And => if b then evB n c op r S1 else .ok x S1
        | .Or => if b then .ok x S1 else evB n c op r S1)
      | none => .bad
def evT : Nat → Ctx → Expr → Sl → O Bool
  | 0, _, _, _ => .bad
  | n + 1, c, e, S => match e with
    | .BoolOp op vs _ => evL n c op vs S
    | .UnaryOp .Not a _ => (evT n c a S).bind fun b S1 => .ok (!b) S1
    | .Compare a ops bs _ => match ops, bs with
      | [op], [b] => if plainC op b then (ev n c a S).bind fun x S1 => (ev n c b S1).bind fun y S2 => O.of (cmpV S2 op x y) S2 else .bad
      | [op, op2], [b, d] => if plainOp op && plainOp op2 then (ev n c a S).bind fun x S1 => (ev n c b S1).bind fun y S2 => match cmpV S2 op x y with
        | some true => (ev n c d S2).bind fun z S3 => O.of (cmpV S3 op2 y z) S3
        | some false => .ok false S2
        | none => .bad
        else .bad
      | _, _ => .bad
    | _ => if plainTest e then (ev n c e S).bind fun x S1 => O.of ((cont S1 x).bind truth) S1 else .bad
/-- and, or as tests -/
def evL : Nat → Ctx → BoolOp → List Expr → Sl → O Bool
  | 0, _, _, _, _ => .bad
  | n + 1, c, op, vs, S => match vs with
    | [] => .bad
    | [a] => evT n c a S
    | a :: r => (evT n c a S).bind fun b S1 => match op with
      | .And => if b then evL n c op r S1 else .ok false S1
      | .Or => if b then .ok true S1 else evL n c op r S1
def evIf : Nat → Ctx → List Expr → Sl → O Bool
  | 0, _, _, _ => .bad
  | n + 1, c, ifs, S => match ifs with
    | [] => .ok true S
    | [t] => evT n c t S
    | _ => .bad
def evA : Nat → Ctx → List Expr → Sl → O (List SV)
  | 0, _, _, _ => .bad
  | n + 1, c, es, S => match es with
    | [] => .ok [] S
    | .Starred e _ :: r => (ev n c e S).bind fun x S1 => stA x S1 (evA n c r S1)
    | e :: r => (ev n c e S).bind fun x S1 => (evA n c r S1).bind fun xs S2 => .ok (x :: xs) S2
def evK : Nat → Ctx → List Keyword → Sl → O (List SV)
  | 0, _, _, _ => .bad
  | n + 1, c, ks, S => match ks with
    | [] => .ok [] S
    | k :: r => (ev n c k.value S).bind fun x S1 => (evK n c r S1).bind fun xs S2 => .ok (x :: xs) S2
def evO : Nat → Ctx → Option Expr → Sl → O (Option Int)
  | 0, _, _, _ => .bad
  | n + 1, c, e, S => match e with
    | none => .ok none S
    | some e => (ev n c e S).bind fun x S1 => match cont S1 x with
      | some (.int i) => .ok (some i) S1
      | _ => .bad
/-- what is walked -/
def evI : Nat → Ctx → Expr → Expr → Sl → O (List D)
  | 0, _, _, _, _ => .bad
  | n + 1, c, tg, it, S => match it with
    | .Call (.Name f _) args [] _ =>
      if (decide (f = "range") && biG c f) = true then rngA args (evA n c args S)
      else if (decide (f = "enumerate") && biG c f) = true then enumA tg args (evA n c args S)
      else if (decide (f = "zip") && biG c f) = true then zipA tg args (evA n c args S)
      else (ev n c it S).bind fun x S1 => (settle S1 x).bind fun d S2 => O.of (itemsOf d) S2
    | _ => (ev n c it S).bind fun x S1 => (settle S1 x).bind fun d S2 => O.of (itemsOf d) S2
/-- a raised expression: its class and field -/
def evX : Nat → Ctx → Expr → Sl → O (Str × Fs)
  | 0, _, _, _ => .bad
  | n + 1, c, e, S => match e with
    | .Call (.Name x _) args [] _ => if glo c x && (ix c x).isNone && decide (2 ≤ c.lvl) && noStar args then (match c.xcl x with
      | some k => (evA n c args S).bind (mkX x k)
      | none => .bad) else .bad
    | _ => .bad
end

/-- where a target's name is stored -/
def tgI (c : Ctx) (x : Str) : Option Nat := if loc c x && c.own x then (match ix c x with
  | some i => if c.io = some i then none else some i
  | none => none) else none
def notComp : Expr → Bool
  | .ListComp _ _ _ _ => false
  | .SetComp _ _ _ _ => false
  | .DictComp _ _ _ _ _ => false
  | _ => true
/-- x, y = a, b by swapped stores -/
def parOk (c : Ctx) (x y : Str) (px py : Pos) (a b : Expr) : Bool := decide (c.sc.names.lookup x = some .local) && decide (c.sc.names.lookup y = some .local) && (py.line == px.line) && !(x == y) && noStar [a, b] &&
  !([a, b].all (foldedForSure 8)) && !([a, b].all (constantsAlone 8))
/-- a name that is no plain local one: no swapped store -/
def notLoc (c : Ctx) (x : Str) : Bool := !decide (c.sc.names.lookup x = some .local)
/-- how x = [..] is stored: on the comprehension's line into a local name -/
def lcSet (c : Ctx) (x : Str) (px : Pos) (scope : Scope) (lp : Pos) : Bool := decide (c.sc.names.lookup x = some .local) && (px.line == lp.line) && !(scope.names.any fun (n, k) => n == x && (k == .local || k == .cell))
def setA (c : Ctx) (x : Str) (v : SV) (S : Sl) : Fl := match setN c x v S with
  | some S2 => .nx S2
  | none => .bad
def setB (c : Ctx) (x y : Str) (vs : List SV) (S : Sl) : Fl := match vs with
  | [v, w] => (match (setN c x v S).bind (setN c y w) with
    | some S2 => .nx S2
    | none => .bad)
  | _ => .bad
def setD (c : Ctx) (tg : Expr) (d : D) (S : Sl) : Fl := match asgD c tg d S with
  | some S2 => .nx S2
  | none => .bad
def own1 (c : Ctx) (x : Str) (S : Sl) (r : Fl) : Fl := match slot c x with
  | some j => (match S[j]? with
    | some (some (.own _)) => r
    | _ => .bad)
  | none => .bad
def setI (c : Ctx) (x : Str) (d : D) (v : SV) (S : Sl) : Fl := match slot c x, cont S v with
  | some j, some (.int k) => (match S[j]? with
    | some (some (.own xs)) => (match ixN xs.length k with
      | some l => .nx (put S j (.own (xs.set l d)))
      | none => .bad)
    | _ => .bad)
  | _, _ => .bad
/-- except (a, b) as x: y = x -/
def tryOk (c : Ctx) (a b x y x' : Str) : Bool := decide (x = x') && isOk c a && isOk c b && c.isT a && c.isT b && decide (c.sc.names.lookup x = some .local) && (ix c x).isSome && (tgI c x).isSome && (tgI c y).isSome && decide (ix c x ≠ ix c y)
def tryX (c : Ctx) (a b x y : Str) (k : Str) (fs : Fs) (S : Sl) : Fl := match c.isx k a, c.isx k b, ix c x with
  | some p, some q, some i => if p || q then (match setN c y (.exc k fs) S with
    | some S2 => .nx (S2.set i none)
    | none => .bad) else .exc k fs S
  | _, _, _ => .bad
def tryH (c : Ctx) (a b x y : Str) (r : Fl) : Fl := match r with
  | .exc k fs S => tryX c a b x y k fs S
  | r => r
def tryF : List ExceptHandler → Option (Str × Str × Str × Str × Str)
  | [.ExceptHandler (some (.Tuple [.Name a _, .Name b _] _ _)) (some x) [.Assign [.Name y _] (.Name x' _) _] _] => some (a, b, x, y, x')
  | _ => none
def pairF : List Expr → List Expr → Option (Str × Pos × Str × Pos × Expr × Expr)
  | [.Name x px, .Name y py], [a, b] => some (x, px, y, py, a, b)
  | _, _ => none
/-- x, y, z = a, b, c by swapped stores -/
def par3Ok (c : Ctx) (x y z : Str) (px py pz : Pos) (a b d : Expr) : Bool := decide (c.sc.names.lookup x = some .local) && decide (c.sc.names.lookup y = some .local) && decide (c.sc.names.lookup z = some .local) && (py.line == px.line) && (pz.line == px.line) && !(x == y) && !(x == z) && !(y == z) && noStar [a, b, d] &&
  !([a, b, d].all (foldedForSure 8)) && !([a, b, d].all (constantsAlone 8))
def setB3 (c : Ctx) (x y z : Str) (vs : List SV) (S : Sl) : Fl := match vs with
  | [v, w, u] => (match ((setN c x v S).bind (setN c y w)).bind (setN c z u) with
    | some S2 => .nx S2
    | none => .bad)
  | _ => .bad
def tripF : List Expr → List Expr → Option (Str × Pos × Str × Pos × Str × Pos × Expr × Expr × Expr)
  | [.Name x px, .Name y py, .Name z pz], [a, b, c] => some (x, px, y, py, z, pz, a, b, c)
  | _, _ => none
/-- a, b = c, d goes by a tuple: a target that is not local to the def, or constants -/
def noSwp (c : Ctx) (es as : List Expr) : Bool := (es.any fun e => match e with
  | .Name x _ => !decide (c.sc.names.lookup x = some .local)
  | _ => true) || as.all (foldedForSure 8)
/-- x op= e, over numbers -/
def augI : Operator → Int → Int → Option Int
  | .Add, a, b => some (a + b)
  | .Sub, a, b => some (a - b)
  | .Mult, a, b => if mulOk a b then some (a * b) else none
  | _, _, _ => none
def augOk : Operator → Bool
  | .Add => true
  | .Sub => true
  | .Mult => true
  | _ => false
def augN (i : Nat) (op : Operator) (f : Sl → O SV) (S : Sl) : Fl := if augOk op then (match S[i]? with
  | some (some (.dat (.int a))) => (f S).st fun v S1 => (match v with
    | .dat (.int b) => (match augI op a b with
      | some k => .nx (put S1 i (.dat (.int k)))
      | none => .bad)
    | _ => .bad)
  | _ => .bad) else .bad
/-- x[i] op= e, over a list that the slot j owns -/
def augOkS : Operator → Bool
  | .Add => true
  | .Sub => true
  | _ => false
def subA (j : Nat) (op : Operator) (fi f : Sl → O SV) (S : Sl) : Fl := if augOkS op then (match S[j]? with
  | some (some (.own _)) => (fi S).st fun v S1 => (match cont S1 v, S1[j]? with
    | some (.int k), some (some (.own xs)) => (match atI xs k with
      | some (.int a) => (f S1).st fun w S2 => (match w, S2[j]? with
        | .dat (.int b), some (some (.own ys)) => (match augI op a b, ixN ys.length k with
          | some r, some l => .nx (put S2 j (.own (ys.set l (.int r))))
          | _, _ => .bad)
        | _, _ => .bad)
      | _ => .bad)
    | _, _ => .bad)
  | _ => .bad) else .bad
mutual
def exS : Nat → Ctx → Stmt → Sl → Fl
  | 0, _, _, _ => .bad
  | n + 1, c, st, S => match st with
    | .Pass _ => .nx S
    | .Break _ => .bk S
    | .Continue _ => .ct S
    | .Expr e _ => if notComp e then (ev n c e S).st fun _ S1 => .nx S1 else .bad
    | .Return none _ => (retV c.io S (.dat .none)).st fun v S1 => .ret v S1
    | .Return (some e) _ => ((ev n c e S).bind fun v S1 => retV c.io S1 v).st fun v S1 => .ret v S1
    | .Assign [tg] e _ => (match tg with
      | .Name x px => (match e with
        | .ListComp elt gens scope lp => if notLoc c x && (tgI c x).isSome then ((ev n c e S).bind fun v S1 => stow S1 v).st (setA c x) else (match gens with
          | [g] => if g.is_async = 0 && (tgI c x).isSome && lcSet c x px scope lp then ((evLC n c elt g.target g.iter g.ifs scope S).bind fun v S1 => stow S1 v).st (setA c x) else .bad
          | _ => .bad)
        | _ => if (notComp e || notLoc c x) && (tgI c x).isSome then ((ev n c e S).bind fun v S1 => stow S1 v).st (setA c x) else .bad)
      | .Tuple es _ _ => (match e with
        | .Tuple as k2 p2 => if noSwp c es as then (ev n c (.Tuple as k2 p2) S).st fun v S1 => (settle S1 v).st (setD c tg) else (match pairF es as with
          | some (x, px, y, py, a, b) => if parOk c x y px py a b && (tgI c x).isSome && (tgI c y).isSome then ((evA n c [a, b] S).bind fun vs S1 => stowAll vs S1).st (setB c x y) else .bad
          | none => (match tripF es as with
            | some (x, px, y, py, z, pz, a, b, d) => if par3Ok c x y z px py pz a b d && (tgI c x).isSome && (tgI c y).isSome && (tgI c z).isSome then ((evA n c [a, b, d] S).bind fun vs S1 => stowAll vs S1).st (setB3 c x y z) else .bad
            | none => .bad))
        | _ => (ev n c e S).st fun v S1 => (settle S1 v).st (setD c tg))
      | .Subscript (.Name x _) i _ => if notComp e && plainIx i && (slot c x).isSome then (ev n c e S).st fun v S1 => (settle S1 v).st fun d S2 => own1 c x S2 ((ev n c i S2).st (setI c x d)) else .bad
      | _ => .bad)
    | .AugAssign (.Name x _) op e _ => (match tgI c x with
      | some i => augN i op (ev n c e) S
      | none => .bad)
    | .AugAssign (.Subscript (.Name x _) i _) op e _ => if plainIx i then (match slot c x with
      | some j => subA j op (ev n c i) (ev n c e) S
      | none => .bad) else .bad
    | .If t a b _ => (evT n c t S).st fun k S1 => if k then exB n c a S1 else exB n c b S1
    | .For tg it body [] _ => if forOk it then (evI n c tg it S).st fun ds S1 => forL (fun d S2 => match asgD c tg d S2 with
      | some S3 => exB n c body S3
      | none => .bad) ds S1 else .bad
    | .While t body [] _ => whL (evT n c t) (exB n c body) 1000000000 S
    | .Raise (some e) none _ => (evX n c e S).st fun x S1 => .exc x.1 x.2 S1
    | .Try body hs [] [] _ => (match tryF hs with
      | some (a, b, x, y, x') => if tryOk c a b x y x' then tryH c a b x y (exB n c body S) else .bad
      | none => .bad)
    | _ => .bad
def exB : Nat → Ctx → List Stmt → Sl → Fl
  | 0, _, _, _ => .bad
  | n + 1, c, sts, S => match sts with
    | [] => .nx S
    | st :: r => (exS n c st S).bind fun S1 => exB n c r S1
end
/-- a def: its parameters fill the first slots -/
def runF (n : Nat) (c : Ctx) (body : List Stmt) (as : List SV) : Res :=
  match exB n c body (as.map some ++ List.replicate (c.N.length - as.length) none) with
  | .nx S => match c.io with
    | none => .ok (.dat .none) []
    | some i => match S[i]? with
      | some (some (.own xs)) => .ok (.dat .none) xs
      | _ => .bad
  | .ret r S => match c.io with
    | none => .ok r []
    | some i => match S[i]? with
      | some (some (.own xs)) => .ok r xs
      | _ => .bad
  | .exc k fs _ => .exc k fs
  | _ => .bad
end Z

/-! What the interpreter's data are of the heap; steps; readings. -/
namespace Z
open PySem PySem.Spec PyProof.Rows L2
abbrev Sg := L2.St

/-! ### heaps that grow -/
def Ex (H H' : Hp) : Prop := ∀ a o, H a = some o → H' a = some o
theorem Ex.refl {H : Hp} : Ex H H := fun _ _ h => h
theorem Ex.tr {H H1 H2 : Hp} (a : Ex H H1) (b : Ex H1 H2) : Ex H H2 := fun x o h => b x o (a x o h)
theorem Ex.new {H : Hp} {p : Addr} {o : HO} (h : H p = none) : Ex H (upd H p o) := fun a u e => by
  rw [upd_ne (ne_of_none e h)]; exact e
theorem Ex.up {G H : Hp} {p : Addr} {o : HO} (e : Ex G H) (h : G p = none) : Ex G (upd H p o) := fun a u ha => by
  rw [upd_ne (ne_of_none ha h)]; exact e a u ha
theorem Ex.both {G H : Hp} {p : Addr} {o : HO} (e : Ex G H) : Ex (upd G p o) (upd H p o) := fun a u ha => by
  by_cases z : a = p
  · subst z; rw [upd_same] at ha ⊢; exact ha
  · rw [upd_ne z] at ha ⊢; exact e a u ha
theorem Ex.rd {H H' : Hp} {a : Addr} {u : HO} (e : Ex H H') (h : Rd H a u) : Rd H' a u := by
  rcases h with h | ⟨o, h⟩
  · exact .inl (e _ _ h)
  · exact .inr ⟨o, e _ _ h⟩

/-- all but the tables of code objects stay -/
abbrev Ek (H H' : Hp) : Prop := LamX.ExtN H H'
theorem Ex.k {H H' : Hp} (e : Ex H H') : Ek H H' := fun a o h _ => e a o h
def NoT (o : HO) : Prop := ∀ ps, o ≠ .tbl ps

/-! ### data at a value -/
mutual
inductive Rp (H : Hp) : V → D → Prop
  | non : Rp H .non .none
  | bl (b : Bool) : Rp H (.bl b) (.bool b)
  | int (i : Int) : Rp H (.int i) (.int i)
  | str (x : Str) : Rp H (.str x) (.str x)
  | lst {a : Addr} {xs : List V} {ds : List D} : Rd H a (.lst xs) → Rps H xs ds → Rp H (.ref a) (.list ds)
  | tup {a : Addr} {xs : List V} {ds : List D} : Rd H a (.tup xs) → Rps H xs ds → Rp H (.ref a) (.tuple ds)
  | dic {a : Addr} : H a = some (.dK []) → Rp H (.ref a) (.dict [])
inductive Rps (H : Hp) : List V → List D → Prop
  | nil : Rps H [] []
  | cons {v : V} {vs : List V} {d : D} {ds : List D} : Rp H v d → Rps H vs ds → Rps H (v :: vs) (d :: ds)
end
mutual
theorem Rp.mono {H H' : Hp} (e : Ex H H') : ∀ {v : V} {d : D}, Rp H v d → Rp H' v d
  | _, _, .non => .non
  | _, _, .bl b => .bl b
  | _, _, .int i => .int i
  | _, _, .str x => .str x
  | _, _, .lst h r => .lst (e.rd h) (Rps.mono e r)
  | _, _, .tup h r => .tup (e.rd h) (Rps.mono e r)
  | _, _, .dic h => .dic (e _ _ h)
theorem Rps.mono {H H' : Hp} (e : Ex H H') : ∀ {vs : List V} {ds : List D}, Rps H vs ds → Rps H' vs ds
  | _, _, .nil => .nil
  | _, _, .cons a b => .cons (Rp.mono e a) (Rps.mono e b)
end
section
variable {H : Hp} {x : V} {xs ys : List V} {ds es : List D}
theorem Rps.length : ∀ {xs : List V} {ds : List D}, Rps H xs ds → xs.length = ds.length
  | _, _, .nil => rfl
  | _, _, .cons _ r => by rw [List.length_cons, List.length_cons, Rps.length r]
theorem Rps.get : ∀ {xs : List V} {ds : List D} {i : Nat} {d : D}, Rps H xs ds → ds[i]? = some d → ∃ v, xs[i]? = some v ∧ Rp H v d
  | _, _, _, _, .nil, e => by simp at e
  | _, _, 0, _, .cons a _, e => by simp at e; subst e; exact ⟨_, by simp, a⟩
  | _, _, i + 1, d, .cons _ r, e => by
    obtain ⟨v, h1, h2⟩ := Rps.get (i := i) r (by simpa using e)
    exact ⟨v, by simpa using h1, h2⟩
theorem Rps.get' : ∀ {xs : List V} {ds : List D} {i : Nat} {v : V}, Rps H xs ds → xs[i]? = some v → ∃ d, ds[i]? = some d ∧ Rp H v d
  | _, _, _, _, .nil, e => by simp at e
  | _, _, 0, _, .cons a _, e => by simp at e; subst e; exact ⟨_, by simp, a⟩
  | _, _, i + 1, d, .cons _ r, e => by
    obtain ⟨v, h1, h2⟩ := Rps.get' (i := i) r (by simpa using e)
    exact ⟨v, by simpa using h1, h2⟩
theorem Rps.append : ∀ {xs ys : List V} {ds es : List D}, Rps H xs ds → Rps H ys es → Rps H (xs ++ ys) (ds ++ es)
  | _, _, _, _, .nil, r => r
  | _, _, _, _, .cons a t, r => .cons a (Rps.append t r)
theorem Rps.take : ∀ {xs : List V} {ds : List D} (n : Nat), Rps H xs ds → Rps H (xs.take n) (ds.take n)
  | _, _, 0, _ => .nil
  | _, _, _ + 1, .nil => .nil
  | _, _, n + 1, .cons a t => .cons a (Rps.take n t)
theorem Rps.drop : ∀ {xs : List V} {ds : List D} (n : Nat), Rps H xs ds → Rps H (xs.drop n) (ds.drop n)
  | _, _, 0, r => r
  | _, _, _ + 1, .nil => .nil
  | _, _, n + 1, .cons _ t => Rps.drop n t
theorem Rps.reverse : ∀ {xs : List V} {ds : List D}, Rps H xs ds → Rps H xs.reverse ds.reverse
  | _, _, .nil => .nil
  | _, _, .cons a t => by rw [List.reverse_cons, List.reverse_cons]; exact Rps.append (Rps.reverse t) (.cons a .nil)
theorem Rps.flat : ∀ (n : Nat) {xs : List V} {ds : List D}, Rps H xs ds → Rps H (List.replicate n xs).flatten (List.replicate n ds).flatten
  | 0, _, _, _ => .nil
  | n + 1, xs, ds, r => by rw [List.replicate_succ, List.replicate_succ, List.flatten_cons, List.flatten_cons]; exact r.append (Rps.flat n r)
theorem Rps.dropLast {xs : List V} {ds : List D} (r : Rps H xs ds) : Rps H xs.dropLast ds.dropLast := by
  rw [List.dropLast_eq_take, List.dropLast_eq_take, r.length]; exact r.take _
theorem Rps.set {v : V} {d : D} (h : Rp H v d) : ∀ {xs : List V} {ds : List D} (i : Nat), Rps H xs ds → Rps H (xs.set i v) (ds.set i d)
  | _, _, _, .nil => .nil
  | _, _, 0, .cons _ t => .cons h t
  | _, _, i + 1, .cons a t => .cons a (Rps.set h i t)
theorem Rps.ints : ∀ {xs : List V} {ds : List D} {ns : List Int}, Rps H xs ds → intsOf ds = some ns → xs = ns.map V.int
  | _, _, ns, .nil, e => by simp [intsOf] at e; subst e; rfl
  | _, _, ns, .cons (d := d) a t, e => by
    cases a <;> simp only [intsOf] at e <;> try cases e
    rename_i ds i
    cases q : intsOf ds with
    | none => rw [q] at e; cases e
    | some ms =>
      rw [q] at e
      have e' : i :: ms = ns := Option.some.inj e
      subst e'
      rw [Rps.ints t q]; rfl
theorem Rps.bools : ∀ {xs : List V} {ds : List D} {ns : List Bool}, Rps H xs ds → boolsOf ds = some ns → xs = ns.map V.bl
  | _, _, ns, .nil, e => by simp [boolsOf] at e; subst e; rfl
  | _, _, ns, .cons (d := d) a t, e => by
    cases a <;> simp only [boolsOf] at e <;> try cases e
    rename_i ds i
    cases q : boolsOf ds with
    | none => rw [q] at e; cases e
    | some ms =>
      rw [q] at e
      have e' : i :: ms = ns := Option.some.inj e
      subst e'
      rw [Rps.bools t q]; rfl
theorem Rp.int_iff {i : Int} (h : Rp H x (.int i)) : x = .int i := by cases h; rfl
theorem Rp.bool_iff {i : Bool} (h : Rp H x (.bool i)) : x = .bl i := by cases h; rfl
theorem Rp.str_iff {i : Str} (h : Rp H x (.str i)) : x = .str i := by cases h; rfl
theorem Rp.none_iff (h : Rp H x .none) : x = .non := by cases h; rfl
end

/-! ### an exception's object -/
def ExcO (a C d : Addr) : HO := .ext fun h => ∃ (oe : Obj) (vs : Array Value), h.get? a = some oe ∧ oe.cls = .ref C ∧ oe.dict = some d ∧ oe.data = .fields vs
def FsR (H : Hp) : List (Str × V) → Fs → Prop
  | [], [] => True
  | p :: ps, q :: qs => p.1 = q.1 ∧ Rp H p.2 q.2 ∧ FsR H ps qs
  | _, _ => False
theorem FsR.mono {H H' : Hp} (e : Ex H H') : ∀ {ps : List (Str × V)} {qs : Fs}, FsR H ps qs → FsR H' ps qs
  | [], [], _ => trivial
  | _ :: _, _ :: _, h => ⟨h.1, h.2.1.mono e, FsR.mono e h.2.2⟩
  | [], _ :: _, h => h
  | _ :: _, [], h => h
theorem FsR.look {H : Hp} {f : Str} {d : D} : ∀ {ps : List (Str × V)} {qs : Fs}, FsR H ps qs → qs.lookup f = some d → ∃ v, ps.lookup f = some v ∧ Rp H v d
  | [], [], _, e => by cases e
  | (a, v) :: ps, (b, d') :: qs, h, e => by
    obtain ⟨h1, h2, h3⟩ := h
    have h1 : a = b := h1
    subst h1
    simp only [List.lookup_cons] at e ⊢
    cases q : f == a with
    | true => rw [q] at e; exact ⟨v, rfl, by simpa using (Option.some.inj e) ▸ h2⟩
    | false => rw [q] at e; exact FsR.look h3 e
  | [], _ :: _, h, _ => h.elim
  | _ :: _, [], h, _ => h.elim

/-! ### what is fixed in a body: what the module's names hold, what its lambda slot may hold, what all callers keep, the slot of the list that it shares with its caller -/
structure Bx where
  mg : Str → Option Value
  T : V → Option D → Str → Fs → Prop
  base : Hp
  io : Option (Nat × Addr)
  tabs : List (Addr × Str)
  g0 : Hp
  h0 : Hp
/-- nothing goes, tables stay tables -/
def Dm (H H' : Hp) : Prop := ∀ a u, H a = some u → ∃ u', H' a = some u' ∧ (NoT u ∨ ¬ NoT u')
theorem Dm.ex {H H' : Hp} (e : Ex H H') : Dm H H' := fun a u h => ⟨u, e a u h, Classical.em _⟩
theorem Dm.tr {H H1 H2 : Hp} (a : Dm H H1) (b : Dm H1 H2) : Dm H H2 := fun x u h => by
  obtain ⟨u1, e1, h1⟩ := a x u h
  obtain ⟨u2, e2, h2⟩ := b x u1 e1
  refine ⟨u2, e2, ?_⟩
  rcases h1 with h1 | h1
  · exact .inl h1
  · rcases h2 with h2 | h2
    · exact absurd h2 h1
    · exact .inr h2
theorem Dm.wr {H : Hp} {p : Addr} {xs ys : List V} (h : H p = some (.lst xs)) : Dm H (upd H p (.lst ys)) := fun a u e => by
  by_cases z : a = p
  · subst z
    rw [h] at e
    cases e
    exact ⟨_, upd_same, .inl fun ps z => by cases z⟩
  · exact ⟨u, by rw [upd_ne z]; exact e, Classical.em _⟩
theorem Dm.no {H H' : Hp} (d : Dm H H') {a : Addr} (h : H' a = none) : H a = none := by
  cases q : H a with
  | none => rfl
  | some u =>
    obtain ⟨u', e, _⟩ := d a u q
    rw [h] at e; cases e
/-- an exception of the own class c at a with its dict d -/
def ExcAt (B : Bx) (G : Hp) (c : Str) (fs : Fs) (x : V) : Prop := ∃ (a C d : Addr) (vs : List (Str × V)), x = .ref a ∧ B.mg c = some (.ref C) ∧ G a = some (ExcO a C d) ∧ G d = some (.xd vs) ∧ FsR G vs fs
theorem ExcAt.mono {B : Bx} {G G' : Hp} {c : Str} {fs : Fs} {x : V} (e : Ex G G') (h : ExcAt B G c fs x) : ExcAt B G' c fs x := by
  obtain ⟨a, C, d, vs, h1, h2, h3, h4, h5⟩ := h
  exact ⟨a, C, d, vs, h1, h2, e _ _ h3, e _ _ h4, h5.mono e⟩
/-- what stands in a slot -/
def At (B : Bx) (G H : Hp) : SV → V → Prop
  | .dat d, x => Rp G x d
  | .own ds, x => ∃ p xs, x = .ref p ∧ G p = none ∧ B.base p = none ∧ H p = some (.lst xs) ∧ Rps G xs ds
  | .exc c fs, x => ExcAt B G c fs x
  | .thk r c fs, x => B.T x r c fs
  | .bor _, _ => False
def Ow (S : Sl) (σ : Sg) (a : Addr) : Prop := ∃ (i : Nat) (xs : List D), S[i]? = some (some (.own xs)) ∧ σ[i]? = some (some (.ref a))
structure Rel (B : Bx) (S : Sl) (σ : Sg) (G H : Hp) : Prop where
  len : S.length = σ.length
  sub : Ex G H
  bas : Ek B.base H
  bt : ∀ a ps, B.base a ≠ some (.tbl ps)
  gt : ∀ a o, G a = some o → NoT o
  tab : LamX.Tabs B.tabs H
  at_ : ∀ (i : Nat) (v : SV), S[i]? = some (some v) → ∃ x, σ[i]? = some (some x) ∧ At B G H v x
  inj : ∀ (i j : Nat) (p : Addr) (xs ys : List D), S[i]? = some (some (.own xs)) → S[j]? = some (some (.own ys)) → σ[i]? = some (some (.ref p)) → σ[j]? = some (some (.ref p)) → i = j
  io : ∀ (i : Nat) (p : Addr), B.io = some (i, p) → σ[i]? = some (some (.ref p))
  gx : Ex B.g0 G
  gn : ∀ a o, G a = some o → B.g0 a = some o ∨ B.base a = none
  dm : Dm B.h0 H
/-- from S, G, H to S', G', H': the slots' addresses are the same -/
structure Stp (S : Sl) (σ : Sg) (G H : Hp) (S' : Sl) (G' H' : Hp) : Prop where
  ext : Ex G G'
  keep : ∀ a o, H a = some o → NoT o → ¬ Ow S σ a → H' a = some o
  new : ∀ a o, G' a = some o → G a = some o ∨ H a = none ∨ Ow S σ a
  own : ∀ a, Ow S' σ a → Ow S σ a
  dom : ∀ a, H a ≠ none → H' a ≠ none
section
variable {B : Bx} {S S1 S2 S' : Sl} {σ : Sg} {G G1 G2 G' H H0 H1 H2 H' : Hp}
theorem Stp.refl : Stp S σ G H S G H := ⟨Ex.refl, fun _ _ h _ _ => h, fun _ _ h => .inl h, fun _ h => h, fun _ h => h⟩
theorem Rel.ownH (R : Rel B S σ G H) {a : Addr} (h : Ow S σ a) : G a = none ∧ B.base a = none ∧ ∃ xs, H a = some (.lst xs) := by
  obtain ⟨i, xs, h1, h2⟩ := h
  obtain ⟨x, h3, p, ys, h4, h5, h6, h7, _⟩ := R.at_ i _ h1
  rw [h2] at h3
  cases h3
  cases h4
  exact ⟨h5, h6, ys, h7⟩
theorem Stp.tr (a : Stp S σ G H S1 G1 H1) (b : Stp S1 σ G1 H1 S2 G2 H2) : Stp S σ G H S2 G2 H2 where
  ext := a.ext.tr b.ext
  keep := fun x o h t n => b.keep x o (a.keep x o h t n) t fun z => n (a.own x z)
  new := fun x o h => by
    rcases b.new x o h with z | z | z
    · exact a.new x o z
    · refine .inr (.inl ?_)
      cases q : H x with
      | none => rfl
      | some u => exact absurd z (a.dom x (by rw [q]; simp))
    · exact .inr (.inr (a.own x z))
  own := fun x h => a.own x (b.own x h)
  dom := fun x h => b.dom x (a.dom x h)
theorem Rel.gnone (R : Rel B S σ G H) {p : Addr} (h : H p = none) : G p = none := by
  cases q : G p with
  | none => rfl
  | some u => rw [R.sub _ _ q] at h; cases h
theorem Rel.bnone (R : Rel B S σ G H) {p : Addr} (h : H p = none) : B.base p = none := by
  cases q : B.base p with
  | none => rfl
  | some u =>
    cases u with
    | tbl ps => exact absurd q (R.bt p ps)
    | _ => rw [R.bas _ _ q fun _ z => by cases z] at h; cases h
/-- a new object that is data from now on -/
theorem Stp.lay {p : Addr} {o : HO} (hg : G p = none) (h : H p = none) : Stp S σ G H S (upd G p o) (upd H p o) where
  ext := Ex.new hg
  keep := fun a o' e _ _ => by rw [upd_ne (ne_of_none e h)]; exact e
  new := fun a o' e => by
    by_cases z : a = p
    · subst z; exact .inr (.inl h)
    · rw [upd_ne z] at e; exact .inl e
  own := fun _ h => h
  dom := fun a e => by
    by_cases z : a = p
    · subst z; rw [upd_same]; simp
    · rw [upd_ne z]; exact e
/-- a new object that is not data yet -/
theorem Stp.fresh {p : Addr} {o : HO} (h : H p = none) : Stp S σ G H S G (upd H p o) where
  ext := Ex.refl
  keep := fun a o' e _ _ => by rw [upd_ne (ne_of_none e h)]; exact e
  new := fun a o' e => .inl e
  own := fun _ h => h
  dom := fun a e => by
    by_cases z : a = p
    · subst z; rw [upd_same]; simp
    · rw [upd_ne z]; exact e
/-- a slot's thing over a grown heap -/
theorem At.mono {v : SV} {x : V} (h : At B G H v x) (eg : Ex G G') (eh : ∀ a xs, v = .own xs → x = .ref a → G' a = none ∧ H' a = H a) : At B G' H' v x := by
  cases v with
  | dat d => exact Rp.mono eg h
  | bor i => exact h
  | own ds =>
    obtain ⟨p, xs, e, h1, h2, h3, h4⟩ := h
    obtain ⟨g1, g2⟩ := eh p ds _root_.rfl e
    exact ⟨p, xs, e, g1, h2, by rw [g2]; exact h3, h4.mono eg⟩
  | exc c fs => exact ExcAt.mono eg h
  | thk r c fs => exact h
/-- the slots as they are, over a heap that grew beside them -/
theorem Rel.grow (R : Rel B S σ G H) (eg : Ex G G') (sub : Ex G' H') (bas : Ek B.base H') (gt : ∀ a o, G' a = some o → NoT o) (tab : LamX.Tabs B.tabs H') (ow : ∀ a, Ow S σ a → G' a = none ∧ H' a = H a) (gn : ∀ a o, G' a = some o → G a = some o ∨ B.base a = none) (dm : Dm H H') : Rel B S σ G' H' where
  len := R.len
  sub := sub
  bas := bas
  bt := R.bt
  gt := gt
  tab := tab
  at_ := fun i v e => by
    obtain ⟨x, h1, h2⟩ := R.at_ i v e
    refine ⟨x, h1, At.mono h2 eg fun a xs e1 e2 => ow a ⟨i, xs, by rw [e, e1], by rw [h1, e2]⟩⟩
  inj := R.inj
  io := R.io
  gx := R.gx.tr eg
  gn := fun a o e => by
    rcases gn a o e with h | h
    · exact R.gn a o h
    · exact .inr h
  dm := R.dm.tr dm
theorem gt_upd {p : Addr} {o : HO} (g : ∀ a o, G a = some o → NoT o) (n : NoT o) : ∀ a u, upd G p o a = some u → NoT u := fun a u e => by
  by_cases z : a = p
  · subst z; rw [upd_same] at e; cases e; exact n
  · rw [upd_ne z] at e; exact g a u e
theorem gn_upd {p : Addr} {o : HO} (b : B.base p = none) : ∀ a u, upd G p o a = some u → G a = some u ∨ B.base a = none := fun a u e => by
  by_cases z : a = p
  · subst z; exact .inr b
  · rw [upd_ne z] at e; exact .inl e
theorem Rel.lay (R : Rel B S σ G H) {p : Addr} {o : HO} (h : H p = none) (n : NoT o) : Rel B S σ (upd G p o) (upd H p o) :=
  R.grow (Ex.new (R.gnone h)) R.sub.both (R.bas.trans (Ex.new h).k) (gt_upd R.gt n) (R.tab.ext (Ex.new h)) (fun a w => by
    obtain ⟨h1, h2, xs, h3⟩ := R.ownH w
    have ne := ne_of_none h3 h
    rw [upd_ne ne, upd_ne ne]
    exact ⟨h1, _root_.rfl⟩) (gn_upd (R.bnone h)) (Dm.ex (Ex.new h))
theorem Rel.fresh (R : Rel B S σ G H) {p : Addr} {o : HO} (h : H p = none) : Rel B S σ G (upd H p o) :=
  R.grow Ex.refl (R.sub.up (R.gnone h)) (R.bas.trans (Ex.new h).k) R.gt (R.tab.ext (Ex.new h)) (fun a w => by
    obtain ⟨h1, h2, xs, h3⟩ := R.ownH w
    have ne := ne_of_none h3 h
    rw [upd_ne ne]
    exact ⟨h1, _root_.rfl⟩) (fun a o e => .inl e) (Dm.ex (Ex.new h))
theorem Rel.now (R : Rel B S σ G H) {p : Addr} (h : H p = none) : ¬ Ow S σ p := fun w => by
  obtain ⟨_, _, xs, h3⟩ := R.ownH w
  rw [h] at h3; cases h3
/-- a new list that nobody knew becomes data -/
theorem Rel.settle (R : Rel B S σ G H) {p : Addr} {o : HO} (h : H p = some o) (hg : G p = none) (n : ¬ Ow S σ p) (nt : NoT o) (b : B.base p = none) : Rel B S σ (upd G p o) H :=
  R.grow (Ex.new hg) (fun a u e => by
    by_cases z : a = p
    · subst z; rw [upd_same] at e; cases e; exact h
    · rw [upd_ne z] at e; exact R.sub _ _ e) R.bas (gt_upd R.gt nt) R.tab (fun a w => by
    have ne : a ≠ p := fun z => n (z ▸ w)
    rw [upd_ne ne]
    exact ⟨(R.ownH w).1, _root_.rfl⟩) (gn_upd b) (Dm.ex Ex.refl)

/-! ### what an expression gives; H0: the heap at its start -/
def RV (B : Bx) (S : Sl) (σ : Sg) (G H0 H : Hp) : SV → V → Prop
  | .dat d, x => Rp G x d
  | .own ds, x => ∃ p xs, x = .ref p ∧ H0 p = none ∧ ¬ Ow S σ p ∧ G p = none ∧ H p = some (.lst xs) ∧ Rps G xs ds
  | .bor i, x => σ[i]? = some (some x)
  | .exc c fs, x => ExcAt B G c fs x
  | .thk r c fs, x => B.T x r c fs
theorem RV.step {v : SV} {x : V} (h : RV B S σ G H0 H v x) (s : Stp S σ G H S' G' H') : RV B S' σ G' H0 H' v x := by
  cases v with
  | dat d => exact Rp.mono s.ext h
  | bor i => exact h
  | own ds =>
    obtain ⟨p, xs, e, h1, h2, h3, h4, h5⟩ := h
    refine ⟨p, xs, e, h1, fun z => h2 (s.own p z), ?_, s.keep _ _ h4 (fun _ z => by cases z) h2, h5.mono s.ext⟩
    cases q : G' p with
    | none => rfl
    | some u =>
      rcases s.new p u q with z | z | z
      · rw [h3] at z; cases z
      · rw [h4] at z; cases z
      · exact absurd z h2
  | exc c fs => exact ExcAt.mono s.ext h
  | thk r c fs => exact h
theorem RV.back {v : SV} {x : V} (h : RV B S σ G H1 H v x) (d : ∀ a, H0 a ≠ none → H1 a ≠ none) : RV B S σ G H0 H v x := by
  cases v with
  | own ds =>
    obtain ⟨p, xs, e, h1, r⟩ := h
    refine ⟨p, xs, e, ?_, r⟩
    cases q : H0 p with
    | none => rfl
    | some u => exact absurd h1 (d p (by rw [q]; simp))
  | _ => exact h
theorem cont_bor {S : Sl} {i : Nat} {d : D} (e : cont S (.bor i) = some d) : ∃ xs, S[i]? = some (some (.own xs)) ∧ d = .list xs := by
  simp only [cont] at e
  split at e
  · rename_i xs q
    exact ⟨xs, q, (Option.some.inj e).symm⟩
  · cases e
/-- the data that a value is, whoever owns it -/
theorem RV.rp {v : SV} {x : V} {d : D} (R : Rel B S σ G H) (h : RV B S σ G H0 H v x) (e : cont S v = some d) : Rp H x d := by
  cases v with
  | dat d' =>
    have e' : d' = d := Option.some.inj e
    subst e'
    exact Rp.mono R.sub h
  | own ds =>
    have e' : PyData.list ds = d := Option.some.inj e
    subst e'
    obtain ⟨p, xs, rfl, _, _, _, h4, h5⟩ := h
    exact .lst (.inl h4) (h5.mono R.sub)
  | bor i =>
    obtain ⟨xs, q, rfl⟩ := cont_bor e
    obtain ⟨y, h1, p, ys, rfl, h3, h4, h5, h6⟩ := R.at_ i _ q
    have h : σ[i]? = some (some x) := h
    rw [h] at h1
    cases h1
    exact .lst (.inl h5) (h6.mono R.sub)
  | exc c fs => cases e
  | thk r c fs => cases e
/-- a list's items are plain data -/
theorem RV.clist {v : SV} {x : V} {ds : List D} (R : Rel B S σ G H) (h : RV B S σ G H0 H v x) (e : cont S v = some (.list ds)) : ∃ p xs, x = .ref p ∧ Rd H p (.lst xs) ∧ Rps G xs ds := by
  cases v with
  | dat d' =>
    have e' : d' = PyData.list ds := Option.some.inj e
    subst e'
    cases h with
    | lst h1 h2 => exact ⟨_, _, _root_.rfl, R.sub.rd h1, h2⟩
  | own es =>
    have e' : PyData.list es = PyData.list ds := Option.some.inj e
    cases e'
    obtain ⟨p, xs, rfl, _, _, _, h4, h5⟩ := h
    exact ⟨p, xs, _root_.rfl, .inl h4, h5⟩
  | bor i =>
    obtain ⟨xs, q, e'⟩ := cont_bor e
    cases e'
    obtain ⟨y, h1, p, ys, rfl, h3, h4, h5, h6⟩ := R.at_ i _ q
    have h : σ[i]? = some (some x) := h
    rw [h] at h1
    cases h1
    exact ⟨p, ys, _root_.rfl, .inl h5, h6⟩
  | exc c fs => cases e
  | thk r c fs => cases e
theorem RV.fix {v : SV} {x : V} {d : D} (R : Rel B S σ G H) (h : RV B S σ G H0 H v x) (e : cont2 S v = some d) : ∃ v', RV B S σ G H0 H v' x ∧ cont S v' = some d := by
  cases v with
  | bor i =>
    simp only [cont2] at e
    split at e
    · rename_i xs q
      exact ⟨.bor i, h, by simp only [cont, q]; exact e⟩
    · rename_i xs q
      obtain ⟨y, h1, h2⟩ := R.at_ i _ q
      have h : σ[i]? = some (some x) := h
      rw [h] at h1
      cases h1
      exact ⟨.dat (.list xs), h2, e⟩
    · cases e
  | dat d' => exact ⟨_, h, e⟩
  | own ds => exact ⟨_, h, e⟩
  | exc c fs => exact ⟨_, h, e⟩
  | thk r c fs => exact ⟨_, h, e⟩
theorem RV.ctup {v : SV} {x : V} {ds : List D} (R : Rel B S σ G H) (h : RV B S σ G H0 H v x) (e : cont S v = some (.tuple ds)) : ∃ p xs, x = .ref p ∧ Rd H p (.tup xs) ∧ Rps G xs ds := by
  cases v with
  | dat d' =>
    have e' : d' = PyData.tuple ds := Option.some.inj e
    subst e'
    cases h with
    | tup h1 h2 => exact ⟨_, _, _root_.rfl, R.sub.rd h1, h2⟩
  | own es => cases (Option.some.inj e : PyData.list es = PyData.tuple ds)
  | bor i =>
    obtain ⟨xs, q, e'⟩ := cont_bor e
    cases e'
  | exc c fs => cases e
  | thk r c fs => cases e
theorem RV.gtup {v : SV} {x : V} {ds : List D} (h : RV B S σ G H0 H v x) (e : cont S v = some (.tuple ds)) : Rp G x (.tuple ds) := by
  cases v with
  | dat d' =>
    have e' : d' = PyData.tuple ds := Option.some.inj e
    subst e'
    exact h
  | own es => cases (Option.some.inj e : PyData.list es = PyData.tuple ds)
  | bor i =>
    obtain ⟨xs, q, e'⟩ := cont_bor e
    cases e'
  | exc c fs => cases e
  | thk r c fs => cases e
theorem RV.cint {v : SV} {x : V} {i : Int} (R : Rel B S σ G H) (h : RV B S σ G H0 H v x) (e : cont S v = some (.int i)) : x = .int i := (RV.rp R h e).int_iff
theorem RV.cstr {v : SV} {x : V} {i : Str} (R : Rel B S σ G H) (h : RV B S σ G H0 H v x) (e : cont S v = some (.str i)) : x = .str i := (RV.rp R h e).str_iff
theorem RV.cbool {v : SV} {x : V} {i : Bool} (R : Rel B S σ G H) (h : RV B S σ G H0 H v x) (e : cont S v = some (.bool i)) : x = .bl i := (RV.rp R h e).bool_iff
theorem RV.cnone {v : SV} {x : V} (R : Rel B S σ G H) (h : RV B S σ G H0 H v x) (e : cont S v = some .none) : x = .non := (RV.rp R h e).none_iff

/-! ### readings -/
/-- what is wished of an exception that leaves -/
def XW (B : Bx) (W : WX) (σ : Sg) (G : Hp) (c : Str) (fs : Fs) (S' : Sl) : Prop :=
  ∀ (C d : Addr) (vs : List (Str × V)) (G' H' : Hp), Rel B S' σ G' H' → Ex G G' → B.mg c = some (.ref C) → G' d = some (.xd vs) → FsR G' vs fs → W (.ref C) (some d) σ H'
def K1 {α : Type} (B : Bx) (W : WX) (σ : Sg) (G : Hp) (o : O α) (Φ : α → Sl → Prop) : Prop := match o with
  | .ok a S' => Φ a S'
  | .exc c fs S' => XW B W σ G c fs S'
  | .bad => False
theorem XW.ext {W : WX} {c : Str} {fs : Fs} (h : XW B W σ G c fs S') (e : Ex G G1) : XW B W σ G1 c fs S' := fun C d vs G' H' r x => h C d vs G' H' r (e.tr x)
theorem K1.bind {α β : Type} {W : WX} {o : O α} {k : α → Sl → O β} {Φ : β → Sl → Prop} (h : K1 B W σ G (o.bind k) Φ) : K1 B W σ G o (fun a S' => K1 B W σ G (k a S') Φ) := by
  cases o with
  | ok a S' => exact h
  | exc c fs S' => exact h
  | bad => exact h
theorem K1.ext {α : Type} {W : WX} {o : O α} {Φ : α → Sl → Prop} (h : K1 B W σ G o Φ) (e : Ex G G1) : K1 B W σ G1 o Φ := by
  cases o with
  | ok a S' => exact h
  | exc c fs S' => exact XW.ext h e
  | bad => exact h
/-- an expression's reading -/
def tE (B : Bx) (W : WX) (f : Sl → O SV) : TE := fun σ H Q => ∃ S G, Rel B S σ G H ∧ K1 B W σ G (f S) fun r S' => ∀ x G' H', Rel B S' σ G' H' → Stp S σ G H S' G' H' → RV B S' σ G' H H' r x → Q x H'
def tT (B : Bx) (W : WX) (f : Sl → O Bool) : TT := fun σ H Q => ∃ S G, Rel B S σ G H ∧ K1 B W σ G (f S) fun b S' => ∀ G' H', Rel B S' σ G' H' → Stp S σ G H S' G' H' → Q b H'
/-- values one behind another; two new lists among them are two -/
inductive RVs (B : Bx) (S : Sl) (σ : Sg) (G H0 H : Hp) : List SV → List V → Prop
  | nil : RVs B S σ G H0 H [] []
  | cons {v : SV} {vs : List SV} {x : V} {xs : List V} : RV B S σ G H0 H v x → RVs B S σ G H0 H vs xs →
      (∀ ds es w y, v = .own ds → w = .own es → (w, y) ∈ vs.zip xs → y ≠ x) → RVs B S σ G H0 H (v :: vs) (x :: xs)
def tA (B : Bx) (W : WX) (f : Sl → O (List SV)) : TA := fun σ H Q => ∃ S G, Rel B S σ G H ∧ K1 B W σ G (f S) fun r S' => ∀ xs G' H', Rel B S' σ G' H' → Stp S σ G H S' G' H' → RVs B S' σ G' H H' r xs → Q xs H'
theorem RVs.step {S S' : Sl} {vs : List SV} {xs : List V} (h : RVs B S σ G H0 H vs xs) (s : Stp S σ G H S' G' H') : RVs B S' σ G' H0 H' vs xs := by
  induction h with
  | nil => exact .nil
  | cons a _ d ih => exact .cons (a.step s) ih d
theorem RVs.back {vs : List SV} {xs : List V} (h : RVs B S σ G H1 H vs xs) (d : ∀ a, H0 a ≠ none → H1 a ≠ none) : RVs B S σ G H0 H vs xs := by
  induction h with
  | nil => exact .nil
  | cons a _ dj ih => exact .cons (a.back d) ih dj
/-- an expression first, then what its value leads to -/
theorem tE.then {W : WX} {β : Type} {f : Sl → O SV} {k : SV → Sl → O β} {Φ : β → Sl → Prop} {Q : VK} (R : Rel B S σ G H) (h : K1 B W σ G ((f S).bind k) Φ)
    (q : ∀ r S1 x G1 H1, Rel B S1 σ G1 H1 → Stp S σ G H S1 G1 H1 → RV B S1 σ G1 H H1 r x → K1 B W σ G1 (k r S1) Φ → Q x H1) : tE B W f σ H Q := by
  refine ⟨S, G, R, ?_⟩
  have h' := h.bind
  cases e : f S with
  | ok r S1 =>
    rw [e] at h'
    exact fun x G1 H1 R1 s1 v1 => q r S1 x G1 H1 R1 s1 v1 (K1.ext h' s1.ext)
  | exc c fs S1 => rw [e] at h'; exact h'
  | bad => rw [e] at h'; exact h'
theorem tT.then {W : WX} {β : Type} {f : Sl → O Bool} {k : Bool → Sl → O β} {Φ : β → Sl → Prop} {Q : Bool → Hp → Prop} (R : Rel B S σ G H) (h : K1 B W σ G ((f S).bind k) Φ)
    (q : ∀ b S1 G1 H1, Rel B S1 σ G1 H1 → Stp S σ G H S1 G1 H1 → K1 B W σ G1 (k b S1) Φ → Q b H1) : tT B W f σ H Q := by
  refine ⟨S, G, R, ?_⟩
  have h' := h.bind
  cases e : f S with
  | ok r S1 =>
    rw [e] at h'
    exact fun G1 H1 R1 s1 => q r S1 G1 H1 R1 s1 (K1.ext h' s1.ext)
  | exc c fs S1 => rw [e] at h'; exact h'
  | bad => rw [e] at h'; exact h'
theorem tA.then {W : WX} {β : Type} {f : Sl → O (List SV)} {k : List SV → Sl → O β} {Φ : β → Sl → Prop} {Q : List V → Hp → Prop} (R : Rel B S σ G H) (h : K1 B W σ G ((f S).bind k) Φ)
    (q : ∀ r S1 x G1 H1, Rel B S1 σ G1 H1 → Stp S σ G H S1 G1 H1 → RVs B S1 σ G1 H H1 r x → K1 B W σ G1 (k r S1) Φ → Q x H1) : tA B W f σ H Q := by
  refine ⟨S, G, R, ?_⟩
  have h' := h.bind
  cases e : f S with
  | ok r S1 =>
    rw [e] at h'
    exact fun x G1 H1 R1 s1 v1 => q r S1 x G1 H1 R1 s1 v1 (K1.ext h' s1.ext)
  | exc c fs S1 => rw [e] at h'; exact h'
  | bad => rw [e] at h'; exact h'
theorem K1.of {α : Type} {W : WX} {a : Option α} {Φ : α → Sl → Prop} (h : K1 B W σ G (O.of a S) Φ) : ∃ x, a = some x ∧ Φ x S := by
  cases a with
  | none => exact h.elim
  | some x => exact ⟨x, _root_.rfl, h⟩
end
end Z

set_option maxHeartbeats 2000000
/-! The operators by values. -/
namespace Z
open PySem PySem.Spec PyProof.Rows L2
section
variable {X : Cx}
theorem rdl {pins : List (Addr × Obj)} {σ : Sg} {H : Hp} {s : Shared} {l : Addr} {xs : List V} (I : Inv X pins σ H s) (h : Rd H l (.lst xs)) :
    xs.length ≤ sizeLine ∧ ∃ (its : List Value) (n : Nat), Vals xs its ∧ s.heap.get? l = some { cls := .type "list", data := .seq its.toArray n } := h.ok I.hok
/-! ### + and * of lists that are read -/
def rCatR : R2 := fun x y H Q => ∃ l b xs zs, x = .ref l ∧ y = .ref b ∧ Rd H l (.lst xs) ∧ Rd H b (.lst zs) ∧
  xs.length + zs.length ≤ sizeLine ∧ ∀ p, H p = none → Q (.ref p) (upd H p (.lst (xs ++ zs)))
theorem op_catR : OpR X (binaryOp .Add) rCatR := by
  intro pins s σ H x y v u Q I rx ry ⟨l, b, xs, zs, ex, ey, h1, h2, hz, q⟩
  subst ex ey
  cases rx; cases ry
  obtain ⟨z1, its, n, r, e⟩ := rdl I h1
  obtain ⟨z2, its2, n2, r2, e2⟩ := rdl I h2
  have l1 := r.length
  have l2 := r2.length
  refine PySem.P.add_list e e2 ?_ (by simp only [List.size_toArray]; omega)
  rw [show its.toArray ++ its2.toArray = (its ++ its2).toArray by simp]
  refine ⟨.ref _, _, I.lnew (t' := s.toks) (r.append r2) ?_, rfl, q _ I.fresh⟩
  simp only [List.length_append]; omega
def rRepR : R2 := fun x y H Q => ∃ l k xs, x = .ref l ∧ y = .int k ∧ Rd H l (.lst xs) ∧ -(2 ^ 63) ≤ k ∧ k < 2 ^ 63 ∧
  xs.length * k.toNat ≤ sizeLine ∧ ∀ p, H p = none → Q (.ref p) (upd H p (.lst (List.replicate k.toNat xs).flatten))
theorem rep_items (its : List Value) (m : Nat) : List.foldl (fun a b => a ++ b) #[] (List.replicate (if its.toArray.isEmpty = true then 0 else m) its.toArray) = (List.replicate m its).flatten.toArray := by
  have go : ∀ j : Nat, List.foldl (fun a b => a ++ b) #[] (List.replicate j its.toArray) = (List.replicate j its).flatten.toArray := fun j => by
    have z := foldl_rep its j []
    rwa [List.nil_append] at z
  rw [go]
  cases its <;> simp
theorem op_repR : OpR X (binaryOp .Mult) rRepR := by
  intro pins s σ H x y v u Q I rx ry ⟨l, k, xs, ex, ey, hH, lo, hi, hz, q⟩
  subst ex ey
  cases rx
  obtain ⟨t, rfl⟩ := ry
  obtain ⟨z, its, n, r, e⟩ := rdl I hH
  have hl := r.length
  have sz : its.toArray.size * k.toNat ≤ sizeLine := by simp only [List.size_toArray]; rw [← hl]; exact hz
  have line : (sizeLine : Nat) ≤ (2 ^ 63 - 1) / 8 := by decide
  have fit : ¬ (!Builtin.List.listFitsIndex k) = true := by rw [fitsIndex_both lo hi]; decide
  have long : ¬ Builtin.List.listTooLong (its.toArray.size * k.toNat) = true := by rw [notLongL sz]; decide
  have tL : s.TypeIs (.ref l) "list" := ⟨_, e, rfl⟩
  refine wpAny_binaryOp_repeat_ref (T := "list") (U := "int") (by decide) tL (fun s' => typeIs_int s' k t) noFill_list_mul F.fills_int_mul
    F.slot_int_rmul repeat_list F.slot_int_index.lookup (call_meets F.slot_int_rmul (typeIs_int s k t) F.entry_int_rmul (F.args_int_rmul_2 _ _)
      (int___rmul___int_list k t l its.toArray n) ⟨e, rfl, tL, call_meets F.slot_list_mul tL F.entry_list_mul (F.args_list_mul_2 _ _) (AutoListH.list___mul___list_int_3 l its.toArray n k t fit (by omega) long) ⟨e, ?_⟩⟩)
  rw [rep_items]
  refine ⟨.ref _, _, I.lnew (t' := s.toks) (r.rep k.toNat) ?_, rfl, q _ I.fresh⟩
  rw [PyProof.Rows.lm_len_rep_flat, Nat.mul_comm]
  exact hz

/-! ### all operators -/
def rStr : R2 := fun x y H Q => ∃ i j, x = .str i ∧ y = .str j ∧ i.length + j.length ≤ sizeLine ∧ Q (.str (i ++ j)) H
theorem tuple_mulS (l : Addr) (items : Array Value) (n : Nat) (dd : Option Addr) (sl : Array (Option Value)) (x : Int) (u : Tok) (c0 : (decide (x < -(2 ^ 63)) || decide (x ≥ 2 ^ 63)) = false) (c1 : (items.isEmpty || x == 1) = true) :
    Meets (Builtin.«tuple.__mul__» ⟨[.ref l, .int x u], []⟩) (fun _ R s => s.heap.get? l = some { cls := .type "tuple", dict := dd, data := .seq items n, slots := sl } ∧ R (.ok (.ret (Value.ref l))) s) :=
  .of_wp fun prog w A R s h => by
    obtain ⟨hp, g, d, tk, os⟩ := s
    obtain ⟨hl, h⟩ := h
    have f1 := AutoSeq1.idx_int
    wp_walk using wpAny_loadPart' hl
    repeat (first
      | (refine wpAny_ite_false (decide_eq_false (by rw [c0]; exact Bool.false_ne_true)) ?_; wp_walk using wpAny_loadPart' hl)
      | (refine wpAny_ite_true (decide_eq_true c1) ?_; wp_walk using wpAny_loadPart' hl))
    exact ⟨_, rfl, h⟩
theorem tuple_mul0 (l : Addr) (items : Array Value) (n : Nat) (dd : Option Addr) (sl : Array (Option Value)) (x : Int) (u : Tok) (c0 : (decide (x < -(2 ^ 63)) || decide (x ≥ 2 ^ 63)) = false) (c1 : (items.isEmpty || x == 1) = false) (c2 : (decide (x ≤ 0) || items.isEmpty) = true) :
    Meets (Builtin.«tuple.__mul__» ⟨[.ref l, .int x u], []⟩) (fun _ R s => s.heap.get? l = some { cls := .type "tuple", dict := dd, data := .seq items n, slots := sl } ∧
      R (.ok (.ret (Value.ref s.heap.objs.size))) { s with heap := s.heap.push { cls := Value.type "tuple", data := Data.seq #[] }, toks := s.toks }) :=
  .of_wp fun prog w A R s h => by
    obtain ⟨hp, g, d, tk, os⟩ := s
    obtain ⟨hl, h⟩ := h
    have f1 := AutoSeq1.idx_int
    wp_walk using wpAny_loadPart' hl
    repeat (first
      | (refine wpAny_ite_false (decide_eq_false (by rw [c0]; exact Bool.false_ne_true)) ?_; wp_walk using wpAny_loadPart' hl)
      | (refine wpAny_ite_false (decide_eq_false (by rw [c1]; exact Bool.false_ne_true)) ?_; wp_walk using wpAny_loadPart' hl)
      | (refine wpAny_ite_true (decide_eq_true c2) ?_; wp_walk using wpAny_loadPart' hl)
      | (refine wpAny_ite_false (by decide) ?_; wp_walk using wpAny_loadPart' hl))
    exact ⟨_, rfl, h⟩
def rRepT1 (K : PySem.W.Frag) : R2 := fun x y H Q => ∃ l k xs, x = .ref l ∧ y = .int k ∧ SqT K H l xs ∧ -(2 ^ 63) ≤ k ∧ k < 2 ^ 63 ∧ (xs = [] ∨ k = 1) ∧ Q (.ref l) H
def rRepT0 (K : PySem.W.Frag) : R2 := fun x y H Q => ∃ l k xs, x = .ref l ∧ y = .int k ∧ SqT K H l xs ∧ -(2 ^ 63) ≤ k ∧ k ≤ 0 ∧ xs ≠ [] ∧ ∀ p, H p = none → Q (.ref p) (upd H p (.tup []))
theorem op_repT1 : OpR X (binaryOp .Mult) (rRepT1 X.K) := by
  intro pins s σ H x y v u Q I rx ry h
  obtain ⟨l, k, xs, rfl, rfl, hT, h1, h2, hk, q⟩ := h
  cases rx
  obtain ⟨t, rfl⟩ := ry
  obtain ⟨its, r, ⟨⟨cls, dd, data, sl⟩, ho, hc, n, hd⟩, hs⟩ := I.tuple hT
  simp only at hc hd
  subst hc hd
  have c0 : (decide (k < -(2 ^ 63)) || decide (k ≥ 2 ^ 63)) = false := by
    rw [decide_eq_false (by omega), decide_eq_false (by omega)] <;> rfl
  have c1 : (its.toArray.isEmpty || k == 1) = true := by
    rcases hk with e | e
    · subst e
      cases r
      rfl
    · rw [e, Bool.or_eq_true]; exact .inr rfl
  exact wpAny_binaryOp_repeat_ref (T := "tuple") (U := "int") (by decide) ⟨_, ho, rfl⟩ (fun s' => typeIs_int s' k t) noFill_tuple_mul F.fills_int_mul F.slot_int_rmul repeat_tuple F.slot_int_index.lookup
    (call_meets F.slot_int_rmul (typeIs_int s k t) F.entry_int_rmul (F.args_int_rmul_2 _ _) (int_rmul_tuple k t l its.toArray n dd sl)
      ⟨ho, rfl, ⟨_, ho, rfl⟩, call_meets F.slot_tuple_mul ⟨_, ho, rfl⟩ F.entry_tuple_mul (F.args_tuple_mul_2 _ _) (tuple_mulS l its.toArray n dd sl k t c0 c1) ⟨ho, ⟨.ref l, H, I, rfl, q⟩⟩⟩)
theorem op_repT0 : OpR X (binaryOp .Mult) (rRepT0 X.K) := by
  intro pins s σ H x y v u Q I rx ry h
  obtain ⟨l, k, xs, rfl, rfl, hT, h1, h2, hk, q⟩ := h
  cases rx
  obtain ⟨t, rfl⟩ := ry
  obtain ⟨its, r, ⟨⟨cls, dd, data, sl⟩, ho, hc, n, hd⟩, hs⟩ := I.tuple hT
  simp only at hc hd
  subst hc hd
  have c0 : (decide (k < -(2 ^ 63)) || decide (k ≥ 2 ^ 63)) = false := by
    rw [decide_eq_false (by omega), decide_eq_false (by omega)] <;> rfl
  have hi : its.toArray.isEmpty = false := by
    cases its with
    | nil => cases r; exact absurd rfl hk
    | cons a b => rfl
  have c1 : (its.toArray.isEmpty || k == 1) = false := by
    rw [hi, Bool.false_or]
    exact beq_eq_false_iff_ne.mpr (by omega)
  have c2 : (decide (k ≤ 0) || its.toArray.isEmpty) = true := by
    rw [decide_eq_true h2]; rfl
  refine wpAny_binaryOp_repeat_ref (T := "tuple") (U := "int") (by decide) ⟨_, ho, rfl⟩ (fun s' => typeIs_int s' k t) noFill_tuple_mul F.fills_int_mul F.slot_int_rmul repeat_tuple F.slot_int_index.lookup
    (call_meets F.slot_int_rmul (typeIs_int s k t) F.entry_int_rmul (F.args_int_rmul_2 _ _) (int_rmul_tuple k t l its.toArray n dd sl)
      ⟨ho, rfl, ⟨_, ho, rfl⟩, call_meets F.slot_tuple_mul ⟨_, ho, rfl⟩ F.entry_tuple_mul (F.args_tuple_mul_2 _ _) (tuple_mul0 l its.toArray n dd sl k t c0 c1 c2) ⟨ho, ?_⟩⟩)
  refine ⟨.ref s.heap.objs.size, _, I.laid (t' := s.toks) (o := .tup []) (fun b ob q => Heap.get?_push_of_some _ q) (Nat.le_refl _) ?_, rfl, q _ (I.hok.fresh (Nat.le_refl _))⟩
  exact ⟨Nat.zero_le _, [], .nil, IsTup.new _ _⟩
/-- tuple * int, up to 4000 items, up to 4000 times -/
def rRepTB (K : PySem.W.Frag) : R2 := fun x y H Q => ∃ l k xs, x = .ref l ∧ y = .int k ∧ SqT K H l xs ∧ xs ≠ [] ∧ (2 ≤ k ∧ k ≤ 4000) ∧ xs.length ≤ 4000 ∧ ∀ p, H p = none → Q (.ref p) (upd H p (.tup (List.replicate k.toNat xs).flatten))
theorem op_repTB : OpR X (binaryOp .Mult) (rRepTB X.K) := by
  intro pins s σ H x y v u Q I rx ry h
  obtain ⟨l, k, xs, rfl, rfl, hT, some_in, ⟨k2, k4⟩, few, wish⟩ := h
  cases rx
  obtain ⟨t, rfl⟩ := ry
  obtain ⟨its, r, ⟨⟨cls, dd, data, sl⟩, ho, hc, n, hd⟩, hs⟩ := I.tuple hT
  simp only at hc hd
  subst hc hd
  have len := r.length
  have vol : k.toNat * xs.length ≤ 16000000 := Nat.le_trans (Nat.mul_le_mul (show k.toNat ≤ 4000 by omega) few) (by decide)
  have line : sizeLine = 16777216 := by decide
  have whole : (List.replicate k.toNat xs).flatten.length ≤ sizeLine := by rw [PyProof.Rows.lm_len_rep_flat, line]; omega
  have whole2 : (List.replicate k.toNat its).flatten.length ≤ sizeLine := by rw [PyProof.Rows.lm_len_rep_flat, ← len, line]; omega
  have room : ((its.toArray.size : Nat) : Int) * k ≤ 16000000 := by
    have e : ((its.toArray.size : Nat) : Int) * k = ((k.toNat * xs.length : Nat) : Int) := by
      rw [List.size_toArray, ← len, Int.natCast_mul, Int.toNat_of_nonneg (by omega), Int.mul_comm]
    omega
  have full : its.toArray.isEmpty = false := by
    cases its with
    | nil => cases r; exact absurd rfl some_in
    | cons a b => rfl
  have f0 : (decide (k < -(2 ^ 63)) || decide (k ≥ 2 ^ 63)) = false := by
    rw [decide_eq_false (by omega), decide_eq_false (by omega)] <;> rfl
  have f1 : (its.toArray.isEmpty || k == 1) = false := by rw [full, Bool.false_or, beq_eq_false_iff_ne]; omega
  have f2 : (decide (k ≤ 0) || its.toArray.isEmpty) = false := by rw [full, decide_eq_false (by omega)]; rfl
  have f4 : Builtin.Tuple.tupleTooMany (((its.toArray.size : Nat) : Int) * k) = false := by
    unfold Builtin.Tuple.tupleTooMany
    rw [line]; exact decide_eq_false (by omega)
  have told := tuple_mulW l its.toArray n dd sl k t f0 f1 f2 (by omega) f4 (by rw [size_rep, List.size_toArray]; exact whole2)
  refine wpAny_binaryOp_repeat_ref (T := "tuple") (U := "int") (by decide) ⟨_, ho, rfl⟩ (fun s' => typeIs_int s' k t) noFill_tuple_mul F.fills_int_mul F.slot_int_rmul repeat_tuple F.slot_int_index.lookup
    (call_meets F.slot_int_rmul (typeIs_int s k t) F.entry_int_rmul (F.args_int_rmul_2 _ _) (int_rmul_tuple k t l its.toArray n dd sl)
      ⟨ho, rfl, ⟨_, ho, rfl⟩, call_meets F.slot_tuple_mul ⟨_, ho, rfl⟩ F.entry_tuple_mul (F.args_tuple_mul_2 _ _) told ⟨ho, ?_⟩⟩)
  rw [size_rep]
  exact ⟨.ref s.heap.objs.size, _, I.laid (t' := s.toks) (o := .tup (List.replicate k.toNat xs).flatten) (fun b ob q => Heap.get?_push_of_some _ q) (Nat.le_refl _) ⟨whole, _, r.rep k.toNat, IsTup.new _ _⟩, rfl, wish _ (I.hok.fresh (Nat.le_refl _))⟩
def rNo : R2 := fun _ _ _ _ => False
theorem op_no {f : Value → Value → Sem Value} : OpR X f rNo := fun _ _ _ _ _ _ _ _ _ _ _ _ h => h.elim
def rBin (K : PySem.W.Frag) : Operator → R2
  | .Add => fun x y H Q => rI0 (fun i j => .int (i + j)) x y H Q ∨ rStr x y H Q ∨ rCatR x y H Q ∨ rCatA K x y H Q
  | .Sub => rI0 fun i j => .int (i - j)
  | .Mult => fun x y H Q => rI CMul (fun i j => .int (i * j)) x y H Q ∨ rI CMulW (fun i j => .int (i * j)) x y H Q ∨ rRepR x y H Q ∨ rRepTB K x y H Q ∨ rRepT1 K x y H Q ∨ rRepT0 K x y H Q
  | .FloorDiv => fun x y H Q => rI CDivN (fun i j => .int (i.fdiv j)) x y H Q ∨ rI CDivW (fun i j => .int (i / j)) x y H Q
  | .Mod => rI (fun _ j => j ≠ 0) fun i j => .int (i.fmod j)
  | .Pow => rI CPow fun i j => .int (i ^ j.toNat)
  | _ => rNo
theorem op_bin : ∀ op : Operator, OpR X (binaryOp op) (rBin X.K op)
  | .Add => op_add.or (OpR.or (r := rStr) op_add_str (op_catR.or op_catA))
  | .Sub => op_sub
  | .Mult => op_mul.or (op_mulW.or (op_repR.or (op_repTB.or (op_repT1.or op_repT0))))
  | .FloorDiv => op_fdivN.or op_fdivW
  | .Mod => op_modN
  | .Pow => op_pow
  | .MatMult => op_no
  | .Div => op_no
  | .LShift => op_no
  | .RShift => op_no
  | .BitOr => op_no
  | .BitXor => op_no
  | .BitAnd => op_no
end
section
variable {X : Cx} {B : Bx} {S : Sl} {σ : Sg} {G H H0 H1 : Hp}
theorem Rps.nil_iff {xs : List V} {ds : List D} (r : Rps H xs ds) : xs = [] ↔ ds = [] := by
  have := r.length
  constructor
  · rintro rfl; exact List.eq_nil_of_length_eq_zero this.symm
  · rintro rfl; exact List.eq_nil_of_length_eq_zero this
/-- what is wanted of a value made here -/
abbrev Fin (B : Bx) (S : Sl) (σ : Sg) (G H : Hp) (Q : VK) (r : SV) : Prop := ∀ z G' H', Rel B S σ G' H' → Stp S σ G H S G' H' → RV B S σ G' H H' r z → Q z H'
theorem Fin.flat {Q : VK} {d : D} {z : V} (R : Rel B S σ G H) (f : Fin B S σ G H Q (.dat d)) (h : Rp G z d) : Q z H := f z G H R Stp.refl h
theorem Fin.lst {Q : VK} {ds : List D} {xs : List V} (R : Rel B S σ G H) (f : Fin B S σ G H Q (.own ds)) (h : Rps G xs ds) : ∀ p, H p = none → Q (.ref p) (upd H p (.lst xs)) := fun p hp => by
  refine f _ G _ (R.fresh hp) (Stp.fresh hp) ⟨p, xs, rfl, hp, R.now hp, R.gnone hp, upd_same, h⟩
theorem Fin.tup {Q : VK} {ds : List D} {xs : List V} (R : Rel B S σ G H) (f : Fin B S σ G H Q (.dat (.tuple ds))) (h : Rps G xs ds) : ∀ p, H p = none → Q (.ref p) (upd H p (.tup xs)) := fun p hp => by
  refine f _ _ _ (R.lay hp (fun _ z => by cases z)) (Stp.lay (R.gnone hp) hp) (.tup (.inl upd_same) (h.mono (Ex.new (R.gnone hp))))
theorem Rd.sqt {K : PySem.W.Frag} {a : Addr} {xs : List V} (h : Rd H a (.tup xs)) : SqT K H a xs := .inl h
theorem Rd.sql {K : PySem.W.Frag} {a : Addr} {xs : List V} (h : Rd H a (.lst xs)) : SqL K H a xs := .inl h
theorem bin_ok {K : PySem.W.Frag} {op : Operator} {v w : SV} {x y : V} {d e : D} {r : SV} {Q : VK} (R : Rel B S σ G H) (hx : RV B S σ G H0 H v x) (hy : RV B S σ G H1 H w y) (ex : cont S v = some d) (ey : cont S w = some e)
    (h : binD op d e = some r) (f : Fin B S σ G H Q r) : rBin K op x y H Q := by
  cases op <;> cases d <;> cases e <;> simp only [binD] at h <;> try cases h
  case Add.int.int => exact .inl ⟨_, _, hx.cint R ex, hy.cint R ey, f.flat R (.int _)⟩
  case Add.str.str =>
    split at h
    · rename_i hz; cases h
      exact .inr (.inl ⟨_, _, hx.cstr R ex, hy.cstr R ey, hz, f.flat R (.str _)⟩)
    · cases h
  case Add.list.list =>
    split at h
    · rename_i hz; cases h
      obtain ⟨p, xs, rfl, h1, r1⟩ := hx.clist R ex
      obtain ⟨q, ys, rfl, h2, r2⟩ := hy.clist R ey
      exact .inr (.inr (.inl ⟨p, q, xs, ys, rfl, rfl, h1, h2, by rw [r1.length, r2.length]; exact hz, f.lst R (r1.append r2)⟩))
    · cases h
  case Add.tuple.tuple =>
    split at h
    · rename_i hz; cases h
      obtain ⟨p, xs, rfl, h1, r1⟩ := hx.ctup R ex
      obtain ⟨q, ys, rfl, h2, r2⟩ := hy.ctup R ey
      refine .inr (.inr (.inr ⟨p, q, xs, ys, rfl, rfl, Rd.sqt h1, Rd.sqt h2, by rw [r1.length, r2.length]; exact hz, fun e => ?_, fun _ e => ?_, fun _ _ => f.tup R (r1.append r2)⟩))
      · rw [r1.nil_iff] at e; subst e
        cases w with
        | dat d => cases (Option.some.inj ey : d = _); exact f.flat R hy
        | own es => cases (Option.some.inj ey : PyData.list es = _)
        | bor i => obtain ⟨xs, _, e'⟩ := cont_bor ey; cases e'
        | exc c fs => cases ey
        | thk r c fs => cases ey
      · rw [r2.nil_iff] at e; subst e
        rw [List.append_nil] at f
        cases v with
        | dat d => cases (Option.some.inj ex : d = _); exact f.flat R hx
        | own es => cases (Option.some.inj ex : PyData.list es = _)
        | bor i => obtain ⟨xs, _, e'⟩ := cont_bor ex; cases e'
        | exc c fs => cases ex
        | thk r c fs => cases ex
    · cases h
  case Sub.int.int => exact ⟨_, _, hx.cint R ex, hy.cint R ey, f.flat R (.int _)⟩
  case Mult.int.int =>
    split at h
    · rename_i hz; cases h
      unfold mulOk at hz
      simp only [Bool.or_eq_true, decide_eq_true_eq] at hz
      rcases hz with (hz | hz) | hz
      · exact .inl ⟨_, _, hx.cint R ex, hy.cint R ey, .inl (by omega), f.flat R (.int _)⟩
      · exact .inl ⟨_, _, hx.cint R ex, hy.cint R ey, .inr (by omega), f.flat R (.int _)⟩
      · exact .inr (.inl ⟨_, _, hx.cint R ex, hy.cint R ey, hz, f.flat R (.int _)⟩)
    · cases h
  case Mult.list.int =>
    split at h
    · rename_i hz; cases h
      simp only [Bool.and_eq_true, decide_eq_true_eq] at hz
      obtain ⟨p, xs, rfl, h1, r1⟩ := hx.clist R ex
      exact .inr (.inr (.inl ⟨p, _, xs, rfl, hy.cint R ey, h1, hz.1.1, hz.1.2, by rw [r1.length]; exact hz.2, f.lst R (Rps.flat _ r1)⟩))
    · cases h
  case Mult.tuple.int =>
    split at h
    · rename_i hz; cases h
      simp only [Bool.and_eq_true, decide_eq_true_eq] at hz
      obtain ⟨p, xs, rfl, h1, r1⟩ := hx.ctup R ex
      refine .inr (.inr (.inr (.inl ⟨p, _, xs, rfl, hy.cint R ey, Rd.sqt h1, fun e => ?_, ⟨hz.1.1.1, hz.1.1.2⟩, by rw [r1.length]; exact hz.1.2, f.tup R (Rps.flat _ r1)⟩)))
      rw [r1.nil_iff] at e; subst e
      simp at hz
    · split at h
      · rename_i hz
        simp only [Bool.and_eq_true, decide_eq_true_eq] at hz
        obtain ⟨p, xs, rfl, h1, r1⟩ := hx.ctup R ex
        split at h
        · rename_i hz2; cases h
          simp only [Bool.or_eq_true, beq_iff_eq] at hz2
          refine .inr (.inr (.inr (.inr (.inl ⟨p, _, xs, rfl, hy.cint R ey, Rd.sqt h1, hz.1, hz.2, ?_, ?_⟩))))
          · rcases hz2 with e | e
            · exact .inl (r1.nil_iff.mpr (List.isEmpty_iff.mp e))
            · exact .inr e
          · exact f.flat R (hx.gtup ex)
        · split at h
          · rename_i hz2 hz3; cases h
            refine .inr (.inr (.inr (.inr (.inr ⟨p, _, xs, rfl, hy.cint R ey, Rd.sqt h1, hz.1, hz3, fun e => ?_, f.tup R .nil⟩))))
            rw [r1.nil_iff] at e; subst e
            simp at hz2
          · cases h
      · cases h
  case FloorDiv.int.int =>
    split at h
    · rename_i hz; cases h
      unfold divOk at hz
      simp only [Bool.or_eq_true, Bool.and_eq_true, decide_eq_true_eq] at hz
      rcases hz with hz | hz
      · exact .inl ⟨_, _, hx.cint R ex, hy.cint R ey, hz, f.flat R (.int _)⟩
      · refine .inr ⟨_, _, hx.cint R ex, hy.cint R ey, hz, ?_⟩
        have q := f.flat R (.int _)
        rw [Int.fdiv_eq_ediv_of_nonneg _ (by omega)] at q
        exact q
    · cases h
  case Mod.int.int =>
    split at h
    · rename_i hz; cases h
      exact ⟨_, _, hx.cint R ex, hy.cint R ey, hz, f.flat R (.int _)⟩
    · cases h
  case Pow.int.int =>
    split at h
    · rename_i hz; cases h
      simp only [Bool.and_eq_true, decide_eq_true_eq] at hz
      exact ⟨_, _, hx.cint R ex, hy.cint R ey, ⟨hz.1.1, hz.1.2, hz.2⟩, f.flat R (.int _)⟩
    · cases h
end
end Z

set_option maxHeartbeats 2000000
/-! Comparisons, truth, subscripts, built-ins by values. -/
namespace Z
open PySem PySem.Spec PyProof.Rows L2
mutual
theorem Rp.dp {K : PySem.W.Frag} {H : Hp} : ∀ {x : V} {d : D}, Rp H x d → d.canLay0 = true → Dp K H x d
  | _, _, .non, _ => .non
  | _, _, .bl b, _ => .bl b
  | _, _, .int i, _ => .int i
  | _, _, .str s, _ => .str s
  | _, _, .lst h r, c => .lst (.inl h) (Rps.dp r (by simpa [PyData.canLay0] using c))
  | _, _, .tup h r, c => .tup (.inl h) (Rps.dp r (by simpa [PyData.canLay0] using c))
  | _, _, .dic _, c => by simp [PyData.canLay0] at c
theorem Rps.dp {K : PySem.W.Frag} {H : Hp} : ∀ {xs : List V} {ds : List D}, Rps H xs ds → PyData.canLayAll0 ds = true → DpAll K H xs ds
  | _, _, .nil, _ => .nil
  | _, _, .cons a r, c => by
    simp only [PyData.canLayAll0, Bool.and_eq_true] at c
    exact .cons (Rp.dp a c.1) (Rps.dp r c.2)
end
mutual
theorem Rp.reads {X : Cx} {pins : List (Addr × Obj)} {σ : Sg} {H : Hp} {s : Shared} (I : Inv X pins σ H s) : ∀ {x : V} {d : D} {u : Value}, Rp H x d → RelV x u → ∃ as, Reads s.heap u d as ∧ ∀ a ∈ as, H a ≠ none
  | _, _, _, .non, r => by cases r; exact ⟨_, .none, by simp⟩
  | _, _, _, .bl b, r => by cases r; exact ⟨_, .bool b, by simp⟩
  | _, _, _, .int i, r => by obtain ⟨t, rfl⟩ := r; exact ⟨_, .int i t, by simp⟩
  | _, _, _, .str i, r => by obtain ⟨t, rfl⟩ := r; exact ⟨_, .str i t, by simp⟩
  | _, _, _, .lst (a := a) h rs, r => by
    cases r
    obtain ⟨_, its, n, rv, e⟩ := rdl I h
    obtain ⟨as, h1, h2⟩ := Rps.reads I rs rv
    refine ⟨_, .list e rfl rfl h1, fun b hb => ?_⟩
    rcases List.mem_cons.mp hb with z | z
    · subst z; rcases h with z | ⟨o, z⟩ <;> rw [z] <;> simp
    · exact h2 b z
  | _, _, _, .tup (a := a) h rs, r => by
    cases r
    obtain ⟨its, rv, ⟨o, ho, hc, n, hd⟩, _⟩ := I.tuple (.inl h)
    obtain ⟨as, h1, h2⟩ := Rps.reads I rs rv
    exact ⟨_, .tuple ho hc hd h1, h2⟩
  | _, _, _, .dic (a := a) h, r => by
    cases r
    obtain ⟨_, hS, vs, kv, o, es, ep, e, ⟨h1, h2⟩, h3, _, h4, _⟩ := (show ObjOk X.prog X.w H s.heap a (.dK []) from I.hok a _ h)
    cases kv
    have e0 : es.toList = [] := by
      generalize es.toList = l at h4
      cases h4
      rfl
    refine ⟨_, .dict (kvs := []) e h1 h3 (by rw [e0]; exact .nil) (by rw [e0]; exact .nil), fun b hb => ?_⟩
    have hb : b = a := by simpa using hb
    subst hb; rw [h]; simp
theorem Rps.reads {X : Cx} {pins : List (Addr × Obj)} {σ : Sg} {H : Hp} {s : Shared} (I : Inv X pins σ H s) : ∀ {xs : List V} {ds : List D} {us : List Value}, Rps H xs ds → Vals xs us → ∃ as, ReadsAll s.heap us ds as ∧ ∀ a ∈ as, H a ≠ none
  | _, _, _, .nil, r => by cases r; exact ⟨_, .nil, by simp⟩
  | _, _, _, .cons a rs, r => by
    cases r with
    | cons r1 r2 =>
      obtain ⟨as, h1, h2⟩ := Rp.reads I a r1
      obtain ⟨bs, h3, h4⟩ := Rps.reads I rs r2
      refine ⟨_, .cons h1 h3, fun b hb => ?_⟩
      rcases List.mem_append.mp hb with z | z
      · exact h2 b z
      · exact h4 b z
end
section
variable {X : Cx}
/-! ### comparisons -/
def rIsN : R2 := fun x y H Q => y = .non ∧ Q (.bl (decide (x = .non))) H
def rNotN : R2 := fun x y H Q => y = .non ∧ Q (.bl (!decide (x = .non))) H
def rEqP : R2 := fun x y H Q => ∃ d e : D, Rp H x d ∧ Rp H y e ∧ flatD d = true ∧ flatD e = true ∧ Q (.bl (PyData.eqv d e)) H
def rNeP : R2 := fun x y H Q => ∃ d e : D, Rp H x d ∧ Rp H y e ∧ flatD d = true ∧ flatD e = true ∧ Q (.bl (!PyData.eqv d e)) H
theorem flatD_ok {d : D} (h : flatD d = true) : d.plain = true ∧ d.depth ≤ 64 := by
  unfold flatD at h
  rw [Bool.and_eq_true] at h
  exact ⟨h.1, of_decide_eq_true h.2⟩
theorem op_eqP (hu : X.A.units + 64 < cLine) : OpR X (compareOp .Eq) rEqP := by
  intro pins s σ H x y v u Q I rx ry ⟨d, e, hd, he, sd, se, q⟩
  obtain ⟨as, r1, _⟩ := Rp.reads I hd rx
  obtain ⟨bs, r2, _⟩ := Rp.reads I he ry
  have z := (flatD_ok sd).2
  exact SeqAt.eq_plain r1 r2 (flatD_ok sd).1 (flatD_ok se).1 (by have := Nat.min_le_left d.depth e.depth; omega) ⟨.bl _, H, I, rfl, q⟩
theorem op_neP (hu : X.A.units + 64 < cLine) : OpR X (compareOp .NotEq) rNeP := by
  intro pins s σ H x y v u Q I rx ry ⟨d, e, hd, he, sd, se, q⟩
  obtain ⟨as, r1, _⟩ := Rp.reads I hd rx
  obtain ⟨bs, r2, _⟩ := Rp.reads I he ry
  have z := (flatD_ok sd).2
  exact SeqAt.ne_plain r1 r2 (flatD_ok sd).1 (flatD_ok se).1 (by have := Nat.min_le_left d.depth e.depth; omega) ⟨.bl _, H, I, rfl, q⟩
def rCmp (K : PySem.W.Frag) : CmpOp → R2
  | .Eq => rEqP
  | .NotEq => rNeP
  | .Lt => rI0 fun i j => .bl (decide (i < j))
  | .LtE => rI0 fun i j => .bl (decide (i ≤ j))
  | .Gt => rI0 fun i j => .bl (decide (j < i))
  | .GtE => rI0 fun i j => .bl (decide (j ≤ i))
  | .Is => fun x y H Q => rIsN x y H Q ∨ rIsB x y H Q
  | .IsNot => rNotN
  | .In => rIn K false
  | .NotIn => rIn K true
theorem op_cmp (hu : X.A.units + 64 < cLine) : ∀ op : CmpOp, OpR X (compareOp op) (rCmp X.K op)
  | .Eq => op_eqP hu
  | .NotEq => op_neP hu
  | .Lt => op_lt
  | .LtE => op_le
  | .Gt => op_gt
  | .GtE => op_ge
  | .Is => OpR.or (r := rIsN) op_isN op_isBl
  | .IsNot => op_notN
  | .In => op_in_seq
  | .NotIn => op_notIn_seq
end
section
variable {X : Cx} {B : Bx} {S : Sl} {σ : Sg} {G H H0 H1 : Hp}
theorem Rp.non_iff {x : V} {d : D} (h : Rp H x d) : some (decide (x = .non)) = Z.isNone S (.dat d) := by
  cases h <;> rfl
theorem RV.isNone {v : SV} {x : V} {b : Bool} (R : Rel B S σ G H) (h : RV B S σ G H0 H v x) (e : isNone S v = some b) : decide (x = .non) = b := by
  cases v with
  | dat d =>
    exact Option.some.inj ((Rp.non_iff h).trans e)
  | own ds =>
    cases e
    obtain ⟨p, xs, rfl, _⟩ := h
    rfl
  | bor i =>
    simp only [Z.isNone] at e
    cases q : cont S (.bor i) with
    | none => rw [q] at e; cases e
    | some d =>
      rw [q] at e
      cases e
      obtain ⟨xs, _, rfl⟩ := cont_bor q
      obtain ⟨p, _, rfl, _⟩ := h.clist R q
      rfl
  | exc c fs =>
    cases e
    obtain ⟨a, _, _, _, rfl, _⟩ := h
    rfl
  | thk r c fs => cases e
theorem Rp.seq_ints {xs : List D} {ns : List Int} {y : V} {K : PySem.W.Frag} (h : Rp H y (.list xs) ∨ Rp H y (.tuple xs)) (e : intsOf xs = some ns) : ∃ p, y = .ref p ∧ (SqL K H p (ns.map .int) ∨ SqT K H p (ns.map .int)) := by
  rcases h with h | h
  · cases h with
    | lst h1 r => exact ⟨_, rfl, .inl (.inl ((r.ints e) ▸ h1))⟩
  · cases h with
    | tup h1 r => exact ⟨_, rfl, .inr (.inl ((r.ints e) ▸ h1))⟩
theorem inV_ints (i : Int) : ∀ ns : List Int, inV (.int i) (ns.map .int) = ns.any (· == i)
  | [] => rfl
  | a :: r => by
    have := inV_ints i r
    unfold inV at this ⊢
    rw [List.map_cons, List.any_cons, List.any_cons, this]; rfl
theorem flat_intsV : ∀ ns : List Int, (ns.map V.int).all flatV = true
  | [] => rfl
  | _ :: r => flat_intsV r
theorem cmpD_ok {K : PySem.W.Frag} {op : CmpOp} {d e : D} {x y : V} {b : Bool} {Q : VK} (hx : Rp H x d) (hy : Rp H y e) (h : cmpD op d e = some b) (q : Q (.bl b) H) : rCmp K op x y H Q := by
  cases op
  case Eq =>
    simp only [cmpD] at h
    split at h
    · rename_i hz; cases h
      rw [Bool.and_eq_true] at hz
      exact ⟨d, e, hx, hy, hz.1, hz.2, q⟩
    · cases h
  case NotEq =>
    simp only [cmpD] at h
    split at h
    · rename_i hz; cases h
      rw [Bool.and_eq_true] at hz
      exact ⟨d, e, hx, hy, hz.1, hz.2, q⟩
    · cases h
  case In =>
    cases d <;> cases e <;> simp only [cmpD] at h <;> try cases h
    all_goals
      obtain ⟨ns, e1, e2⟩ := Option.map_eq_some_iff.mp h
      subst e2
      obtain ⟨p, rfl, z⟩ := Rp.seq_ints (K := K) (by first | exact .inl hy | exact .inr hy) e1
      refine ⟨p, _, rfl, z, ?_, flat_intsV ns, ?_⟩
      · rw [hx.int_iff]; rfl
      · rw [hx.int_iff, if_neg (by decide), inV_ints]; exact q
  case NotIn =>
    cases d <;> cases e <;> simp only [cmpD] at h <;> try cases h
    all_goals
      obtain ⟨ns, e1, e2⟩ := Option.map_eq_some_iff.mp h
      subst e2
      obtain ⟨p, rfl, z⟩ := Rp.seq_ints (K := K) (by first | exact .inl hy | exact .inr hy) e1
      refine ⟨p, _, rfl, z, ?_, flat_intsV ns, ?_⟩
      · rw [hx.int_iff]; rfl
      · rw [hx.int_iff, if_pos rfl, inV_ints]; exact q
  all_goals (cases d <;> cases e <;> simp only [cmpD] at h <;> try cases h)
  all_goals exact ⟨_, _, hx.int_iff, hy.int_iff, q⟩
theorem cmp_ok {K : PySem.W.Frag} {op : CmpOp} {v w : SV} {x y : V} {b : Bool} {Q : VK} (R : Rel B S σ G H) (hx : RV B S σ G H0 H v x) (hy : RV B S σ G H1 H w y) (h : cmpV S op v w = some b) (q : Q (.bl b) H) : rCmp K op x y H Q := by
  unfold cmpV at h
  split at h
  · exact .inl ⟨Rp.none_iff hy, by rw [RV.isNone R hx h]; exact q⟩
  · cases e : isNone S v with
    | none => rw [e] at h; cases h
    | some k =>
      rw [e] at h
      cases h
      exact ⟨Rp.none_iff hy, by rw [RV.isNone R hx e]; exact q⟩
  · split at h
    · cases h
      exact .inr ⟨_, _, Rp.bool_iff hx, Rp.bool_iff hy, q⟩
    · cases h
  · split at h
    · rename_i d e q1 q2
      exact cmpD_ok (hx.rp R q1) (hy.rp R q2) h q
    · cases h
theorem truth_ok {K : PySem.W.Frag} {d : D} {x : V} {b : Bool} (hx : Rp H x d) (h : truth d = some b) : TruV K x H b := by
  cases hx <;> simp only [truth] at h
  case non => cases h; rfl
  case bl b => cases h; rfl
  case int i => cases h; rfl
  case str x =>
    split at h
    · rename_i hz; cases h
      refine ⟨hz, ?_⟩
      rw [Bool.eq_iff_iff]; simp
    · cases h
  case lst a xs ds h1 r =>
    cases h
    refine .inl ⟨xs, .inl h1, ?_⟩
    have := r.length
    cases xs <;> cases ds <;> simp_all
  case tup a xs ds h1 r =>
    cases h
    refine .inr (.inl ⟨xs, .inl h1, ?_⟩)
    have := r.length
    cases xs <;> cases ds <;> simp_all
  case dic => cases h

/-! ### subscripts -/
theorem atI_ok {xs : List V} {ds : List D} {i : Int} {d : D} (r : Rps G xs ds) (h : atI ds i = some d) : ∃ v, L2.atI xs i = some v ∧ Rp G v d := by
  unfold Z.atI at h
  cases e : ixN ds.length i with
  | none => rw [e] at h; cases h
  | some j =>
    rw [e] at h
    obtain ⟨v, h1, h2⟩ := r.get h
    refine ⟨v, ?_, h2⟩
    unfold L2.atI
    rw [r.length, show L2.ixN ds.length i = some j from e]
    exact h1
theorem ix_ok {K : PySem.W.Frag} {v w : SV} {x y : V} {d e r : D} {Q : VK} (R : Rel B S σ G H) (hx : RV B S σ G H0 H v x) (hy : RV B S σ G H1 H w y) (ex : cont S v = some d) (ey : cont S w = some e) (h : ixD d e = some r)
    (f : Fin B S σ G H Q (.dat r)) : rIx K x y H Q := by
  cases d <;> cases e <;> simp only [ixD] at h <;> try cases h
  · obtain ⟨p, xs, rfl, h1, r1⟩ := hx.clist R ex
    obtain ⟨z, h2, h3⟩ := atI_ok r1 h
    exact .inl ⟨p, xs, _, z, rfl, hy.cint R ey, .inl h1, h2, f.flat R h3⟩
  · obtain ⟨p, xs, rfl, h1, r1⟩ := hx.ctup R ex
    obtain ⟨z, h2, h3⟩ := atI_ok r1 h
    exact .inr (.inl ⟨p, xs, _, z, rfl, hy.cint R ey, .inl h1, h2, f.flat R h3⟩)
theorem sIx_eq (n d : Nat) (o : Option Int) : sIx n d o = HT.sIx n d o := by cases o <;> rfl
theorem cut_ok {xs : List V} {ds : List D} (r : Rps G xs ds) (lo hi : Option Int) : Rps G (cutV xs lo hi) (cut ds lo hi) := by
  unfold cutV cut
  rw [r.length, sIx_eq, sIx_eq]
  exact (r.drop _).take _
theorem cut_all {ds : List D} {lo hi : Option Int} (h : HT.sIx ds.length 0 lo = 0 ∧ HT.sIx ds.length ds.length hi = ds.length) : cut ds lo hi = ds := by
  unfold cut
  rw [sIx_eq, sIx_eq, h.1, h.2]
  simp
def rSl (K : PySem.W.Frag) : V → Option Int → Option Int → Hp → VK → Prop := fun x lo hi H Q => rSlL K x lo hi H Q ∨ rSlA K x lo hi H Q
theorem sl_any {X : Cx} : SlR X (rSl X.K) := SlR.or sl_list sl_tupA
theorem slice_ok {K : PySem.W.Frag} {v : SV} {x : V} {d : D} {lo hi : Option Int} {r : SV} {Q : VK} (R : Rel B S σ G H) (hx : RV B S σ G H0 H v x) (ex : cont S v = some d) (h : sliceD lo hi d = some r)
    (f : Fin B S σ G H Q r) : rSl K x lo hi H Q := by
  cases d <;> simp only [sliceD] at h <;> try cases h
  · obtain ⟨p, xs, rfl, h1, r1⟩ := hx.clist R ex
    exact .inl ⟨p, xs, rfl, .inl h1, f.lst R (cut_ok r1 lo hi)⟩
  · obtain ⟨p, xs, rfl, h1, r1⟩ := hx.ctup R ex
    refine .inr ⟨p, xs, rfl, .inl h1, fun e => ?_, fun _ => f.tup R (cut_ok r1 lo hi)⟩
    rw [r1.length] at e
    rw [cut_all e] at f
    cases v with
    | dat d => cases (Option.some.inj ex : d = _); exact f.flat R hx
    | own es => cases (Option.some.inj ex : PyData.list es = _)
    | bor i => obtain ⟨xs, _, e'⟩ := cont_bor ex; cases e'
    | exc c fs => cases ex
    | thk r c fs => cases ex
end
end Z

set_option maxHeartbeats 2000000
/-! Expressions: each form of the interpreter is a reading of the layer. -/
namespace Z
open PySem PySem.Spec PyProof.Rows L2
section
variable {X : Cx} {B : Bx} {W : WX} {c : Ctx} {S : Sl} {σ : Sg} {G H H0 H1 : Hp} {pos : Pos}
theorem PE.imp {e : Expr} {t t' : TE} (h : PE X e t) (i : ∀ σ H Q, t' σ H Q → t σ H Q) : PE X e t' := ⟨fun pins s σ H Q I q => h.run pins s σ H Q I (i σ H Q q)⟩
theorem PT.imp {e : Expr} {t t' : TT} (h : PT X e t) (i : ∀ σ H Q, t' σ H Q → t σ H Q) : PT X e t' := ⟨fun pins s σ H Q I q => h.run pins s σ H Q I (i σ H Q q)⟩
theorem PW.imp {e : Expr} {t t' : TT} (h : PW X e t) (i : ∀ σ H Q, t' σ H Q → t σ H Q) : PW X e t' := ⟨fun wh pins s σ H Q I q => h.run wh pins s σ H Q I (i σ H Q q)⟩
theorem PA.imp {e : List Expr} {t t' : TA} (h : PA X e t) (i : ∀ σ H Q, t' σ H Q → t σ H Q) : PA X e t' := ⟨fun p pins s σ H Q I q => h.run p pins s σ H Q I (i σ H Q q)⟩
theorem PE.bad {e : Expr} : PE X e (tE B W fun _ => .bad) := ⟨fun _ _ _ _ _ _ ⟨_, _, _, h⟩ => h.elim⟩
theorem PT.bad {e : Expr} : PT X e (tT B W fun _ => .bad) := ⟨fun _ _ _ _ _ _ ⟨_, _, _, h⟩ => h.elim⟩
theorem PW.bad {e : Expr} : PW X e (tT B W fun _ => .bad) := ⟨fun _ _ _ _ _ _ _ ⟨_, _, _, h⟩ => h.elim⟩
theorem PA.bad {e : List Expr} : PA X e (tA B W fun _ => .bad) := ⟨fun _ _ _ _ _ _ _ ⟨_, _, _, h⟩ => h.elim⟩

/-- the value of a constant of the module -/
def vD : D → Option V
  | .none => some .non
  | .bool b => some (.bl b)
  | .int i => some (.int i)
  | .str x => some (.str x)
  | _ => none
theorem vD_rp {d : D} {v : V} (h : vD d = some v) : Rp G v d := by
  cases d <;> simp only [vD] at h <;> try cases h
  · exact .non
  · exact .bl _
  · exact .int _
  · exact .str _
/-- what the context says of a body's names -/
structure Nm (X : Cx) (c : Ctx) (B : Bx) : Prop where
  N : X.N = c.N
  nd : X.N.Nodup
  sc : X.env.scope = c.sc
  mg : X.mg = B.mg
  calm : X.calm = true
  grd : X.A.guards = some []
  room : Room c.lvl X.A
  io : c.io = B.io.map (·.1)
  okN : ∀ x ∈ c.N, (x == ("__debug__" : Str)) = false ∧ (x == ("__classdict__" : Str)) = false
  okG : ∀ x g, c.G x = some g → (x == ("__debug__" : Str)) = false ∧ x ≠ "__name__"
  val : ∀ x d, c.G x = some (.val d) → ∃ v u, vD d = some v ∧ X.mg x = some u ∧ RelV v u
  bi : ∀ x, c.G x = some .bi → X.mg x = none
  fn : ∀ x, c.own x = true → X.fn x = true ∨ X.env.scope.names.lookup x = some .local
theorem lookup_idx : ∀ {N : List Str} {x : Str} {i : Nat}, N.findIdx? (· == x) = some i → N[i]? = some x
  | [], _, _, h => by simp at h
  | a :: N, x, i, h => by
    rw [List.findIdx?_cons] at h
    split at h
    · rename_i e
      cases h
      simp at e
      rw [e]; rfl
    · cases q : N.findIdx? (· == x) with
      | none => rw [q] at h; cases h
      | some j =>
        rw [q] at h
        cases h
        rw [List.getElem?_cons_succ]
        exact lookup_idx q
theorem vis_ok (k : X.env.scope = c.sc) {x : Str} (h : vis c x = true) : Vis X.env.scope x := by
  rw [k]
  unfold vis at h
  unfold Vis
  split at h
  · exact .inl (by assumption)
  · exact .inr (.inl (by assumption))
  · exact .inr (.inr (by assumption))
  · cases h
theorem loc_ok (k : X.env.scope = c.sc) {x : Str} (h : loc c x = true) : L2.Loc X.env.scope x := by
  rw [k]
  unfold loc at h
  unfold L2.Loc
  split at h
  · exact .inl (by assumption)
  · exact .inr (by assumption)
  · cases h
theorem glo_ok (k : X.env.scope = c.sc) {x : Str} (h : glo c x = true) : Gl X x := by
  unfold glo at h
  unfold Gl Env.kindOf
  rw [k]
  split at h
  · assumption
  · cases h
theorem isNm_ok {x : Str} {g : GV} (h : isNm c x = some g) : glo c x = true ∧ c.G x = some g := by
  unfold isNm at h
  split at h
  · rename_i e
    rw [Bool.and_eq_true] at e
    exact ⟨e.1, h⟩
  · cases h

/-! ### names and constants -/
theorem e_var (k : Nm X c B) {x : Str} {i : Nat} (h : ix c x = some i) (hv : vis c x = true) : PE X (.Name x pos) (tE B W fun S => match S[i]? with
    | some (some (.own _)) => .ok (.bor i) S
    | some (some v) => .ok v S
    | _ => .bad) := by
  have hi : X.N[i]? = some x := by rw [k.N]; exact lookup_idx h
  have hm : x ∈ c.N := by rw [← k.N]; exact List.mem_of_getElem? hi
  refine PE.imp (pe_var hi (vis_ok k.sc hv) (k.okN x hm).1 (k.okN x hm).2) fun σ H Q ⟨S, G, R, q⟩ => ?_
  dsimp only at q
  split at q
  · rename_i xs e
    obtain ⟨y, h1, h2⟩ := R.at_ i _ e
    exact ⟨y, h1, q y G H R Stp.refl h1⟩
  · rename_i v n e
    obtain ⟨y, h1, h2⟩ := R.at_ i v e
    refine ⟨y, h1, q y G H R Stp.refl ?_⟩
    cases v with
    | own xs => exact absurd rfl (n xs)
    | bor j => exact h2.elim
    | dat d => exact h2
    | exc k fs => exact h2
    | thk r k fs => exact h2
  · exact q.elim
theorem e_val (k : Nm X c B) {x : Str} {d : D} (h : isNm c x = some (.val d)) : PE X (.Name x pos) (tE B W fun S => .ok (.dat d) S) := by
  obtain ⟨hg, hG⟩ := isNm_ok h
  obtain ⟨v, u, h1, h2, h3⟩ := k.val x d hG
  exact PE.imp (pe_glob (glo_ok k.sc hg) h2 h3 (k.okG x _ hG).1) fun σ H Q ⟨S, G, R, q⟩ => q v G H R Stp.refl (vD_rp h1)
theorem e_c {d : D} {v : V} {e : Expr} (he : PE X e (tC v)) (h : vD d = some v) : PE X e (tE B W fun S => .ok (.dat d) S) :=
  PE.imp he fun σ H Q ⟨S, G, R, q⟩ => q v G H R Stp.refl (vD_rp h)

/-! ### operators -/
variable {a b d : Expr} {f g h' : Sl → O SV}
theorem Fin.of {Q : VK} {r : SV} {S0 : Sl} {G0 : Hp} (s : Stp S0 σ G0 H0 S G H) (q : ∀ z G' H', Rel B S σ G' H' → Stp S0 σ G0 H0 S G' H' → RV B S σ G' H0 H' r z → Q z H') : Fin B S σ G H Q r :=
  fun z G' H' R' s' v' => q z G' H' R' (s.tr s') (v'.back s.dom)
theorem e_bin (ha : PE X a (tE B W f)) (hb : PE X b (tE B W g)) {op : Operator} : PE X (.BinOp a op b pos) (tE B W fun S => (f S).bind fun x S1 => (g S1).bind fun y S2 => match cont2 S2 x, cont S2 y with
    | some d, some e => O.of (binD op d e) S2
    | _, _ => .bad) := by
  refine PE.imp (pe_op (op_bin op) ha hb) fun σ H Q ⟨S, G, R, q⟩ => ?_
  refine tE.then R q fun x S1 v G1 H1 R1 s1 v1 q1 => tE.then R1 q1 fun y S2 u G2 H2 R2 s2 v2 q2 => ?_
  split at q2
  · rename_i d e e1 e2
    obtain ⟨r, e3, q3⟩ := K1.of q2
    obtain ⟨x', v1', e1'⟩ := RV.fix R2 (v1.step s2) e1
    exact bin_ok R2 v1' v2 e1' e2 e3 (Fin.of (s1.tr s2) q3)
  · exact q2.elim
theorem e_un (ha : PE X a (tE B W f)) {op : UnaryOp} : PE X (.UnaryOp op a pos) (tE B W fun S => if unOk op then (f S).bind fun x S1 => match cont S1 x with
    | some d => O.of ((unD op d).map .dat) S1
    | none => .bad
    else .bad) := by
  cases op with
  | USub =>
    refine PE.imp (pe_un un_neg ha) fun σ H Q ⟨S, G, R, q⟩ => tE.then R q fun x S1 v G1 H1 R1 s1 v1 q1 => ?_
    split at q1
    · rename_i d e
      obtain ⟨r, e3, q3⟩ := K1.of q1
      cases d <;> simp only [unD, Option.map] at e3 <;> try cases e3
      exact ⟨_, v1.cint R1 e, q3 _ G1 H1 R1 s1 (.int _)⟩
    · exact q1.elim
  | Not =>
    refine PE.imp (pe_notT ha) fun σ H Q ⟨S, G, R, q⟩ => tE.then R q fun x S1 v G1 H1 R1 s1 v1 q1 => ?_
    split at q1
    · rename_i d e
      obtain ⟨r, e3, q3⟩ := K1.of q1
      simp only [unD] at e3
      cases q : truth d with
      | none => rw [q] at e3; cases e3
      | some b =>
        rw [q] at e3
        cases e3
        exact ⟨b, truth_ok (v1.rp R1 e) q, q3 _ G1 H1 R1 s1 (.bl _)⟩
    · exact q1.elim
  | Invert => exact PE.bad
  | UAdd => exact PE.bad
/-! ### comparisons, tests -/
variable {tf tg : Sl → O Bool}
theorem cm {op : CmpOp} (h : plainOp op = true) : behindInMarks op b = false := by
  cases op <;> first | exact nomark _ | cases h
theorem cmC {op : CmpOp} (h : plainC op b = true) : behindInMarks op b = false := by
  unfold plainC at h
  split at h
  · cases h
  · cases h
  · rename_i h1 h2
    cases op <;> first | exact nomark _ | (cases b <;> first | rfl | exact absurd rfl (h1 _ _ _ rfl) | exact absurd rfl (h2 _ _ _ rfl))
theorem e_cmp (hu : X.A.units + 64 < cLine) (ha : PE X a (tE B W f)) (hb : PE X b (tE B W g)) {op : CmpOp} (ho : plainC op b = true) : PE X (.Compare a [op] [b] pos) (tE B W fun S => (f S).bind fun x S1 => (g S1).bind fun y S2 =>
    O.of ((cmpV S2 op x y).map fun b => .dat (.bool b)) S2) := by
  refine PE.imp (pe_cmpR (op_cmp hu op) ha hb (cmC ho)) fun σ H Q ⟨S, G, R, q⟩ => ?_
  refine tE.then R q fun x S1 v G1 H1 R1 s1 v1 q1 => tE.then R1 q1 fun y S2 u G2 H2 R2 s2 v2 q2 => ?_
  obtain ⟨r, e3, q3⟩ := K1.of q2
  cases e : cmpV S2 op x y with
  | none => rw [e] at e3; cases e3
  | some k =>
    rw [e] at e3
    cases e3
    exact cmp_ok R2 (v1.step s2) v2 e (q3 _ G2 H2 R2 (s1.tr s2) (.bl k))
theorem t_cmp (hu : X.A.units + 64 < cLine) (ha : PE X a (tE B W f)) (hb : PE X b (tE B W g)) {op : CmpOp} (ho : plainC op b = true) : PT X (.Compare a [op] [b] pos) (tT B W fun S => (f S).bind fun x S1 => (g S1).bind fun y S2 => O.of (cmpV S2 op x y) S2) := by
  refine PT.imp (pt_cmpR (op_cmp hu op) ha hb (cmC ho)) fun σ H Q ⟨S, G, R, q⟩ => ?_
  refine tE.then R q fun x S1 v G1 H1 R1 s1 v1 q1 => tE.then R1 q1 fun y S2 u G2 H2 R2 s2 v2 q2 => ?_
  obtain ⟨r, e3, q3⟩ := K1.of q2
  exact cmp_ok R2 (v1.step s2) v2 e3 ⟨r, rfl, q3 G2 H2 R2 (s1.tr s2)⟩
theorem lm {op op' : CmpOp} (h : plainOp op = true) (h' : plainOp op' = true) {x y : Expr} : lastMarks [op, op'] [x, y] = false := by
  cases op' <;> first | (cases h'; done) | exact cm (b := y) rfl
theorem e_chain (hu : X.A.units + 64 < cLine) (ha : PE X a (tE B W f)) (hb : PE X b (tE B W g)) (hd : PE X d (tE B W h')) {op op2 : CmpOp} (ho : plainOp op = true) (ho2 : plainOp op2 = true) :
    PE X (.Compare a [op, op2] [b, d] pos) (tE B W fun S => (f S).bind fun x S1 => (g S1).bind fun y S2 => match cmpV S2 op x y with
        | some true => (h' S2).bind fun z S3 => O.of ((cmpV S3 op2 y z).map fun b => .dat (.bool b)) S3
        | some false => .ok (.dat (.bool false)) S2
        | none => .bad) := by
  refine PE.imp (pe_chain (op_cmp hu op) (op_cmp hu op2) ha hb hd (lm ho ho2)) fun σ H Q ⟨S, G, R, q⟩ => ?_
  refine tE.then R q fun x S1 v G1 H1 R1 s1 v1 q1 => tE.then R1 q1 fun y S2 u G2 H2 R2 s2 v2 q2 => ?_
  split at q2
  · rename_i e
    refine cmp_ok R2 (v1.step s2) v2 e ⟨true, rfl, ?_⟩
    rw [if_pos rfl]
    refine tE.then R2 q2 fun z S3 w G3 H3 R3 s3 v3 q3 => ?_
    obtain ⟨r, e3, q4⟩ := K1.of q3
    cases e' : cmpV S3 op2 y z with
    | none => rw [e'] at e3; cases e3
    | some k =>
      rw [e'] at e3
      cases e3
      exact cmp_ok R3 (v2.step s3) v3 e' (q4 _ G3 H3 R3 ((s1.tr s2).tr s3) (.bl k))
  · rename_i e
    refine cmp_ok R2 (v1.step s2) v2 e ⟨false, rfl, ?_⟩
    rw [if_neg (by decide)]
    exact q2 _ G2 H2 R2 (s1.tr s2) (.bl _)
  · exact q2.elim
theorem t_chain (hu : X.A.units + 64 < cLine) (ha : PE X a (tE B W f)) (hb : PE X b (tE B W g)) (hd : PE X d (tE B W h')) {op op2 : CmpOp} (ho : plainOp op = true) (ho2 : plainOp op2 = true) :
    PT X (.Compare a [op, op2] [b, d] pos) (tT B W fun S => (f S).bind fun x S1 => (g S1).bind fun y S2 => match cmpV S2 op x y with
        | some true => (h' S2).bind fun z S3 => O.of (cmpV S3 op2 y z) S3
        | some false => .ok false S2
        | none => .bad) := by
  refine PT.imp (pt_chain (op_cmp hu op) (op_cmp hu op2) ha hb hd (lm ho ho2)) fun σ H Q ⟨S, G, R, q⟩ => ?_
  refine tE.then R q fun x S1 v G1 H1 R1 s1 v1 q1 => tE.then R1 q1 fun y S2 u G2 H2 R2 s2 v2 q2 => ?_
  split at q2
  · rename_i e
    refine cmp_ok R2 (v1.step s2) v2 e ⟨true, rfl, ?_⟩
    rw [if_pos rfl]
    refine tE.then R2 q2 fun z S3 w G3 H3 R3 s3 v3 q3 => ?_
    obtain ⟨r, e3, q4⟩ := K1.of q3
    exact cmp_ok R3 (v2.step s3) v3 e3 ⟨r, rfl, q4 G3 H3 R3 ((s1.tr s2).tr s3)⟩
  · rename_i e
    refine cmp_ok R2 (v1.step s2) v2 e ⟨false, rfl, ?_⟩
    rw [if_neg (by decide)]
    exact ⟨false, rfl, q2 G2 H2 R2 (s1.tr s2)⟩
  · exact q2.elim
theorem t_truth (ha : PE X a (tE B W f)) (hp : plainTest a = true) : PT X a (tT B W fun S => (f S).bind fun x S1 => O.of ((cont S1 x).bind truth) S1) := by
  refine PT.imp (pt_truth ha (by cases a <;> first | exact fun _ => rfl | (cases hp; done))) fun σ H Q ⟨S, G, R, q⟩ => tE.then R q fun x S1 v G1 H1 R1 s1 v1 q1 => ?_
  obtain ⟨r, e3, q3⟩ := K1.of q1
  cases e : cont S1 x with
  | none => rw [e] at e3; cases e3
  | some d =>
    rw [e] at e3
    exact ⟨r, truth_ok (v1.rp R1 e) e3, q3 G1 H1 R1 s1⟩
theorem t_not (ha : PT X a (tT B W tf)) : PT X (.UnaryOp .Not a pos) (tT B W fun S => (tf S).bind fun b S1 => .ok (!b) S1) :=
  PT.imp (pt_not ha) fun σ H Q ⟨S, G, R, q⟩ => tT.then R q fun b S1 G1 H1 R1 s1 q1 => q1 G1 H1 R1 s1
theorem e_if (ht : PT X d (tT B W tf)) (ha : PE X a (tE B W f)) (hb : PE X b (tE B W g)) : PE X (.IfExp d a b pos) (tE B W fun S => (tf S).bind fun k S1 => if k then f S1 else g S1) := by
  refine PE.imp (pe_ifExp ht ha hb) fun σ H Q ⟨S, G, R, q⟩ => tT.then R q fun k S1 G1 H1 R1 s1 q1 => ?_
  cases k with
  | true =>
    rw [if_pos rfl] at q1 ⊢
    exact ⟨S1, G1, R1, by
      cases e : f S1 with
      | ok r S2 => rw [e] at q1; exact fun x G2 H2 R2 s2 v2 => q1 x G2 H2 R2 (s1.tr s2) (v2.back s1.dom)
      | exc c fs S2 => rw [e] at q1; exact q1
      | bad => rw [e] at q1; exact q1⟩
  | false =>
    rw [if_neg (by decide)] at q1 ⊢
    exact ⟨S1, G1, R1, by
      cases e : g S1 with
      | ok r S2 => rw [e] at q1; exact fun x G2 H2 R2 s2 v2 => q1 x G2 H2 R2 (s1.tr s2) (v2.back s1.dom)
      | exc c fs S2 => rw [e] at q1; exact q1
      | bad => rw [e] at q1; exact q1⟩
end
end Z

set_option maxHeartbeats 2000000
/-! Values that become data; argument lists; displays; subscripts; built-ins. -/
namespace Z
open PySem PySem.Spec PyProof.Rows L2
section
variable {X : Cx} {B : Bx} {W : WX} {c : Ctx} {S S0 S' : Sl} {σ : Sg} {G G0 H H0 H1 : Hp} {pos : Pos}
theorem nt_lst {xs : List V} : NoT (.lst xs) := fun _ z => by cases z
theorem nt_tup {xs : List V} : NoT (.tup xs) := fun _ z => by cases z
theorem put_get {S : Sl} {i j : Nat} {v : SV} : (put S i v)[j]? = if i = j then (if j < S.length then some (some v) else none) else S[j]? := by
  unfold put
  rw [List.getElem?_set]
  split
  · rename_i e; subst e; rfl
  · rfl
theorem ow_put {S : Sl} {i : Nat} {d : D} {a : Addr} (h : Ow (put S i (.dat d)) σ a) : Ow S σ a := by
  obtain ⟨j, xs, h1, h2⟩ := h
  rw [put_get] at h1
  split at h1
  · split at h1 <;> cases h1
  · exact ⟨j, xs, h1, h2⟩
/-- slot i's list becomes data -/
theorem Rel.frz (R : Rel B S σ G H) {i : Nat} {ds : List D} (h : S[i]? = some (some (.own ds))) : ∃ p xs, σ[i]? = some (some (.ref p)) ∧ H p = some (.lst xs) ∧ G p = none ∧
    Rel B (put S i (.dat (.list ds))) σ (upd G p (.lst xs)) H ∧ Rp (upd G p (.lst xs)) (.ref p) (.list ds) := by
  obtain ⟨x, h1, p, xs, rfl, h2, h3, h4, h5⟩ := R.at_ i _ h
  have eg := Ex.new (o := HO.lst xs) h2
  have rp : Rp (upd G p (.lst xs)) (.ref p) (.list ds) := .lst (.inl upd_same) (h5.mono eg)
  refine ⟨p, xs, h1, h4, h2, ⟨by unfold put; rw [List.length_set]; exact R.len, ?_, R.bas, R.bt, gt_upd R.gt nt_lst, R.tab, fun j v e => ?_, fun j l q ys zs e1 e2 e3 e4 => ?_, R.io, R.gx.tr eg, fun a o e => (gn_upd h3 a o e).elim (R.gn a o) .inr, R.dm⟩, rp⟩
  · intro a u e
    by_cases z : a = p
    · subst z; rw [upd_same] at e; cases e; exact h4
    · rw [upd_ne z] at e; exact R.sub _ _ e
  · rw [put_get] at e
    split at e
    · rename_i ij
      subst ij
      split at e
      · cases e
        exact ⟨_, h1, rp⟩
      · cases e
    · rename_i ij
      obtain ⟨y, e1, e2⟩ := R.at_ j v e
      refine ⟨y, e1, At.mono e2 eg fun a ys q1 q2 => ?_⟩
      subst q1 q2
      obtain ⟨p', ys', q3, q4, _⟩ := e2
      cases q3
      have ne : a ≠ p := fun z => by
        subst z
        exact ij (R.inj i j a _ _ h e h1 e1)
      rw [upd_ne ne]
      exact ⟨q4, rfl⟩
  · rw [put_get] at e1 e2
    split at e1
    · split at e1 <;> cases e1
    · split at e2
      · split at e2 <;> cases e2
      · exact R.inj j l q ys zs e1 e2 e3 e4
/-- the values beside: what a settled one leaves of them -/
structure Beside (S S' : Sl) (σ : Sg) (G G' : Hp) (v : SV) (x : V) : Prop where
  ext : Ex G G'
  own : ∀ a, Ow S' σ a → Ow S σ a
  new : ∀ a, G a = none → G' a ≠ none → Ow S σ a ∨ (x = .ref a ∧ ∃ ds, v = .own ds)
theorem RV.beside {v w : SV} {x y : V} (h : RV B S σ G H0 H w y) (b : Beside S S' σ G G0 v x) (n : ∀ ds es, v = .own ds → w = .own es → y ≠ x) : RV B S' σ G0 H0 H w y := by
  cases w with
  | dat d => exact Rp.mono b.ext h
  | bor i => exact h
  | own ds =>
    obtain ⟨p, xs, e, h1, h2, h3, h4, h5⟩ := h
    refine ⟨p, xs, e, h1, fun z => h2 (b.own p z), ?_, h4, h5.mono b.ext⟩
    cases q : G0 p with
    | none => rfl
    | some u =>
      rcases b.new p h3 (by rw [q]; simp) with z | ⟨z, es, z2⟩
      · exact absurd z h2
      · exact absurd (e.trans z.symm) (n es ds z2 rfl)
  | exc k fs => exact ExcAt.mono b.ext h
  | thk r k fs => exact h
theorem settle_ok {v : SV} {x : V} {d : D} {G00 : Hp} (R0 : Rel B S0 σ G00 H0) (s : Stp S0 σ G00 H0 S G H) (R : Rel B S σ G H) (h : RV B S σ G H0 H v x) (e : settle S v = .ok d S') :
    ∃ G', Rel B S' σ G' H ∧ Stp S0 σ G00 H0 S' G' H ∧ Rp G' x d ∧ Beside S S' σ G G' v x := by
  cases v with
  | dat d' =>
    cases e
    exact ⟨G, R, s, h, Ex.refl, fun _ z => z, fun a h1 h2 => absurd h1 h2⟩
  | own ds =>
    cases e
    obtain ⟨p, xs, rfl, h1, h2, h3, h4, h5⟩ := h
    refine ⟨upd G p (.lst xs), R.settle h4 h3 h2 nt_lst (R0.bnone h1), ⟨s.ext.tr (Ex.new h3), s.keep, fun a o q => ?_, s.own, s.dom⟩, .lst (.inl upd_same) (h5.mono (Ex.new h3)), Ex.new h3, fun _ z => z, fun a q1 q2 => ?_⟩
    · by_cases z : a = p
      · subst z; exact .inr (.inl h1)
      · rw [upd_ne z] at q; exact s.new a o q
    · by_cases z : a = p
      · subst z; exact .inr ⟨rfl, _, rfl⟩
      · rw [upd_ne z] at q2; exact absurd q1 q2
  | bor i =>
    simp only [settle] at e
    split at e
    · rename_i xs q
      cases e
      obtain ⟨p, ys, h1, h2, h3, R', rp⟩ := R.frz q
      have hx : σ[i]? = some (some x) := h
      rw [h1] at hx
      cases hx
      have wp : Ow S σ p := ⟨i, xs, q, h1⟩
      refine ⟨_, R', ⟨s.ext.tr (Ex.new h3), s.keep, fun a o q' => ?_, fun a z => s.own a (ow_put z), s.dom⟩, rp, Ex.new h3, fun a z => ow_put z, fun a q1 q2 => ?_⟩
      · by_cases z : a = p
        · subst z; exact .inr (.inr (s.own _ wp))
        · rw [upd_ne z] at q'; exact s.new a o q'
      · by_cases z : a = p
        · subst z; exact .inl wp
        · rw [upd_ne z] at q2; exact absurd q1 q2
    · cases e
  | exc k fs => cases e
  | thk r k fs => cases e
theorem O.bind_ok {α β : Type} {o : O α} {k : α → Sl → O β} {b : β} {S' : Sl} (h : o.bind k = .ok b S') : ∃ a S1, o = .ok a S1 ∧ k a S1 = .ok b S' := by
  cases o with
  | ok a S1 => exact ⟨a, S1, rfl, h⟩
  | exc c fs S1 => cases h
  | bad => cases h
theorem RVs.beside {v : SV} {x : V} : ∀ {ws : List SV} {ys : List V}, RVs B S σ G H0 H ws ys → Beside S S' σ G G0 v x → (∀ ds es w y, v = .own ds → w = .own es → (w, y) ∈ ws.zip ys → y ≠ x) → RVs B S' σ G0 H0 H ws ys
  | _, _, .nil, _, _ => .nil
  | _, _, .cons a r dj, b, n => .cons (a.beside b fun ds es e1 e2 => n ds es _ _ e1 e2 List.mem_cons_self) (RVs.beside r b fun ds es w y e1 e2 m => n ds es w y e1 e2 (List.mem_cons_of_mem _ m)) dj
theorem settleAll_ok {G00 : Hp} (R0 : Rel B S0 σ G00 H0) : ∀ {vs : List SV} {xs : List V} {ds : List D} {S S' : Sl} {G : Hp}, Stp S0 σ G00 H0 S G H → Rel B S σ G H → RVs B S σ G H0 H vs xs → settleAll vs S = .ok ds S' →
    ∃ G', Rel B S' σ G' H ∧ Stp S0 σ G00 H0 S' G' H ∧ Rps G' xs ds ∧ Ex G G'
  | _, _, _, _, _, _, s, R, .nil, e => by cases e; exact ⟨_, R, s, .nil, Ex.refl⟩
  | _, _, _, _, _, _, s, R, .cons a r dj, e => by
    unfold settleAll at e
    obtain ⟨d, S1, e1, e⟩ := O.bind_ok e
    obtain ⟨ds, S2, e2, e⟩ := O.bind_ok e
    cases e
    obtain ⟨G1, R1, s1, rp, b⟩ := settle_ok R0 s R a e1
    obtain ⟨G2, R2, s2, rps, eg⟩ := settleAll_ok R0 s1 R1 (r.beside b dj) e2
    exact ⟨G2, R2, s2, .cons (rp.mono eg) rps, b.ext.tr eg⟩
theorem settle_nox {v : SV} {k : Str} {fs : Fs} {S1 : Sl} : settle S v ≠ .exc k fs S1 := by
  cases v <;> simp only [settle] <;> try (intro h; cases h; done)
  split <;> (intro h; cases h)
theorem settleAll_nox {k : Str} {fs : Fs} {S1 : Sl} : ∀ {vs : List SV} {S : Sl}, settleAll vs S ≠ .exc k fs S1
  | [], S => by intro h; cases h
  | v :: vs, S => by
    unfold settleAll
    intro h
    cases e : settle S v with
    | exc k fs S1 => exact settle_nox e
    | bad => rw [e] at h; cases h
    | ok d S2 =>
      rw [e] at h
      have h : (settleAll vs S2).bind (fun ds S2 => O.ok (d :: ds) S2) = _ := h
      cases e2 : settleAll vs S2 with
      | exc k fs S1 => exact settleAll_nox e2
      | bad => rw [e2] at h; cases h
      | ok ds S3 => rw [e2] at h; cases h
theorem K1.settle {α : Type} {v : SV} {k : D → Sl → O α} {Φ : α → Sl → Prop} (h : K1 B W σ G ((Z.settle S v).bind k) Φ) : ∃ d S', Z.settle S v = .ok d S' ∧ K1 B W σ G (k d S') Φ := by
  cases e : Z.settle S v with
  | ok d S' => rw [e] at h; exact ⟨d, S', rfl, h⟩
  | exc c fs S' => exact absurd e settle_nox
  | bad => rw [e] at h; exact h.elim
theorem K1.settleAll {α : Type} {v : List SV} {k : List D → Sl → O α} {Φ : α → Sl → Prop} (h : K1 B W σ G ((Z.settleAll v S).bind k) Φ) : ∃ d S', Z.settleAll v S = .ok d S' ∧ K1 B W σ G (k d S') Φ := by
  cases e : Z.settleAll v S with
  | ok d S' => rw [e] at h; exact ⟨d, S', rfl, h⟩
  | exc c fs S' => exact absurd e settleAll_nox
  | bad => rw [e] at h; exact h.elim
theorem RVs.length {vs : List SV} {xs : List V} (h : RVs B S σ G H0 H vs xs) : vs.length = xs.length := by
  induction h with
  | nil => rfl
  | cons _ _ _ ih => rw [List.length_cons, List.length_cons, ih]
theorem RVs.fresh {vs : List SV} {xs : List V} (h : RVs B S σ G H0 H vs xs) {w : SV} {y : V} {es : List D} (e : w = .own es) (m : (w, y) ∈ vs.zip xs) : ∃ q, y = .ref q ∧ H0 q = none := by
  induction h with
  | nil => cases m
  | cons a r dj ih =>
    rcases List.mem_cons.mp m with z | z
    · cases z
      subst e
      obtain ⟨p, xs, h1, h2, _⟩ := a
      exact ⟨p, h1, h2⟩
    · exact ih z

/-! ### argument lists -/
variable {a b d e : Expr} {es : List Expr} {f g h' : Sl → O SV} {ga : Sl → O (List SV)}
theorem star_one (h : noStar (e :: es) = true) {env : PySem.Env} : starEach (e :: es) env = (false, eval e env) :: starEach es env := by
  cases e <;> first | rfl | (cases h; done)
theorem star_tail (h : noStar (e :: es) = true) : noStar es = true := by
  cases e <;> first | exact h | (cases h; done)
theorem star_any {p : Pos} {env : PySem.Env} : ∀ {es : List Expr}, noStar es = true → (backTo p (starEach es env)).any (·.1) = false
  | [], _ => rfl
  | e :: es, h => by
    rw [star_one h]
    show (false || (backTo p (starEach es env)).any (·.1)) = false
    rw [star_any (star_tail h)]; rfl
theorem a_nil : PA X [] (tA B W fun S => .ok [] S) := PA.imp pa_nil fun σ H Q ⟨S, G, R, q⟩ => q [] G H R Stp.refl .nil
theorem star_head {e : Expr} {es : List Expr} (h : noStar [e] = true) {env : PySem.Env} : starEach (e :: es) env = (false, eval e env) :: starEach es env := by
  cases e <;> first | rfl | cases h
theorem a_cons (hs : noStar [e] = true) (he : PE X e (tE B W f)) (hr : PA X es (tA B W ga)) : PA X (e :: es) (tA B W fun S => (f S).bind fun x S1 => (ga S1).bind fun xs S2 => .ok (x :: xs) S2) := by
  refine PA.imp (pa_cons he hr (star_head hs)) fun σ H Q ⟨S, G, R, q⟩ => tE.then R q fun x S1 v G1 H1 R1 s1 v1 q1 => tA.then R1 q1 fun xs S2 us G2 H2 R2 s2 v2 q2 => ?_
  refine q2 _ G2 H2 R2 (s1.tr s2) (.cons (v1.step s2) (v2.back s1.dom) fun ds es w y e1 e2 m => ?_)
  obtain ⟨r, rfl, h1⟩ := v2.fresh e2 m
  subst e1
  obtain ⟨p, xs, rfl, _, _, _, h2, _⟩ := v1
  exact fun z => by cases z; rw [h1] at h2; cases h2

theorem rps_rvs {H00 : Hp} : ∀ {xs : List V} {ds : List D} {vs : List V} {svs : List SV}, Rps G xs ds → RVs B S σ G H00 H svs vs → RVs B S σ G H00 H (ds.map SV.dat ++ svs) (xs ++ vs)
  | _, _, _, _, .nil, r => r
  | _, _, _, _, .cons a t, r => .cons a (rps_rvs t r) fun _ _ _ _ e _ _ => by cases e
theorem star_seqV {K : PySem.W.Frag} {v : SV} {x : V} {ds : List D} (R : Rel B S σ G H) (h : RV B S σ G H0 H v x) (e : (cont S v).bind itemsOf = some ds) : ∃ p xs, x = .ref p ∧ (SqT K H p xs ∨ SqL K H p xs) ∧ Rps G xs ds := by
  cases e1 : cont S v with
  | none => rw [e1] at e; cases e
  | some d =>
    rw [e1] at e
    have e : itemsOf d = some ds := e
    cases d <;> simp only [itemsOf] at e <;> cases e
    · obtain ⟨p, xs, h1, h2, h3⟩ := h.clist R e1
      exact ⟨p, xs, h1, .inr (Rd.sql h2), h3⟩
    · obtain ⟨p, xs, h1, h2, h3⟩ := h.ctup R e1
      exact ⟨p, xs, h1, .inl (Rd.sqt h2), h3⟩
theorem a_star {p : Pos} (he : PE X e (tE B W f)) (hr : PA X es (tA B W ga)) : PA X (.Starred e p :: es) (tA B W fun S => (f S).bind fun x S1 => stA x S1 (ga S1)) := by
  refine PA.imp (StX.pa_star he hr rfl) fun σ H Q ⟨S, G, R, q⟩ => tE.then R q fun x S1 v G1 H1 R1 s1 v1 q1 => ?_
  unfold stA at q1
  cases e1 : (cont S1 x).bind itemsOf with
  | none => rw [e1] at q1; exact q1.elim
  | some ds =>
    rw [e1] at q1
    obtain ⟨pp, xs, rfl, hs, hp⟩ := star_seqV (K := X.K) R1 v1 e1
    refine ⟨pp, xs, rfl, hs, tA.then R1 q1 fun ys S2 us G2 H2 R2 s2 v2 q2 => ?_⟩
    exact q2 _ G2 H2 R2 (s1.tr s2) (rps_rvs (hp.mono s2.ext) (v2.back s1.dom))

/-! ### displays -/
theorem e_tup (ha : PA X es (tA B W ga)) {k : Nat} : PE X (.Tuple es k pos) (tE B W fun S => (ga S).bind fun vs S1 => (settleAll vs S1).bind fun ds S2 => tupO ds S2) := by
  refine PE.imp (pe_tup ha) fun σ H Q ⟨S, G, R, q⟩ => tA.then R q fun vs S1 xs G1 H1 R1 s1 v1 q1 => ?_
  obtain ⟨ds, S2, e, q2⟩ := q1.settleAll
  obtain ⟨G2, R2, s2, rp, eg⟩ := settleAll_ok R s1 R1 v1 e
  unfold tupO at q2
  split at q2
  · rename_i hz
    refine ⟨by rw [rp.length]; exact hz, fun p hp => ?_⟩
    exact q2 _ _ _ (R2.lay hp nt_tup) (s2.tr (Stp.lay (R2.gnone hp) hp)) (.tup (.inl upd_same) (rp.mono (Ex.new (R2.gnone hp))))
  · exact q2.elim
theorem e_lst (ha : PA X es (tA B W ga)) : PE X (.List es pos) (tE B W fun S => (ga S).bind fun vs S1 => (settleAll vs S1).bind fun ds S2 => lstO ds S2) := by
  refine PE.imp (pe_lst ha) fun σ H Q ⟨S, G, R, q⟩ => tA.then R q fun vs S1 xs G1 H1 R1 s1 v1 q1 => ?_
  obtain ⟨ds, S2, e, q2⟩ := q1.settleAll
  obtain ⟨G2, R2, s2, rp, eg⟩ := settleAll_ok R s1 R1 v1 e
  unfold lstO at q2
  split at q2
  · rename_i hz
    refine ⟨by rw [rp.length]; exact hz, fun p hp => ?_⟩
    refine q2 _ _ _ (R2.fresh hp) (s2.tr (Stp.fresh hp)) ⟨p, xs, rfl, ?_, R2.now hp, R2.gnone hp, upd_same, rp⟩
    cases z : H p with
    | none => rfl
    | some u => exact absurd hp (s2.dom p (by rw [z]; simp))
  · exact q2.elim
theorem e_dict : PE X (.Dict [] [] pos) (tE B W fun S => .ok (.dat (.dict [])) S) := by
  refine PE.imp pe_dnewK fun σ H Q ⟨S, G, R, q⟩ => fun d hd => ?_
  exact q _ _ _ (R.lay hd fun _ z => by cases z) (Stp.lay (R.gnone hd) hd) (.dic upd_same)

/-! ### subscripts -/
theorem plain_ix (h : plainIx b = true) : PlainIx b := by
  cases b <;> first | exact fun _ _ => rfl | (cases h; done)
theorem e_ix (hp : plainIx b = true) (ha : PE X a (tE B W f)) (hb : PE X b (tE B W g)) : PE X (.Subscript a b pos) (tE B W fun S => (f S).bind fun x S1 => (g S1).bind fun y S2 => match cont S2 x, cont S2 y with
    | some d, some k => O.of ((ixD d k).map .dat) S2
    | _, _ => .bad) := by
  refine PE.imp (pe_ix ix_seq ha hb (plain_ix hp)) fun σ H Q ⟨S, G, R, q⟩ => ?_
  refine tE.then R q fun x S1 v G1 H1 R1 s1 v1 q1 => tE.then R1 q1 fun y S2 u G2 H2 R2 s2 v2 q2 => ?_
  split at q2
  · rename_i d e e1 e2
    obtain ⟨r, e3, q3⟩ := K1.of q2
    cases e4 : ixD d e with
    | none => rw [e4] at e3; cases e3
    | some z =>
      rw [e4] at e3
      cases e3
      exact ix_ok R2 (v1.step s2) v2 e1 e2 e4 (Fin.of (s1.tr s2) q3)
  · exact q2.elim
def tOI (B : Bx) (W : WX) (f : Sl → O (Option Int)) : TO := fun σ H Q => ∃ S G, Rel B S σ G H ∧ K1 B W σ G (f S) fun r S' => ∀ G' H', Rel B S' σ G' H' → Stp S σ G H S' G' H' → Q r H'
theorem tOI.then {β : Type} {f : Sl → O (Option Int)} {k : Option Int → Sl → O β} {Φ : β → Sl → Prop} {Q : Option Int → Hp → Prop} (R : Rel B S σ G H) (h : K1 B W σ G ((f S).bind k) Φ)
    (q : ∀ r S1 G1 H1, Rel B S1 σ G1 H1 → Stp S σ G H S1 G1 H1 → K1 B W σ G1 (k r S1) Φ → Q r H1) : tOI B W f σ H Q := by
  refine ⟨S, G, R, ?_⟩
  have h' := h.bind
  cases e : f S with
  | ok r S1 =>
    rw [e] at h'
    exact fun G1 H1 R1 s1 => q r S1 G1 H1 R1 s1 (K1.ext h' s1.ext)
  | exc c fs S1 => rw [e] at h'; exact h'
  | bad => rw [e] at h'; exact h'
theorem PO.imp {e : Option Expr} {t t' : TO} (h : PO X e t) (i : ∀ σ H Q, t' σ H Q → t σ H Q) : PO X e t' := ⟨fun pins s σ H Q I q => h.run pins s σ H Q I (i σ H Q q)⟩
theorem o_none : PO X none (tOI B W fun S => .ok none S) := PO.imp po_none fun σ H Q ⟨S, G, R, q⟩ => q G H R Stp.refl
theorem o_some (ha : PE X a (tE B W f)) : PO X (some a) (tOI B W fun S => (f S).bind fun x S1 => match cont S1 x with
    | some (.int i) => .ok (some i) S1
    | _ => .bad) := by
  refine PO.imp (po_some ha) fun σ H Q ⟨S, G, R, q⟩ => tE.then R q fun x S1 v G1 H1 R1 s1 v1 q1 => ?_
  split at q1
  · rename_i i e
    exact ⟨i, v1.cint R1 e, q1 G1 H1 R1 s1⟩
  · exact q1.elim
theorem e_slice {lo hi : Option Expr} {fl fh : Sl → O (Option Int)} {p2 : Pos} (ha : PE X a (tE B W f)) (hl : PO X lo (tOI B W fl)) (hh : PO X hi (tOI B W fh)) : PE X (.Subscript a (.Slice lo hi none p2) pos)
    (tE B W fun S => (f S).bind fun x S1 => (fl S1).bind fun l S2 => (fh S2).bind fun h S3 => match cont S3 x with
          | some d => O.of (sliceD l h d) S3
          | none => .bad) := by
  refine PE.imp (pe_slice sl_any ha hl hh) fun σ H Q ⟨S, G, R, q⟩ => ?_
  refine tE.then R q fun x S1 v G1 H1 R1 s1 v1 q1 => tOI.then R1 q1 fun l S2 G2 H2 R2 s2 q2 => tOI.then R2 q2 fun h S3 G3 H3 R3 s3 q3 => ?_
  split at q3
  · rename_i d e
    obtain ⟨r, e3, q4⟩ := K1.of q3
    exact slice_ok R3 ((v1.step s2).step s3) e e3 (Fin.of ((s1.tr s2).tr s3) q4)
  · exact q3.elim
end
end Z

set_option maxHeartbeats 2000000
/-! Built-in functions called. -/
namespace Z
open PySem PySem.Spec PyProof.Rows L2
section
variable {X : Cx}
/-! ### by values -/
def rLen (K : PySem.W.Frag) : List V → Hp → VK → Prop := fun xs H Q => ∃ p ys, xs = [.ref p] ∧ (SqL K H p ys ∨ SqT K H p ys) ∧ Q (.int ys.length) H
def rSumX : List V → Hp → VK → Prop := fun vs H Q => ∃ (a : Addr) (ns : List Int), vs = [V.ref a] ∧ (Rd H a (.lst (ns.map V.int)) ∨ Rd H a (.tup (ns.map V.int))) ∧ Q (.int ns.sum) H
theorem call_sumX (hc : X.calm = true) : CallR X (.builtin "sum") rSumX := by
  intro pins s σ H vs us Q I r ⟨a, ns, e, h, q⟩
  rcases h with h | h
  · exact cr_sum hc pins s σ H vs us Q I r ⟨a, ns, e, .inl h, q⟩
  · subst e
    obtain ⟨its, rv, ht, _⟩ := I.tuple (Or.inl h)
    rw [Vals.ref1 r]
    have hi := rv.ints
    obtain ⟨xs, hx⟩ := hi.allInts.items
    have hn : numsOf (intItems xs).toList = ns := by rw [← hx]; exact hi.numsOf
    rw [nums_intItems] at hn
    rw [hx] at ht
    refine PySem.W.ktm_sumG (I.ok.hd hc) ht fun h' tk t' hk => ⟨.int ns.sum, H, I.kept hk, ⟨t', ?_⟩, q⟩
    rw [preSum_eq, List.take_of_length_le (by simp), hn]
def rRepr (K : PySem.W.Frag) : List V → Hp → VK → Prop := fun vs H Q => ∃ (x : V) (d : D), vs = [x] ∧ Rp H x d ∧ d.showable = true ∧ d.depth ≤ 20 ∧ d.shown.length ≤ sizeLine ∧ Q (.str d.shown) H
theorem call_reprX (hu : X.A.units + 64 < cLine) (hg : X.A.guards = some []) (hs : ∃ o, X.base.get? sysModules = some o) : CallR X (.builtin "repr") (rRepr X.K) := by
  intro pins s σ H vs us Q I r ⟨x, d, e, h, h1, h2, h3, q⟩
  subst e
  obtain ⟨u, rfl, ru⟩ := vals1 r
  have fin : ∀ tk, EP X pins σ Q (.str d.shown tk) { s with toks := s.toks + 1 } := fun tk => ⟨.str d.shown, H, I.tok _, ⟨_, rfl⟩, q⟩
  obtain ⟨o, ho⟩ := hs
  have big : ∀ a, H a ≠ none → a ≠ sysModules := fun a n e => by
    subst e
    exact n (I.bs _ _ ho).2
  have objs : ∀ {a : Addr}, u = .ref a → wpAny (model X.prog X.w) X.A (call (.builtin "repr") [u]) (EP X pins σ Q) X.xe s := fun {a} e => by
    subst e
    obtain ⟨as, rd, nn⟩ := Rp.reads I h ru
    exact repr_of_reads' rd h1 (fun _ hm => big _ (nn _ hm) rfl) hg (by omega) (fun _ _ e => e) (fun h' u tk hk => ⟨.str d.shown, H, I.kept hk, ⟨_, rfl⟩, q⟩) h3
  cases h with
  | non => cases ru; exact P.repr_of_none (fin _)
  | bl b => cases ru; exact P.repr_of_bool (fin _)
  | int i =>
    obtain ⟨t, rfl⟩ := ru
    exact P.repr_of_int (by simpa [PyData.showable] using h1) (fin _)
  | str z =>
    obtain ⟨t, rfl⟩ := ru
    exact P.repr_of_str (fin _) h3
  | lst a r => exact objs ru
  | tup a r => exact objs ru
  | dic a => exact objs ru
/-! ### what the interpreter's answer asks of the call -/
variable {B : Bx} {W : WX} {c : Ctx} {S : Sl} {σ : Sg} {G G0 H H0 H1 : Hp} {pos : Pos} {e : Expr} {es : List Expr} {ga : Sl → O (List SV)} {p : Pos}
theorem e_call {f : Str} {r : List V → Hp → VK → Prop} (hc : PE X (.Call (.Name f p) (e :: es) [] pos) (tCB r (tA B W ga)))
    (ok : ∀ {S : Sl} {σ : Sg} {G H0 H : Hp} {vs : List SV} {xs : List V} {z : SV} {Q : VK}, Rel B S σ G H → RVs B S σ G H0 H vs xs → biV S f vs = some z → Fin B S σ G H Q z → r xs H Q) :
    PE X (.Call (.Name f p) (e :: es) [] pos) (tE B W fun S => (ga S).bind fun vs S1 => O.of (biV S1 f vs) S1) := by
  refine PE.imp hc fun σ H Q ⟨S, G, R, q⟩ => tA.then R q fun vs S1 xs G1 H1 R1 s1 v1 q1 => ?_
  obtain ⟨z, e3, q3⟩ := K1.of q1
  exact ok R1 v1 e3 (Fin.of s1 q3)
theorem bi1 {f : Str} {vs : List SV} {z : SV} (h : biV S f vs = some z) (n2 : ∀ x y, biD f [x, y] = none) : ∃ v d, vs = [v] ∧ cont S v = some d ∧ biD f [d] = some z := by
  match vs, h with
  | [v], h =>
    simp only [biV] at h
    cases e : cont S v with
    | none => rw [e] at h; cases h
    | some d => rw [e] at h; exact ⟨v, d, rfl, e, h⟩
  | [v, w], h =>
    simp only [biV] at h
    cases e : cont S v with
    | none => rw [e] at h; cases h
    | some d =>
      cases e2 : cont S w with
      | none => rw [e, e2] at h; cases h
      | some d2 => rw [e, e2] at h; cases (n2 d d2).symm.trans h
theorem bi2 {f : Str} {vs : List SV} {z : SV} (h : biV S f vs = some z) (n1 : ∀ x, biD f [x] = none) : ∃ v w d e, vs = [v, w] ∧ cont S v = some d ∧ cont S w = some e ∧ biD f [d, e] = some z := by
  match vs, h with
  | [v], h =>
    simp only [biV] at h
    cases e : cont S v with
    | none => rw [e] at h; cases h
    | some d => rw [e] at h; cases (n1 d).symm.trans h
  | [v, w], h =>
    simp only [biV] at h
    cases e : cont S v with
    | none => rw [e] at h; cases h
    | some d =>
      cases e2 : cont S w with
      | none => rw [e, e2] at h; cases h
      | some d2 => rw [e, e2] at h; exact ⟨v, w, d, d2, rfl, e, e2, h⟩
theorem rvs1 {v : SV} {xs : List V} (h : RVs B S σ G H0 H [v] xs) : ∃ x, xs = [x] ∧ RV B S σ G H0 H v x := by
  cases h with
  | cons a r _ => cases r; exact ⟨_, rfl, a⟩
theorem rvs2 {v w : SV} {xs : List V} (h : RVs B S σ G H0 H [v, w] xs) : ∃ x y, xs = [x, y] ∧ RV B S σ G H0 H v x ∧ RV B S σ G H0 H w y := by
  cases h with
  | cons a r _ =>
    cases r with
    | cons b r _ => cases r; exact ⟨_, _, rfl, a, b⟩
def one (F : List D → Option SV) : Prop := ∀ x y, F [x, y] = none
theorem ca {f : Str} {F : List D → Option SV} (hF : ∀ l, biD f l = F l) (h1 : one F) {xs : List V} {vs : List SV} {z : SV} (v : RVs B S σ G H0 H vs xs) (h : biV S f vs = some z) :
    ∃ v d x, xs = [x] ∧ RV B S σ G H0 H v x ∧ cont S v = some d ∧ F [d] = some z := by
  obtain ⟨v', d, rfl, e1, e2⟩ := bi1 h fun x y => (hF _).trans (h1 x y)
  obtain ⟨x, rfl, rv⟩ := rvs1 v
  exact ⟨v', d, x, rfl, rv, e1, (hF _).symm.trans e2⟩
theorem c_len {K : PySem.W.Frag} : ∀ {S : Sl} {σ : Sg} {G H0 H : Hp} {vs : List SV} {xs : List V} {z : SV} {Q : VK}, Rel B S σ G H → RVs B S σ G H0 H vs xs → biV S "len" vs = some z → Fin B S σ G H Q z → rLen K xs H Q := by
  intro S σ G H0 H vs xs z Q R v h f
  obtain ⟨v, d, x, rfl, rv, e1, e2⟩ := ca (F := biLen) (fun _ => rfl) (fun x _ => by cases x <;> rfl) v h
  cases d <;> simp only [biLen] at e2 <;> cases e2
  · obtain ⟨p, ys, rfl, h1, r1⟩ := rv.clist R e1
    exact ⟨p, ys, rfl, .inl (.inl h1), by rw [r1.length]; exact f.flat R (.int _)⟩
  · obtain ⟨p, ys, rfl, h1, r1⟩ := rv.ctup R e1
    exact ⟨p, ys, rfl, .inr (.inl h1), by rw [r1.length]; exact f.flat R (.int _)⟩
theorem c_abs : ∀ {S : Sl} {σ : Sg} {G H0 H : Hp} {vs : List SV} {xs : List V} {z : SV} {Q : VK}, Rel B S σ G H → RVs B S σ G H0 H vs xs → biV S "abs" vs = some z → Fin B S σ G H Q z → ∃ i, xs = [.int i] ∧ Q (.int (if i < 0 then -i else i)) H := by
  intro S σ G H0 H vs xs z Q R v h f
  obtain ⟨v, d, x, rfl, rv, e1, e2⟩ := ca (F := biAbs) (fun _ => rfl) (fun x _ => by cases x <;> rfl) v h
  cases d <;> simp only [biAbs] at e2 <;> cases e2
  exact ⟨_, by rw [rv.cint R e1], f.flat R (.int _)⟩
theorem cb {f : Str} {F : List D → Option SV} (hF : ∀ l, biD f l = F l) (h1 : ∀ x, F [x] = none) {xs : List V} {vs : List SV} {z : SV} (v : RVs B S σ G H0 H vs xs) (h : biV S f vs = some z) :
    ∃ v w d e x y, xs = [x, y] ∧ RV B S σ G H0 H v x ∧ RV B S σ G H0 H w y ∧ cont S v = some d ∧ cont S w = some e ∧ F [d, e] = some z := by
  obtain ⟨v', w', d, e, rfl, e1, e2, e3⟩ := bi2 h fun x => (hF _).trans (h1 x)
  obtain ⟨x, y, rfl, rv, rw'⟩ := rvs2 v
  exact ⟨v', w', d, e, x, y, rfl, rv, rw', e1, e2, (hF _).symm.trans e3⟩
theorem c_min : ∀ {S : Sl} {σ : Sg} {G H0 H : Hp} {vs : List SV} {xs : List V} {z : SV} {Q : VK}, Rel B S σ G H → RVs B S σ G H0 H vs xs → biV S "min" vs = some z → Fin B S σ G H Q z → ∃ i j, xs = [.int i, .int j] ∧ Q (.int (if j < i then j else i)) H := by
  intro S σ G H0 H vs xs z Q R v h f
  obtain ⟨v, w, d, e, x, y, rfl, rv, rw', e1, e2, e3⟩ := cb (F := biMin) (fun _ => rfl) (fun d => by cases d <;> rfl) v h
  cases d <;> cases e <;> simp only [biMin] at e3 <;> cases e3
  exact ⟨_, _, by rw [rv.cint R e1, rw'.cint R e2], f.flat R (.int _)⟩
theorem maxL_mem : ∀ (l : List Int) (m : Int), maxL l m ∈ m :: l
  | [], m => List.mem_cons_self ..
  | a :: r, m => by
    have h := maxL_mem r (if a > m then a else m)
    show maxL r (if a > m then a else m) ∈ m :: a :: r
    rcases List.mem_cons.mp h with e | e
    · rw [e]; split
      · exact List.mem_cons_of_mem _ (List.mem_cons_self ..)
      · exact List.mem_cons_self ..
    · exact List.mem_cons_of_mem _ (List.mem_cons_of_mem _ e)
theorem maxL_ge : ∀ (l : List Int) (m : Int), m ≤ maxL l m ∧ ∀ y ∈ l, y ≤ maxL l m
  | [], m => ⟨Int.le_refl _, fun y h => by cases h⟩
  | a :: r, m => by
    obtain ⟨h1, h2⟩ := maxL_ge r (if a > m then a else m)
    show m ≤ maxL r (if a > m then a else m) ∧ ∀ y ∈ a :: r, y ≤ maxL r (if a > m then a else m)
    have t : m ≤ (if a > m then a else m) ∧ a ≤ (if a > m then a else m) := by split <;> omega
    refine ⟨by omega, fun y hy => ?_⟩
    rcases List.mem_cons.mp hy with rfl | h
    · omega
    · exact h2 y h
def rMaxX (K : PySem.W.Frag) : List V → Hp → VK → Prop := fun xs H Q => (∃ i j, xs = [.int i, .int j] ∧ Q (.int (if j > i then j else i)) H) ∨ L2.rMax K xs H Q
theorem call_maxX (hc : X.calm = true) : CallR X (.builtin "max") (rMaxX X.K) := fun pins s σ H vs us Q I r h => h.elim (call_max2 hc pins s σ H vs us Q I r) (cr_max hc pins s σ H vs us Q I r)
theorem c_max {K : PySem.W.Frag} : ∀ {S : Sl} {σ : Sg} {G H0 H : Hp} {vs : List SV} {xs : List V} {z : SV} {Q : VK}, Rel B S σ G H → RVs B S σ G H0 H vs xs → biV S "max" vs = some z → Fin B S σ G H Q z → rMaxX K xs H Q := by
  intro S σ G H0 H vs xs z Q R v h f
  match vs, h with
  | [], h => simp [biV] at h
  | _ :: _ :: _ :: _, h => simp [biV] at h
  | [a], h =>
    simp only [biV] at h
    cases e : cont S a with
    | none => rw [e] at h; cases h
    | some d =>
      rw [e] at h
      replace h : biMax [d] = some z := h
      obtain ⟨x, rfl, rv⟩ := rvs1 v
      cases d <;> simp only [biMax] at h <;> first | (cases h; done) | skip
      rename_i ds
      cases e2 : intsOf ds with
      | none => rw [e2] at h; cases h
      | some ns =>
        rw [e2] at h
        cases ns with
        | nil => cases h
        | cons n ns =>
          cases h
          obtain ⟨p, ys, rfl, h1, r1⟩ := rv.clist R e
          rw [r1.ints e2] at h1
          refine .inr ⟨p, n :: ns, rfl, .inl h1, Nat.succ_pos _, fun m hm hy => ?_⟩
          have g := maxL_ge ns n
          have em : m = maxL ns n := by
            have a1 := hy _ (maxL_mem ns n)
            rcases List.mem_cons.mp hm with rfl | h
            · omega
            · have := g.2 m h; omega
          rw [em]; exact f.flat R (.int _)
  | [a, b], h =>
    simp only [biV] at h
    cases e : cont S a with
    | none => rw [e] at h; cases h
    | some d =>
      cases e2 : cont S b with
      | none => rw [e, e2] at h; cases h
      | some d2 =>
        rw [e, e2] at h
        replace h : biMax [d, d2] = some z := h
        obtain ⟨x, y, rfl, rv, rw'⟩ := rvs2 v
        cases d <;> cases d2 <;> simp only [biMax] at h <;> cases h
        exact .inl ⟨_, _, by rw [rv.cint R e, rw'.cint R e2], f.flat R (.int _)⟩
theorem insL_perm (a : Int) : ∀ l : List Int, (insL a l).Perm (a :: l)
  | [] => List.Perm.refl _
  | b :: r => by
    unfold insL
    split
    · exact List.Perm.refl _
    · exact ((insL_perm a r).cons b).trans (List.Perm.swap a b r)
theorem sortL_perm : ∀ l : List Int, (sortL l).Perm l
  | [] => List.Perm.refl _
  | a :: r => (insL_perm a (sortL r)).trans ((sortL_perm r).cons a)
theorem insL_le (a : Int) : ∀ l : List Int, l.Pairwise (· ≤ ·) → (insL a l).Pairwise (· ≤ ·)
  | [], _ => List.pairwise_singleton _ _
  | b :: r, h => by
    unfold insL
    rw [List.pairwise_cons] at h
    split
    · rename_i ab
      refine List.pairwise_cons.mpr ⟨fun y hy => ?_, List.pairwise_cons.mpr h⟩
      rcases List.mem_cons.mp hy with rfl | hy
      · exact ab
      · have := h.1 y hy; omega
    · refine List.pairwise_cons.mpr ⟨fun y hy => ?_, insL_le a r h.2⟩
      rcases List.mem_cons.mp ((insL_perm a r).mem_iff.mp hy) with rfl | hy
      · omega
      · exact h.1 y hy
theorem sortL_le : ∀ l : List Int, (sortL l).Pairwise (· ≤ ·)
  | [] => .nil
  | a :: r => insL_le a _ (sortL_le r)
theorem sort_one : ∀ {a b : List Int}, a.Perm b → a.Pairwise (· ≤ ·) → b.Pairwise (· ≤ ·) → a = b
  | [], b, p, _, _ => (List.nil_perm.mp p).symm
  | x :: a, [], p, _, _ => absurd p.length_eq (by simp)
  | x :: a, y :: b, p, h1, h2 => by
    rw [List.pairwise_cons] at h1 h2
    have e : x = y := by
      have m1 : x ∈ y :: b := p.mem_iff.mp (List.mem_cons_self ..)
      have m2 : y ∈ x :: a := p.mem_iff.mpr (List.mem_cons_self ..)
      rcases List.mem_cons.mp m1 with z | z
      · exact z
      · rcases List.mem_cons.mp m2 with z2 | z2
        · exact z2.symm
        · have a1 := h2.1 x z
          have a2 := h1.1 y z2
          omega
    subst e
    rw [sort_one (List.perm_cons _ |>.mp p) h1.2 h2.2]
theorem rps_int {G : Hp} : ∀ ns : List Int, Rps G (ns.map V.int) (ns.map PyData.int)
  | [] => .nil
  | n :: r => .cons (.int n) (rps_int r)
theorem c_sorted {K : PySem.W.Frag} : ∀ {S : Sl} {σ : Sg} {G H0 H : Hp} {vs : List SV} {xs : List V} {z : SV} {Q : VK}, Rel B S σ G H → RVs B S σ G H0 H vs xs → biV S "sorted" vs = some z → Fin B S σ G H Q z → rSortedI K xs H Q := by
  intro S σ G H0 H vs xs z Q R v h f
  obtain ⟨v, d, x, rfl, rv, e1, e2⟩ := ca (F := biSorted) (fun _ => rfl) (fun x _ => by cases x <;> rfl) v h
  cases d <;> simp only [biSorted] at e2 <;> try cases e2
  rename_i ds
  cases e : intsOf ds with
  | none => rw [e] at e2; cases e2
  | some ns =>
    rw [e] at e2; cases e2
    obtain ⟨p, ys, rfl, h1, r1⟩ := rv.clist R e1
    rw [r1.ints e] at h1
    refine ⟨p, ns, rfl, .inl h1, fun ns' q hp hs hq => ?_⟩
    have en : ns' = sortL ns := sort_one (hp.trans (sortL_perm ns).symm) hs (sortL_le ns)
    rw [en]
    exact f.lst R (rps_int _) q hq
theorem c_sum : ∀ {S : Sl} {σ : Sg} {G H0 H : Hp} {vs : List SV} {xs : List V} {z : SV} {Q : VK}, Rel B S σ G H → RVs B S σ G H0 H vs xs → biV S "sum" vs = some z → Fin B S σ G H Q z → rSumX xs H Q := by
  intro S σ G H0 H vs xs z Q R v h f
  obtain ⟨v, d, x, rfl, rv, e1, e2⟩ := ca (F := biSum) (fun _ => rfl) (fun x _ => by cases x <;> rfl) v h
  cases d <;> simp only [biSum] at e2 <;> try cases e2
  · rename_i ds
    cases e : intsOf ds with
    | none => rw [e] at e2; cases e2
    | some ns =>
      rw [e] at e2; cases e2
      obtain ⟨p, ys, rfl, h1, r1⟩ := rv.clist R e1
      rw [r1.ints e] at h1
      exact ⟨p, ns, rfl, .inl h1, f.flat R (.int _)⟩
  · rename_i ds
    cases e : intsOf ds with
    | none => rw [e] at e2; cases e2
    | some ns =>
      rw [e] at e2; cases e2
      obtain ⟨p, ys, rfl, h1, r1⟩ := rv.ctup R e1
      rw [r1.ints e] at h1
      exact ⟨p, ns, rfl, .inr h1, f.flat R (.int _)⟩
theorem c_all {K : PySem.W.Frag} : ∀ {S : Sl} {σ : Sg} {G H0 H : Hp} {vs : List SV} {xs : List V} {z : SV} {Q : VK}, Rel B S σ G H → RVs B S σ G H0 H vs xs → biV S "all" vs = some z → Fin B S σ G H Q z → rAll K xs H Q := by
  intro S σ G H0 H vs xs z Q R v h f
  obtain ⟨v, d, x, rfl, rv, e1, e2⟩ := ca (F := biAll) (fun _ => rfl) (fun x _ => by cases x <;> rfl) v h
  cases d <;> simp only [biAll] at e2 <;> try cases e2
  rename_i ds
  cases e : boolsOf ds with
  | none => rw [e] at e2; cases e2
  | some ns =>
    rw [e] at e2; cases e2
    obtain ⟨p, ys, rfl, h1, r1⟩ := rv.clist R e1
    rw [r1.bools e] at h1
    exact ⟨p, ns, rfl, .inl h1, f.flat R (.bl _)⟩
theorem c_any {K : PySem.W.Frag} : ∀ {S : Sl} {σ : Sg} {G H0 H : Hp} {vs : List SV} {xs : List V} {z : SV} {Q : VK}, Rel B S σ G H → RVs B S σ G H0 H vs xs → biV S "any" vs = some z → Fin B S σ G H Q z → rAny K xs H Q := by
  intro S σ G H0 H vs xs z Q R v h f
  obtain ⟨v, d, x, rfl, rv, e1, e2⟩ := ca (F := biAny) (fun _ => rfl) (fun x _ => by cases x <;> rfl) v h
  cases d <;> simp only [biAny] at e2 <;> try cases e2
  rename_i ds
  cases e : boolsOf ds with
  | none => rw [e] at e2; cases e2
  | some ns =>
    rw [e] at e2; cases e2
    obtain ⟨p, ys, rfl, h1, r1⟩ := rv.clist R e1
    rw [r1.bools e] at h1
    exact ⟨p, ns, rfl, .inl h1, f.flat R (.bl _)⟩
def rTuple (K : PySem.W.Frag) : List V → Hp → VK → Prop := fun xs H Q => ∃ p ys, xs = [.ref p] ∧ ((SqL K H p ys ∧ ∀ l, H l = none → Q (.ref l) (upd H l (.tup ys))) ∨ (SqT K H p ys ∧ Q (.ref p) H))
def rList (K : PySem.W.Frag) : List V → Hp → VK → Prop := fun xs H Q => ∃ p ys, xs = [.ref p] ∧ (SqL K H p ys ∨ SqT K H p ys) ∧ ∀ l, H l = none → Q (.ref l) (upd H l (.lst ys))
theorem c_tuple {K : PySem.W.Frag} : ∀ {S : Sl} {σ : Sg} {G H0 H : Hp} {vs : List SV} {xs : List V} {z : SV} {Q : VK}, Rel B S σ G H → RVs B S σ G H0 H vs xs → biV S "tuple" vs = some z → Fin B S σ G H Q z → rTuple K xs H Q := by
  intro S σ G H0 H vs xs z Q R v h f
  obtain ⟨sv, d, x, rfl, rv, e1, e2⟩ := ca (F := biTuple) (fun _ => rfl) (fun x _ => by cases x <;> rfl) v h
  cases d <;> simp only [biTuple] at e2 <;> cases e2
  · obtain ⟨p, ys, rfl, h1, r1⟩ := rv.clist R e1
    exact ⟨p, ys, rfl, .inl ⟨.inl h1, f.tup R r1⟩⟩
  · obtain ⟨p, ys, rfl, h1, r1⟩ := rv.ctup R e1
    refine ⟨p, ys, rfl, .inr ⟨.inl h1, ?_⟩⟩
    cases sv with
    | dat d => cases (Option.some.inj e1 : d = _); exact f.flat R rv
    | own es => cases (Option.some.inj e1 : PyData.list es = _)
    | bor i => obtain ⟨xs, _, e'⟩ := cont_bor e1; cases e'
    | exc c fs => cases e1
    | thk r c fs => cases e1
theorem c_list {K : PySem.W.Frag} : ∀ {S : Sl} {σ : Sg} {G H0 H : Hp} {vs : List SV} {xs : List V} {z : SV} {Q : VK}, Rel B S σ G H → RVs B S σ G H0 H vs xs → biV S "list" vs = some z → Fin B S σ G H Q z → rList K xs H Q := by
  intro S σ G H0 H vs xs z Q R v h f
  obtain ⟨v, d, x, rfl, rv, e1, e2⟩ := ca (F := biList) (fun _ => rfl) (fun x _ => by cases x <;> rfl) v h
  cases d <;> simp only [biList] at e2 <;> cases e2
  · obtain ⟨p, ys, rfl, h1, r1⟩ := rv.clist R e1
    exact ⟨p, ys, rfl, .inl (.inl h1), f.lst R r1⟩
  · obtain ⟨p, ys, rfl, h1, r1⟩ := rv.ctup R e1
    exact ⟨p, ys, rfl, .inr (.inl h1), f.lst R r1⟩
theorem c_repr {K : PySem.W.Frag} : ∀ {S : Sl} {σ : Sg} {G H0 H : Hp} {vs : List SV} {xs : List V} {z : SV} {Q : VK}, Rel B S σ G H → RVs B S σ G H0 H vs xs → biV S "repr" vs = some z → Fin B S σ G H Q z → rRepr K xs H Q := by
  intro S σ G H0 H vs xs z Q R v h f
  obtain ⟨v, d, x, rfl, rv, e1, e2⟩ := ca (F := biRepr) (fun _ => rfl) (fun x _ => by cases x <;> rfl) v h
  simp only [biRepr] at e2
  unfold reprD at e2
  split at e2
  · rename_i hz
    simp only [Bool.and_eq_true, decide_eq_true_eq] at hz
    cases e2
    exact ⟨x, d, rfl, rv.rp R e1, hz.1.1, hz.1.2, hz.2, f.flat R (.str _)⟩
  · cases e2
theorem c_int : ∀ {S : Sl} {σ : Sg} {G H0 H : Hp} {vs : List SV} {xs : List V} {z : SV} {Q : VK}, Rel B S σ G H → RVs B S σ G H0 H vs xs → biV S "int" vs = some z → Fin B S σ G H Q z → (∃ i, xs = [.int i] ∧ Q (.int i) H) ∨ ∃ k, xs = [.bl k] ∧ Q (.int (if k then 1 else 0)) H := by
  intro S σ G H0 H vs xs z Q R v h f
  obtain ⟨sv, d, x, rfl, rv, e1, e2⟩ := ca (F := biInt) (fun _ => rfl) (fun x _ => by cases x <;> rfl) v h
  cases d <;> simp only [biInt] at e2 <;> cases e2
  · rename_i b
    have eb : x = .bl b := Rp.bool_iff (rv.rp R e1)
    exact .inr ⟨b, by rw [eb], f.flat R (.int _)⟩
  · exact .inl ⟨_, by rw [rv.cint R e1], f.flat R (.int _)⟩
/-- a built-in called -/
theorem e_bi (k : Nm X c B) (hs : ∃ o, X.base.get? sysModules = some o) {f : Str} (hf : isNm c f = some .bi) (hk : biKnown f = true) (hn : noStar (e :: es) = true) (ha : PA X (e :: es) (tA B W ga)) :
    PE X (.Call (.Name f p) (e :: es) [] pos) (tE B W fun S => (ga S).bind fun vs S1 => O.of (biV S1 f vs) S1) := by
  obtain ⟨h1, h2⟩ := isNm_ok hf
  have hg := glo_ok k.sc h1
  have hm := k.bi f h2
  have st := star_one hn (env := X.env)
  have sa := star_any (p := pos) (env := X.env) (star_tail hn)
  unfold biKnown at hk
  simp only [Bool.or_eq_true, decide_eq_true_eq] at hk
  rcases hk with ((((((((((rfl | rfl) | rfl) | rfl) | rfl) | rfl) | rfl) | rfl) | rfl) | rfl) | rfl) | rfl
  · exact e_call (pe_callB call_len_seq hg hm PySem.boot_len ha (he := st) (hpl := sa)) (c_len (K := X.K))
  · exact e_call (pe_callB call_abs hg hm (by decide +kernel) ha (he := st) (hpl := sa)) c_abs
  · exact e_call (pe_callB (call_min2 k.calm) hg hm (by decide +kernel) ha (he := st) (hpl := sa)) c_min
  · exact e_call (pe_callB (call_maxX k.calm) hg hm (by decide +kernel) ha (he := st) (hpl := sa)) (c_max (K := X.K))
  · exact e_call (pe_callB (call_sumX k.calm) hg hm (by decide +kernel) ha (he := st) (hpl := sa)) c_sum
  · exact e_call (pe_callB (cr_all k.calm) hg hm (by decide +kernel) ha (he := st) (hpl := sa)) (c_all (K := X.K))
  · exact e_call (pe_callB (cr_any k.calm) hg hm (by decide +kernel) ha (he := st) (hpl := sa)) (c_any (K := X.K))
  · exact e_call (pe_callTy call_tuple_of hg hm (by decide +kernel) ha (he := st) (hpl := sa)) (c_tuple (K := X.K))
  · exact e_call (pe_callTy call_list_of hg hm (by decide +kernel) ha (he := st) (hpl := sa)) (c_list (K := X.K))
  · exact e_call (pe_callB (call_reprX k.room.units k.grd hs) hg hm (by decide +kernel) ha (he := st) (hpl := sa)) (c_repr (K := X.K))
  · exact e_call (pe_callTy call_int1 hg hm (by decide +kernel) ha (he := st) (hpl := sa)) c_int
  · exact e_call (pe_callB cr_sortedI hg hm (by decide +kernel) ha (he := st) (hpl := sa)) (c_sorted (K := X.K))
/-- tuple(range(n)) -/
theorem e_tupR {a : Expr} {fa : Sl → O SV} {pr q2 : Pos} (k : Nm X c B) (hf : isNm c "tuple" = some .bi) (hr : isNm c "range" = some .bi) (hn : noStar [a] = true) (ha : PE X a (tE B W fa)) :
    PE X (.Call (.Name "tuple" p) [.Call (.Name "range" pr) [a] [] q2] [] pos) (tE B W fun S => (fa S).bind fun x S1 => tupR x S1) := by
  obtain ⟨h1, h2⟩ := isNm_ok hf
  obtain ⟨r1, r2⟩ := isNm_ok hr
  refine PE.imp (pe_tupRg k.calm (glo_ok k.sc h1) (k.bi _ h2) (prg_1 (glo_ok k.sc r1) (k.bi _ r2) ha (star_one hn)) rfl) fun σ H Q ⟨S, G, R, q⟩ => tE.then (k := fun x S1 => tupR x S1) R q fun v S1 x G1 H1 R1 s1 v1 q1 => ?_
  unfold tupR at q1
  split at q1
  · rename_i j
    split at q1
    · rename_i hz
      rw [Bool.and_eq_true, decide_eq_true_eq] at hz
      unfold small at hz
      rw [Bool.and_eq_true, decide_eq_true_eq, decide_eq_true_eq] at hz
      have ex : x = .int j := v1.cint R1 rfl
      have fin := Fin.of (r := SV.dat (.tuple (rng 0 j.toNat))) s1 q1
      refine ⟨j, ex, ⟨by omega, by omega, hz.1.1, hz.1.2, ?_⟩, ?_⟩
      · rw [Int.sub_zero]
        have := hz.2
        unfold sizeLine at this
        omega
      · have e : rgV 0 j = ((List.range j.toNat).map fun i : Nat => (0 + (i : Nat) : Int)).map V.int := by unfold rgV; rw [List.map_map, Int.sub_zero]; rfl
        have e2 : rng 0 j.toNat = ((List.range j.toNat).map fun i : Nat => (0 + (i : Nat) : Int)).map PyData.int := by unfold rng; rw [List.map_map]; rfl
        rw [e]
        rw [e2] at fin
        exact fin.tup R1 (rps_int _)
    · exact q1.elim
  · exact q1.elim
end
end Z

set_option maxHeartbeats 2000000
/-! Methods of lists, isinstance, an exception's field. -/
namespace Z
open PySem PySem.Spec PyProof.Rows L2
section
variable {X : Cx} {B : Bx} {W : WX} {c : Ctx} {S S0 S' : Sl} {σ : Sg} {G G0 H H0 H1 : Hp} {pos ap p : Pos} {e : Expr} {es : List Expr} {ga : Sl → O (List SV)} {x m : Str} {i : Nat}
/-- the list that slot i owns is written -/
theorem Rel.write (R : Rel B S σ G H) {ds ds' : List D} {xs' : List V} (h : S[i]? = some (some (.own ds))) {a : Addr} (ha : σ[i]? = some (some (.ref a))) (r : Rps G xs' ds') :
    Rel B (put S i (.own ds')) σ G (upd H a (.lst xs')) ∧ Stp S σ G H (put S i (.own ds')) G (upd H a (.lst xs')) := by
  have ow : Ow S σ a := ⟨i, ds, h, ha⟩
  obtain ⟨g1, b1, ys, h1⟩ := R.ownH ow
  have li : i < S.length := (List.getElem?_eq_some_iff.mp h).1
  refine ⟨⟨by unfold put; rw [List.length_set]; exact R.len, R.sub.up g1, fun b o e n => ?_, R.bt, R.gt, fun q hq => ?_, fun j v e => ?_, fun j l q ys zs e1 e2 e3 e4 => ?_, R.io, R.gx, R.gn, R.dm.tr (Dm.wr h1)⟩,
    ⟨Ex.refl, fun b o e _ n => ?_, fun b o e => .inl e, fun b w => ?_, fun b e => ?_⟩⟩
  · have ne : b ≠ a := fun z => by rw [z, b1] at e; cases e
    rw [upd_ne ne]; exact R.bas b o e n
  · obtain ⟨ps, t1, t2, t3⟩ := R.tab q hq
    have n1 : q.1 ≠ a := fun z => by rw [z, h1] at t1; cases t1
    refine ⟨ps, by rw [upd_ne n1]; exact t1, t2, fun pos cv hc => ?_⟩
    obtain ⟨c', e1, e2⟩ := t3 pos cv hc
    refine ⟨c', e1, ?_⟩
    rw [upd_ne (fun z => by rw [z, h1] at e2; unfold LamX.CodeO at e2; cases e2)]
    exact e2
  · rw [put_get] at e
    split at e
    · rename_i ij
      subst ij
      rw [if_pos li] at e
      cases e
      exact ⟨_, ha, a, xs', rfl, g1, b1, upd_same, r⟩
    · rename_i ij
      obtain ⟨y, e1, e2⟩ := R.at_ j v e
      refine ⟨y, e1, At.mono e2 Ex.refl fun b zs q1 q2 => ?_⟩
      subst q1 q2
      obtain ⟨p', ys', q3, q4, _⟩ := e2
      cases q3
      have ne : b ≠ a := fun z => by
        subst z
        exact ij (R.inj i j b _ _ h e ha e1)
      rw [upd_ne ne]
      exact ⟨q4, rfl⟩
  · have own : ∀ {k : Nat} {us : List D}, (put S i (.own ds'))[k]? = some (some (.own us)) → ∃ us', S[k]? = some (some (.own us')) := fun {k us} e => by
      rw [put_get] at e
      split at e
      · rename_i ik; subst ik; exact ⟨ds, h⟩
      · exact ⟨us, e⟩
    obtain ⟨us, e1⟩ := own e1
    obtain ⟨us', e2⟩ := own e2
    exact R.inj j l q us us' e1 e2 e3 e4
  · have ne : b ≠ a := fun z => n (z ▸ ow)
    rw [upd_ne ne]; exact e
  · obtain ⟨j, us, w1, w2⟩ := w
    rw [put_get] at w1
    split at w1
    · rename_i ij; subst ij; exact ⟨i, ds, h, w2⟩
    · exact ⟨j, us, w1, w2⟩
  · by_cases z : b = a
    · subst z; rw [upd_same]; simp
    · rw [upd_ne z]; exact e
theorem tyL {K : PySem.W.Frag} {a : Addr} {xs : List V} (h : H a = some (.lst xs)) : tyV K "list" (.ref a) H := .inl ⟨rfl, _, .inl (.inl h)⟩
theorem few_ok (hs : noStar (e :: es) = true) (hl : (e :: es).length < 30) : ((backTo p (starEach (e :: es) X.env)).all (fun x => !x.1) && (backToKw p (keywordEach [] X.env)).all (fun x => x.1.isSome)
      && decide ((e :: es).length + ([] : List Keyword).length + (if ([] : List Keyword).isEmpty then 0 else 1) < 30)) = true := by
  have all : ∀ {l : List Expr}, noStar l = true → (backTo p (starEach l X.env)).all (fun x => !x.1) = true := by
    intro l
    induction l with
    | nil => intro _; rfl
    | cons a l ih =>
      intro h
      rw [star_one h]
      show (true && (backTo p (starEach l X.env)).all (fun x => !x.1)) = true
      rw [ih (star_tail h)]; rfl
  have h2 := all hs
  show ((backTo p (starEach (e :: es) X.env)).all (fun x => !x.1) && true && decide ((e :: es).length < 30)) = true
  rw [h2]
  simpa using hl
/-- a method that is called with arguments on the list that a name owns -/
theorem e_meth (k : Nm X c B) {id : String} {r : V → List V → Hp → VK → Prop} {mn : Str} (slotm : Slot "list" mn id) (hty : typeOf (.builtin id) = pure (.type "method_descriptor")) (hm : MtR X id r) (hi : slot c x = some i)
    (hs : noStar (e :: es) = true) (hl : (e :: es).length < 30) (hline : (ap.endLine == pos.line) = true) (ha : PA X (e :: es) (tA B W ga)) {M : List SV → Sl → O SV}
    (ok : ∀ {S S1 : Sl} {σ : Sg} {G G1 H H1 : Hp} {vs : List SV} {xs : List V} {a : Addr} {Q : VK}, Rel B S σ G H → Stp S σ G H S1 G1 H1 → Rel B S1 σ G1 H1 → RVs B S1 σ G1 H H1 vs xs → σ[i]? = some (some (.ref a)) →
      K1 B W σ G1 (M vs S1) (fun r S' => ∀ x G' H', Rel B S' σ G' H' → Stp S σ G H S' G' H' → RV B S' σ G' H H' r x → Q x H') → r (.ref a) xs H1 Q) :
    PE X (.Call (.Attribute (.Name x p) mn ap) (e :: es) [] pos) (tE B W fun S => match S[i]? with
      | some (some (.own _)) => (ga S).bind fun vs S2 => M vs S2
      | _ => .bad) := by
  unfold slot at hi
  split at hi
  · rename_i hv
    have hN : X.N[i]? = some x := by rw [k.N]; exact lookup_idx hi
    have hx : x ∈ c.N := by rw [← k.N]; exact List.mem_of_getElem? hN
    refine PE.imp (pe_bm PySem.F.plainAttrs_list slotm hty hm (pe_var hN (vis_ok k.sc hv) (k.okN x hx).1 (k.okN x hx).2) ha (hfew := few_ok hs hl) (hline := hline) (hs := star_one hs) (hplain := star_any (star_tail hs))) fun σ H Q ⟨S, G, R, q⟩ => ?_
    dsimp only at q
    split at q
    · rename_i ds e0
      obtain ⟨y, e1, a, xs, rfl, h1, h2, h3, h4⟩ := R.at_ i _ e0
      refine ⟨_, e1, tyL h3, ?_⟩
      exact tA.then R q fun vs S1 us G1 H1 R1 s1 v1 q1 => ok R s1 R1 v1 e1 q1
    · exact q.elim
  · cases hi
theorem ow_slot (R : Rel B S σ G H) {ds : List D} {a : Addr} (h : S[i]? = some (some (.own ds))) (ha : σ[i]? = some (some (.ref a))) : ∃ xs, H a = some (.lst xs) ∧ Rps G xs ds := by
  obtain ⟨y, e1, p, xs, rfl, _, _, h3, h4⟩ := R.at_ i _ h
  rw [ha] at e1
  cases e1
  exact ⟨xs, h3, h4⟩
theorem m_append {S S1 : Sl} {σ : Sg} {G G1 H H1 : Hp} {vs : List SV} {xs : List V} {a : Addr} {Q : VK} (R0 : Rel B S σ G H) (s : Stp S σ G H S1 G1 H1) (R : Rel B S1 σ G1 H1) (v : RVs B S1 σ G1 H H1 vs xs) (ha : σ[i]? = some (some (.ref a)))
    (q : K1 B W σ G1 (mAppend i vs S1) (fun r S' => ∀ x G' H', Rel B S' σ G' H' → Stp S σ G H S' G' H' → RV B S' σ G' H H' r x → Q x H')) : rAppend (.ref a) xs H1 Q := by
  match vs, q with
  | [w], q =>
    obtain ⟨y, rfl, rv⟩ := rvs1 v
    obtain ⟨d, S3, e, q⟩ := q.settle
    obtain ⟨G3, R3, s3, rp, b⟩ := settle_ok R0 s R rv e
    split at q
    · rename_i ds e0
      split at q
      · rename_i hz
        obtain ⟨zs, h1, r1⟩ := ow_slot R3 e0 ha
        obtain ⟨R4, s4⟩ := R3.write e0 ha (r1.append (.cons rp .nil))
        exact ⟨a, zs, y, rfl, rfl, h1, by rw [r1.length]; exact hz, q _ _ _ R4 (s3.tr s4) .non⟩
      · exact q.elim
    · exact q.elim
def rCountD (K : PySem.W.Frag) : V → List V → Hp → VK → Prop := fun x xs H Q => ∃ (a : Addr) (y : V) (d : D) (ys : List V) (ds : List D), x = .ref a ∧ xs = [y] ∧ H a = some (.lst ys) ∧ Rps H ys ds ∧ Rp H y d ∧ SeqAt.shaped d = true ∧ SeqAt.shaped (.list ds) = true ∧
  Q (.int ((ds.countP fun z => PyData.eqv z d : Nat) : Int)) H
theorem mt_countD (hu : X.A.units + 65 < cLine) : MtR X "list.count" (rCountD X.K) := by
  intro pins s σ H x xs v us Q I rx rxs ⟨a, y, d, ys, ds, ex, exs, hl, rs, ry, sd, sl, q⟩
  subst ex exs
  cases rx
  obtain ⟨u, rfl, ru⟩ := vals1 rxs
  obtain ⟨_, its, n, rv, ho⟩ := rdl I (.inl hl)
  obtain ⟨bs, h1, _⟩ := Rp.reads I ry ru
  obtain ⟨as, h2, _⟩ := Rps.reads I rs rv
  have c1 : PyData.canLayAll0 ds = true := by simpa [PyData.canLay0] using SeqAt.canLay_of_shaped sl
  have d1 := SeqAt.depth_of_shaped sd
  refine PySem.SeqAt.count_list_data (vs := its.toArray) ⟨_, ho, rfl, n, rfl⟩ (by simpa using h2) h1 (PyData.plainAll_of_canLay0 _ c1) (PyData.plain_of_canLay0 _ (SeqAt.canLay_of_shaped sd)) ?_ ⟨.int _, H, I.tok _, ⟨_, rfl⟩, q⟩
  have := Nat.min_le_right (PyData.depthAll ds) d.depth
  omega
theorem m_count {S S1 : Sl} {σ : Sg} {G G1 H H1 : Hp} {vs : List SV} {xs : List V} {a : Addr} {Q : VK} {K : PySem.W.Frag} (R0 : Rel B S σ G H) (s : Stp S σ G H S1 G1 H1) (R : Rel B S1 σ G1 H1) (v : RVs B S1 σ G1 H H1 vs xs) (ha : σ[i]? = some (some (.ref a)))
    (q : K1 B W σ G1 (mCount i vs S1) (fun r S' => ∀ x G' H', Rel B S' σ G' H' → Stp S σ G H S' G' H' → RV B S' σ G' H H' r x → Q x H')) : rCountD K (.ref a) xs H1 Q := by
  unfold mCount at q
  split at q
  · rename_i ds w e0
    obtain ⟨y, rfl, rv⟩ := rvs1 v
    split at q
    · rename_i d e1
      split at q
      · rename_i hz
        rw [Bool.and_eq_true] at hz
        obtain ⟨zs, h1, r1⟩ := ow_slot R e0 ha
        exact ⟨a, y, d, zs, ds, rfl, rfl, h1, r1.mono R.sub, rv.rp R e1, hz.1, hz.2, q _ _ _ R s (.int _)⟩
      · exact q.elim
    · exact q.elim
  · exact q.elim
theorem m_index {S S1 : Sl} {σ : Sg} {G G1 H H1 : Hp} {vs : List SV} {xs : List V} {a : Addr} {Q : VK} {K : PySem.W.Frag} (R0 : Rel B S σ G H) (s : Stp S σ G H S1 G1 H1) (R : Rel B S1 σ G1 H1) (v : RVs B S1 σ G1 H H1 vs xs) (ha : σ[i]? = some (some (.ref a)))
    (q : K1 B W σ G1 (mIndex i vs S1) (fun r S' => ∀ x G' H', Rel B S' σ G' H' → Stp S σ G H S' G' H' → RV B S' σ G' H H' r x → Q x H')) : rIndexD K (.ref a) xs H1 Q := by
  unfold mIndex at q
  split at q
  · rename_i ds w e0
    obtain ⟨y, rfl, rv⟩ := rvs1 v
    split at q
    · rename_i d e1
      split at q
      · rename_i hz
        rw [Bool.and_eq_true] at hz
        obtain ⟨zs, h1, r1⟩ := ow_slot R e0 ha
        split at q
        · rename_i j e2
          obtain ⟨j1, j2, j3⟩ := List.findIdx?_eq_some_iff_getElem.mp e2
          refine ⟨a, y, d, ds, j, ds[j], rfl, rfl, (Rp.lst (.inl h1) (r1.mono R.sub)).dp (SeqAt.canLay_of_shaped hz.2), (rv.rp R e1).dp (SeqAt.canLay_of_shaped hz.1), hz.2, hz.1, List.getElem?_eq_getElem j1, j2, fun l z' hl hz' => ?_, q _ _ _ R s (.int _)⟩
          obtain ⟨l1, l2⟩ := List.getElem?_eq_some_iff.mp hz'
          have := j3 l hl
          rw [l2] at this
          simpa using this
        · exact q.elim
      · exact q.elim
    · exact q.elim
  · exact q.elim
def rInsertX : V → List V → Hp → VK → Prop := fun x vs H Q => ∃ (l : Addr) (xs : List V) (i : Int) (y : V), x = .ref l ∧ vs = [.int i, y] ∧ H l = some (.lst xs) ∧ xs.length < sizeLine ∧ 0 ≤ i ∧ i < 2 ^ 63 ∧ Q .non (upd H l (.lst (xs.take i.toNat ++ [y] ++ xs.drop i.toNat)))
theorem m_insert {S S1 : Sl} {σ : Sg} {G G1 H H1 : Hp} {vs : List SV} {xs : List V} {a : Addr} {Q : VK} (R0 : Rel B S σ G H) (s : Stp S σ G H S1 G1 H1) (R : Rel B S1 σ G1 H1) (v : RVs B S1 σ G1 H H1 vs xs) (ha : σ[i]? = some (some (.ref a)))
    (q : K1 B W σ G1 (mInsert i vs S1) (fun r S' => ∀ x G' H', Rel B S' σ G' H' → Stp S σ G H S' G' H' → RV B S' σ G' H H' r x → Q x H')) : rInsertX (.ref a) xs H1 Q := by
  unfold mInsert at q
  split at q
  · rename_i k w
    obtain ⟨x1, y, rfl, rv1, rv⟩ := rvs2 v
    obtain rfl : x1 = .int k := rv1.cint R rfl
    obtain ⟨d, S3, e, q⟩ := q.settle
    obtain ⟨G3, R3, s3, rp, b⟩ := settle_ok R0 s R rv e
    split at q
    · rename_i ds e0
      split at q
      · rename_i hz
        simp only [Bool.and_eq_true, decide_eq_true_eq] at hz
        obtain ⟨zs, h1, r1⟩ := ow_slot R3 e0 ha
        obtain ⟨R4, s4⟩ := R3.write e0 ha (((r1.take k.toNat).append (.cons rp .nil)).append (r1.drop k.toNat))
        exact ⟨a, zs, k, y, rfl, rfl, h1, by rw [r1.length]; exact hz.1.1, hz.1.2, hz.2, q _ _ _ R4 (s3.tr s4) .non⟩
      · exact q.elim
    · exact q.elim
  · exact q.elim
theorem Rps.eraseIdx {G : Hp} : ∀ {xs : List V} {ds : List D} (n : Nat), Rps G xs ds → Rps G (xs.eraseIdx n) (ds.eraseIdx n)
  | _, _, _, .nil => .nil
  | _, _, 0, .cons _ r => r
  | _, _, n + 1, .cons a r => .cons a (r.eraseIdx n)
theorem m_popAt {S S1 : Sl} {σ : Sg} {G G1 H H1 : Hp} {vs : List SV} {xs : List V} {a : Addr} {Q : VK} (R0 : Rel B S σ G H) (s : Stp S σ G H S1 G1 H1) (R : Rel B S1 σ G1 H1) (v : RVs B S1 σ G1 H H1 vs xs) (ha : σ[i]? = some (some (.ref a)))
    (q : K1 B W σ G1 (mPopAt i vs S1) (fun r S' => ∀ x G' H', Rel B S' σ G' H' → Stp S σ G H S' G' H' → RV B S' σ G' H H' r x → Q x H')) : rPopAt (.ref a) xs H1 Q := by
  unfold mPopAt at q
  split at q
  · rename_i ds k e0
    obtain ⟨x1, rfl, rv1⟩ := rvs1 v
    obtain rfl : x1 = .int k := rv1.cint R rfl
    split at q
    · rename_i hz
      rw [Bool.and_eq_true, decide_eq_true_eq, decide_eq_true_eq] at hz
      split at q
      · rename_i d e2
        obtain ⟨zs, h1, r1⟩ := ow_slot R e0 ha
        obtain ⟨w, g1, g2⟩ := r1.get e2
        obtain ⟨R4, s4⟩ := R.write e0 ha (r1.eraseIdx k.toNat)
        have kl : k.toNat < zs.length := (List.getElem?_eq_some_iff.mp g1).1
        refine ⟨a, zs, k, k.toNat, w, rfl, rfl, h1, by omega, hz.2, ?_, g1, q w _ _ R4 (s.tr s4) g2⟩
        have nk : ¬ k < 0 := by omega
        have hb : (decide (0 ≤ k) && decide (k < (zs.length : Int))) = true := by
          rw [Bool.and_eq_true, decide_eq_true_eq, decide_eq_true_eq]
          omega
        unfold seqIndex?
        simp only [nk, if_false]
        rw [if_pos hb]
      · exact q.elim
    · exact q.elim
  · exact q.elim
theorem e_pop (k : Nm X c B) (hi : slot c x = some i) (hline : (ap.endLine == pos.line) = true) : PE X (.Call (.Attribute (.Name x p) "pop" ap) [] [] pos) (tE B W fun S => mPop i S) := by
  unfold slot at hi
  split at hi
  · rename_i hv
    have hN : X.N[i]? = some x := by rw [k.N]; exact lookup_idx hi
    have hx : x ∈ c.N := by rw [← k.N]; exact List.mem_of_getElem? hN
    refine PE.imp (pe_bm0 PySem.F.plainAttrs_list PySem.F.slot_list_pop PySem.F.type_list_pop mt_pop (pe_var hN (vis_ok k.sc hv) (k.okN x hx).1 (k.okN x hx).2) (hline := hline)) fun σ H Q ⟨S, G, R, q⟩ => ?_
    dsimp only at q
    unfold mPop at q
    split at q
    · rename_i ds e0
      split at q
      · rename_i d e2
        obtain ⟨y, e1, a, xs, rfl, h1, h2, h3, h4⟩ := R.at_ i _ e0
        obtain ⟨v, g1, g2⟩ := h4.get e2
        obtain ⟨R4, s4⟩ := R.write e0 e1 h4.dropLast
        refine ⟨_, e1, tyL h3, a, xs, v, rfl, rfl, h3, by rw [h4.length]; exact g1, q v _ _ R4 s4 g2⟩
      · exact q.elim
    · exact q.elim
  · cases hi
end
end Z

set_option maxHeartbeats 2000000
/-! isinstance of data and of exceptions that have a dict; an exception's field. -/
namespace Z
open PySem PySem.Spec PyProof.Rows L2
section
open PySem.W PySem.Calls
variable {prog : Program} {w : World} {A : Around} {E : Value → Shared → Prop} {s : Shared} {K : Frag} {x D : Addr} {ox : Obj} {od : Option Obj}
/-- `__class__` of an exception of an own class -/
theorem exc_cls (T : L2.ExcC K D) (X : K.In s.heap) (I : InstAt s.heap x ox D od) {Q : Option Value → Shared → Prop} (q : Q (some (.ref D)) { s with toks := s.toks + 1 }) : wpAny (model prog w) A (getAttr? (.ref x) "__class__") Q E s := by
  have sm : (clsIn K D).isSome = true := by
    obtain ⟨cd, hc, _⟩ := any_some T.hd
    rw [hc]; rfl
  have fo : findObj K D od "__class__" = some (.bind (.builtin "getset_descriptor.__get__") (.builtin "object.__class__")) := by
    cases e : clsIn K D with
    | none => rw [e] at sm; cases sm
    | some k =>
      unfold findObj
      rw [e, Option.bind_some, T.ha, Option.bind_some]
      simp [T.hn, T.ht]
  obtain ⟨hp, g, d, t, os⟩ := s
  have ty := I.type (M := model prog w)
  have f1 := looks_findIn (M := model prog w) X T.hg
  have f2 := looks_findIn (M := model prog w) X T.hk
  have f3 := looks_find (M := model prog w) X I fo
  have un : Looks (model prog w) hp (isInstance (.ref x) (.type "BaseException")) true := ty.andThen (looks_subIn X T.hs)
  have z0 : (Value.builtin "BaseException.__getattribute__" == Value.builtin "object.__getattribute__") = false := by decide +kernel
  have z1 : (onTheHeap (Value.ref D) && (Value.builtin "BaseException.__getattribute__" == Value.builtin "object.__getattribute__")) = false := by rw [z0]; rfl
  have z2 : (false && onTheHeap (Value.builtin "BaseException.__getattribute__")) = false := rfl
  unfold getAttr? getAttrBy? getAttrBy
  refine wpAny_bind (wpAny_mkText (wpAny_bind (wpAny_attempt (wpAny_holding (wpAny_bind (ty.at (wpAny_bind (f1.at ?_))))))))
  show wpAny (model prog w) _ (if (onTheHeap (Value.ref D) && (Value.builtin "BaseException.__getattribute__" == Value.builtin "object.__getattribute__")) = true then _ else _) _ _ _
  rw [if_neg (by rw [z1]; exact Bool.false_ne_true)]
  unfold getAttrByItsOwn hookBefore
  have z3 : onTheHeap (Value.ref D) = true := rfl
  refine wpAny_bind ?_
  rw [if_pos z3]
  refine f2.at (wpAny_bind (wpAny_attempt (wpAny_holding ?_)))
  unfold callGetattribute
  rw [if_neg (by rw [z2]; exact Bool.false_ne_true)]
  unfold boundAndCalled
  rw [PySem.F.excAttr_ValueError.ga.bind (.ref x)]
  refine wpAny_bind (wpAny_pure ?_)
  show wpAny (model prog w) _ (call (.builtin "BaseException.__getattribute__") [.ref x, .str "__class__" t]) _ _ _
  refine wpAny_call (codeAny_call_builtin PySem.F.excAttr_ValueError.ga.plain PySem.F.entry_bexc_ga (@check_slot (model prog w) _ _ ⟨hp, g, d, t + 1, os⟩ "BaseException.__getattribute__" "BaseException" "__getattribute__" (.ref x) [.str "__class__" t] [] _ (by decide +kernel) (by decide +kernel) un (PySem.F.args_bexc_ga (.ref x) (.str "__class__" t)) ?_))
  unfold Builtin.«object.__getattribute__»
  refine wpAny_bind (wpAny_of_eq (a := ((Value.ref x : Value), [Value.str "__class__" t])) (by first | rfl | (simp only [slotArgs]; rfl)) (wpAny_bind (wpAny_pure (wpAny_bind (ty.at (wpAny_bind (f3.at ?_)))))))
  show wpAny (model prog w) _ (holding [Value.builtin "object.__class__"] (call (.builtin "getset_descriptor.__get__") [.builtin "object.__class__", .ref x, .ref D]) >>= ret) _ _ _
  refine wpAny_bind (wpAny_holding (wpAny_call (class_get (s := ⟨hp, g, d, t + 1, os⟩) (ox := ox) (od := od) X I T.hm (wpAny_pure ?_))))
  show wpAny (model prog w) _ (handedOut (.ref D)) _ _ _
  rw [handedOut_of (v := .ref D) rfl]
  first
    | exact wpAny_pure (wpAny_pure q)
    | exact wpAny_pure q
    | exact wpAny_pure (wpAny_bind (wpAny_pure (wpAny_pure q)))
theorem exc_kit (T : L2.ExcC K D) : KitX K (.ref x) (.ref D) (fun h => InstAt h x ox D od) := by
  obtain ⟨cd, hc, _⟩ := any_some T.hd
  unfold clsIn at hc
  split at hc
  case h_2 => cases hc
  rename_i c' d' cd' sl' ho
  refine ⟨fun _ _ _ I => I.type, fun _ _ X _ A' Q' E' s' k q => ?_, fun h tp dd its n sl X htp => Bool.eq_false_iff.mpr fun q => ?_, fun X I k => exc_cls T X I k⟩
  · unfold isType loadHead
    exact wpAny_bind (wpAny_loadPart (k _ _ (X _ _ ho)) (wpAny_pure q))
  · have e : D = tp := Value.ref.inj (beq_iff_eq.mp q)
    subst e
    cases (X _ _ ho).symm.trans htp
end

/-! ### what a name of a class is -/
/-- the name t of a class stands for cv -/
structure Named (X : Cx) (t : Str) (cv : V) (u : Value) : Prop where
  ok : X.mg t = some u ∨ (X.mg t = none ∧ bootBuiltins t = some u ∧ t ≠ "__name__")
  rel : RelV cv u
  cls : ClsV cv u
  nd : (t == ("__debug__" : Str)) = false
theorem Named.pe {X : Cx} {t : Str} {cv : V} {u : Value} {p : Pos} (n : Named X t cv u) (hg : Gl X t) : PE X (.Name t p) (tC cv) := by
  rcases n.ok with h | ⟨h1, h2, h3⟩
  · exact pe_glob hg h n.rel n.nd
  · exact pe_bltn hg h1 h2 n.rel h3 n.nd
/-- what the context says of classes -/
structure NmX (X : Cx) (c : Ctx) : Prop where
  own : ∀ k xc, c.xcl k = some xc → ∃ C, X.mg k = some (.ref C) ∧ L2.ExcC X.K C ∧ PySem.W.findIn X.K (.ref C) xc.fld = some none
  named : ∀ t, c.isT t = true → ∃ cv u, Named X t cv u
  isx : ∀ k t b, c.isx k t = some b → c.isT t = true ∧ ∃ C cv u, X.mg k = some (.ref C) ∧ L2.ExcC X.K C ∧ Named X t cv u ∧ PySem.W.kitOne X.K (.ref C) u = some b ∧ PySem.W.exmOne X.K (.ref C) u = some b
section
variable {X : Cx} {B : Bx} {W : WX} {c : Ctx} {S : Sl} {σ : Sg} {G H H0 : Hp} {pos p ap : Pos} {a : Expr} {f : Sl → O SV}
theorem tyX_of {K : PySem.W.Frag} {x : V} {d : D} (h : Rp H x d) : TyX K H x (.type (tyOf d)) := by
  cases h with
  | non => exact .base .non
  | bl b => exact .base (.bl b)
  | int i => exact .base (.int i)
  | str s => exact .base (.str s)
  | lst h _ =>
    rcases h with h | ⟨o, h⟩
    · exact .base (.lst h)
    · exact .base (.frz h)
  | tup h _ =>
    rcases h with h | ⟨o, h⟩
    · exact .base (.tup h)
    · exact .fTuple h
  | dic h => exact .base (.dK h)
theorem kitT : ∀ a ∈ ["NoneType", "bool", "int", "str", "list", "tuple", "dict"], ∀ b ∈ ["int", "bool", "str", "tuple", "list"], kitB a b = some (decide (a = b) || (decide (a = "bool") && decide (b = "int"))) := by decide +kernel
theorem tyOf_in (d : D) : tyOf d ∈ ["NoneType", "bool", "int", "str", "list", "tuple", "dict"] := by cases d <;> simp [tyOf]
theorem kit_is {d : D} {t : Str} {b : Bool} (h : isD d t = some b) : ∃ n : String, bootBuiltins t = some (.type n) ∧ kitB (tyOf d) n = some b ∧ t ≠ "__name__" ∧ (t == ("__debug__" : Str)) = false := by
  unfold isD at h
  split at h
  · rename_i e; subst e
    refine ⟨"int", by decide +kernel, ?_, by decide +kernel, by decide +kernel⟩
    rw [kitT _ (tyOf_in d) _ (by simp)]; cases d <;> (cases h; simp [tyOf])
  split at h
  · rename_i e; subst e
    refine ⟨"bool", by decide +kernel, ?_, by decide +kernel, by decide +kernel⟩
    rw [kitT _ (tyOf_in d) _ (by simp)]; cases d <;> (cases h; simp [tyOf])
  split at h
  · rename_i e; subst e
    refine ⟨"str", by decide +kernel, ?_, by decide +kernel, by decide +kernel⟩
    rw [kitT _ (tyOf_in d) _ (by simp)]; cases d <;> (cases h; simp [tyOf])
  split at h
  · rename_i e; subst e
    refine ⟨"tuple", by decide +kernel, ?_, by decide +kernel, by decide +kernel⟩
    rw [kitT _ (tyOf_in d) _ (by simp)]; cases d <;> (cases h; simp [tyOf])
  split at h
  · rename_i e; subst e
    refine ⟨"list", by decide +kernel, ?_, by decide +kernel, by decide +kernel⟩
    rw [kitT _ (tyOf_in d) _ (by simp)]; cases d <;> (cases h; simp [tyOf])
  · cases h
theorem five {t : Str} (h : t = "int" ∨ t = "bool" ∨ t = "str" ∨ t = "tuple" ∨ t = "list") : ∃ n : String, bootBuiltins t = some (.type n) ∧ t ≠ "__name__" ∧ (t == ("__debug__" : Str)) = false := by
  rcases h with rfl | rfl | rfl | rfl | rfl
  · exact ⟨"int", by decide +kernel, by decide +kernel, by decide +kernel⟩
  · exact ⟨"bool", by decide +kernel, by decide +kernel, by decide +kernel⟩
  · exact ⟨"str", by decide +kernel, by decide +kernel, by decide +kernel⟩
  · exact ⟨"tuple", by decide +kernel, by decide +kernel, by decide +kernel⟩
  · exact ⟨"list", by decide +kernel, by decide +kernel, by decide +kernel⟩
theorem Named.uniq {t : Str} {cv cv' : V} {u u' : Value} (n : Named X t cv u) (m : Named X t cv' u') : u = u' := by
  rcases n.ok with h | ⟨h1, h2, h3⟩ <;> rcases m.ok with g | ⟨g1, g2, g3⟩
  · rw [h] at g; exact Option.some.inj g
  · rw [h] at g1; cases g1
  · rw [h1] at g; cases g
  · rw [h2] at g2; exact Option.some.inj g2
/-- isinstance of an exception -/
def rIsX (K : PySem.W.Frag) : List V → Hp → VK → Prop := fun xs H Q => ∃ (a C d : Addr) (cv : V) (u : Value) (fs : List (Str × V)) (b : Bool), xs = [.ref a, cv] ∧ H a = some (ExcO a C d) ∧ H d = some (.xd fs) ∧ L2.ExcC K C ∧ ClsV cv u ∧ PySem.W.kitOne K (.ref C) u = some b ∧ Q (.bl b) H
theorem inst_at {pins : List (Addr × Obj)} {s : Shared} {a C d : Addr} {fs : List (Str × V)} (I : Inv X pins σ H s) (h1 : H a = some (ExcO a C d)) (h2 : H d = some (.xd fs)) : ∃ (ox od : Obj) (mA : Str → Option Value), PySem.W.InstAt s.heap a ox C (some od) ∧ (∀ n, RelO (fs.lookup n) (mA n)) ∧ ∀ n, PySem.W.lookIn n od = some (mA n) := by
  obtain ⟨⟨oe, vs, e1, e2, e3, e4⟩, _, _⟩ := (show ObjOk X.prog X.w H s.heap a (ExcO a C d) from I.hok a _ h1)
  obtain ⟨mA, hns, hr⟩ := (show ObjOk X.prog X.w H s.heap d (.xd fs) from I.hok d _ h2)
  obtain ⟨od, ho, hl⟩ := lookIn_ns hns
  exact ⟨oe, od, mA, ⟨e1, e2, by unfold PySem.W.notCls; rw [e4] <;> rfl, by rw [e3]; exact ho⟩, hr, hl⟩
theorem call_isX : CallR X (.builtin "isinstance") (fun xs H Q => rIsi X.K xs H Q ∨ rIsX X.K xs H Q) := by
  intro pins s σ H xs us Q I r h
  rcases h with h | ⟨a, C, d, cv, u, fs, b, rfl, h1, h2, T, k, e, q⟩
  · exact call_isi pins s σ H xs us Q I r h
  · obtain ⟨u1, u2, rfl, r1, r2⟩ := vals2 r
    cases (show u1 = Value.ref a from r1)
    have e2 := k.eq r2
    subst e2
    obtain ⟨ox, od, mA, J, _, _⟩ := inst_at I h1 h2
    exact PySem.W.kia_one (exc_kit T) I.kIn J e (fun z => nomatch z) fun tk => ⟨.bl b, H, I.kept (t' := tk) fun _ _ z => z, rfl, q⟩
theorem e_isi (k : Nm X c B) (kx : NmX X c) (hb : isNm c "isinstance" = some .bi) {t : Str} (ht : isOk c t = true) (hn : noStar [a] = true) (ha : PE X a (tE B W f)) :
    PE X (.Call (.Name "isinstance" p) [a, .Name t ap] [] pos) (tE B W fun S => (f S).bind fun x S1 => O.of ((isV c S1 x t).map fun b => .dat (.bool b)) S1) := by
  obtain ⟨h1, h2⟩ := isNm_ok hb
  unfold isOk at ht
  simp only [Bool.and_eq_true, Bool.or_eq_true, decide_eq_true_eq] at ht
  obtain ⟨⟨g1, g2⟩, g3⟩ := ht
  have ns : noStar [a, .Name t ap] = true := by
    cases a <;> first | rfl | (cases hn; done)
  have nm : ∃ cv u, Named X t cv u := by
    rcases g3 with g3 | ⟨g3, g4⟩
    · exact kx.named t g3
    · have g5 : isNm c t = some .bi := by
        unfold biG at g3
        split at g3
        · assumption
        · cases g3
      have hm := k.bi t (isNm_ok g5).2
      obtain ⟨n, q1, q2, q3⟩ := five (by simpa [or_assoc] using g4)
      exact ⟨.ty n, .type n, .inr ⟨hm, q1, q2⟩, rfl, .ty n, q3⟩
  obtain ⟨cv, u, nm⟩ := nm
  refine PE.imp (pe_callB call_isX (glo_ok k.sc h1) (k.bi _ h2) (by decide +kernel) (pa_cons ha (pa_cons (nm.pe (glo_ok k.sc g1)) pa_nil) (hs := star_one ns)) (he := star_one ns) (hpl := star_any (star_tail ns))) fun σ H Q ⟨S, G, R, q⟩ => ?_
  refine tE.then R q fun x S1 v G1 H1 R1 s1 v1 q1 => ?_
  obtain ⟨r, e3, q3⟩ := K1.of q1
  cases e : isV c S1 x t with
  | none => rw [e] at e3; cases e3
  | some b =>
    rw [e] at e3
    cases e3
    have fin : ∀ b, Q (.bl b) H1 → Q (.bl b) H1 := fun _ z => z
    have dat : ∀ d, cont S1 x = some d → biG c t = true → isD d t = some b → rIsi X.K [v, cv] H1 Q := fun d c1 c2 c3 => by
      obtain ⟨n, m1, m2, m3, m4⟩ := kit_is c3
      have g5 : isNm c t = some .bi := by
        unfold biG at c2
        split at c2
        · assumption
        · cases c2
      have hm := k.bi t (isNm_ok g5).2
      have eu := nm.uniq (⟨.inr ⟨hm, m1, m3⟩, rfl, .ty n, m4⟩ : Named X t (.ty n) (.type n))
      have nc := nm.cls
      rw [eu] at nc
      exact ⟨v, cv, .type (tyOf d), .type n, b, rfl, nc, tyX_of (v1.rp R1 c1), kit_ty m2, q3 _ G1 H1 R1 s1 (.bl b)⟩
    unfold isV at e
    cases x with
    | exc kc fs =>
      obtain ⟨_, C, cv', u', j1, j2, j3, j4, _⟩ := kx.isx kc t b e
      obtain ⟨aa, C', dd, vs, rfl, w1, w2, w3, w4⟩ := v1
      rw [← k.mg, j1] at w1
      cases w1
      have eu := nm.uniq j3
      subst eu
      exact .inr ⟨aa, C, dd, cv, u, vs, b, rfl, R1.sub _ _ w2, R1.sub _ _ w3, j2, nm.cls, j4, q3 _ G1 H1 R1 s1 (.bl b)⟩
    | dat d =>
      dsimp only at e
      split at e
      · rename_i hb2
        exact .inl (dat d rfl hb2 e)
      · cases e
    | own ds =>
      dsimp only at e
      split at e
      · rename_i hb2
        exact .inl (dat (.list ds) rfl hb2 e)
      · cases e
    | bor i =>
      dsimp only at e
      split at e
      · rename_i hb2
        cases e5 : cont S1 (.bor i) with
        | none => rw [e5] at e; cases e
        | some d =>
          rw [e5] at e
          exact .inl (dat d e5 hb2 e)
      · cases e
    | thk r kk fs =>
      dsimp only at e
      split at e <;> cases e
/-- an exception's field -/
theorem e_fld (k : Nm X c B) (kx : NmX X c) {y fl : Str} (ha : PE X (.Name y p) (tE B W f)) : PE X (.Attribute (.Name y p) fl pos) (tE B W fun S => (f S).bind fun x S1 => match x with
        | .exc k fs => (match c.xcl k with
          | some xc => if xc.fld = fl then O.of ((fs.lookup fl).map .dat) S1 else .bad
          | none => .bad)
        | _ => .bad) := by
  refine ⟨fun pins s σ H Q I ⟨S, G, R, q⟩ => ?_⟩
  refine attr_of rfl (thn (ha.run pins s σ H _ I (tE.then R q (Q := fun v H1 => ∃ (a C d : Addr) (fs : List (Str × V)) (w : V), v = .ref a ∧ H1 a = some (ExcO a C d) ∧ H1 d = some (.xd fs) ∧ L2.ExcC X.K C ∧ PySem.W.findIn X.K (.ref C) fl = some none ∧ fs.lookup fl = some w ∧ Q w H1) fun x S1 v G1 H1 R1 s1 v1 q1 => ?_)) fun u s1 hh => ?_)
  · split at q1
    · rename_i kc fs
      split at q1
      · rename_i xc e1
        split at q1
        · rename_i e2
          subst e2
          obtain ⟨C, j1, j2, j3⟩ := kx.own kc xc e1
          obtain ⟨aa, C', dd, vs, rfl, w1, w2, w3, w4⟩ := v1
          rw [← k.mg, j1] at w1
          cases w1
          obtain ⟨r, e3, q3⟩ := K1.of q1
          cases e4 : fs.lookup xc.fld with
          | none => rw [e4] at e3; cases e3
          | some d =>
            rw [e4] at e3
            cases e3
            obtain ⟨w, l1, l2⟩ := w4.look e4
            exact ⟨aa, C, dd, vs, w, rfl, R1.sub _ _ w2, R1.sub _ _ w3, j2, j3, l1, q3 _ G1 H1 R1 s1 l2⟩
        · exact q1.elim
      · exact q1.elim
    · exact q1.elim
  · obtain ⟨v, H1, I1, rv, a, C, d, fs, w, rfl, h1, h2, T, hno, hl, hq⟩ := hh
    obtain rfl : u = Value.ref a := rv
    obtain ⟨ox, od, mA, J, hr, hl2⟩ := inst_at I1 h1 h2
    obtain ⟨z, hz, rz⟩ := RelO.some_of (v := w) (o := mA fl) (by rw [← hl]; exact hr fl)
    exact HandSPX.exc_get I1.kIn J T.hg T.hk T.hs (PySem.W.findObj_own T.hd hno rfl (by rw [hl2, hz])) (handed_of rz) ⟨w, H1, I1.tok _, rz, hq⟩
end
end Z

set_option maxHeartbeats 2000000
/-! What a loop walks: lists, tuples, ranges, enumerate, zip over both. -/
namespace Z
open PySem PySem.Spec PyProof.Rows L2
/-- a list (true) or a tuple -/
def SqX (K : PySem.W.Frag) : Bool → Hp → Addr → List V → Prop
  | true => SqL K
  | false => SqT K
def ItX : Bool → Heap → Addr → Addr → Nat → Prop
  | true, h, it, a, i => h.IsListIter it a i
  | false, h, it, a, i => h.IsTupleIter it a i
def ObX : Bool → Heap → Addr → Array Value → Prop
  | true, h, a, its => h.IsList a its
  | false, h, a, its => h.IsTuple a its
def drO (b : Bool) (a : Addr) : Obj := match b with
  | true => { cls := .type "list_iterator", data := .fields #[.ref a, .int 0 0] }
  | false => { cls := .type "tuple_iterator", data := .fields #[.ref a, .int 0 0] }
section
variable {X : Cx} {pins : List (Addr × Obj)} {σ : Sg} {H : Hp} {s : Shared} {a : Addr} {xs : List V}
theorem sqx (I : Inv X pins σ H s) {b : Bool} (h : SqX X.K b H a xs) : ∃ its : List Value, Vals xs its ∧ ObX b s.heap a its.toArray ∧ a < s.heap.objs.size := by
  cases b with
  | true =>
    obtain ⟨its, r, p, _⟩ := I.list h
    exact ⟨its, r, p.isList, p.lt⟩
  | false =>
    obtain ⟨its, r, p, _⟩ := I.tuple h
    obtain ⟨o, e, _⟩ := id p
    exact ⟨its, r, p, Heap.lt_size e⟩
theorem vals_at {xs : List V} {us : List Value} {i : Nat} {u : Value} (r : Vals xs us) (h : us[i]? = some u) : ∃ v, xs[i]? = some v ∧ RelV v u := by
  have l := r.length
  obtain ⟨hi, e⟩ := List.getElem?_eq_some_iff.mp h
  have hi' : i < xs.length := by omega
  obtain ⟨u', h1, h2⟩ := r.get (List.getElem?_eq_getElem hi')
  rw [h] at h1
  cases h1
  exact ⟨_, List.getElem?_eq_getElem hi', h2⟩
theorem begX (b : Bool) (a : Addr) (its : Array Value) : Begins (.ref a) (drO b a) fun h => ObX b h a its := by
  cases b with
  | true => exact begins_list a its
  | false => exact begins_tuple a its
theorem drawsX {prog : Program} {w : World} {A : Around} (hh : A.handled = none) (b : Bool) (it a : Addr) (ne : a ≠ it) (its : Array Value) :
    Draws prog w A it [it, a] its.size (fun i v => its[i]? = some v) (fun i h => ItX b h it a i ∧ ObX b h a its) := by
  cases b with
  | true => exact .list hh it a ne its
  | false => exact .tuple hh it a ne its
theorem ItX.rec {b : Bool} {h : Heap} {it a : Addr} {i : Nat} (x : ItX b h it a i) : ∃ o, h.get? it = some o ∧ ∀ v, o.data ≠ .cell v := by
  cases b <;> (obtain ⟨o, e, _, d⟩ := x; exact ⟨o, e, fun v z => by rw [d] at z; cases z⟩)
theorem ItX.keep {b : Bool} {h h' : Heap} {it a : Addr} {i : Nat} (x : ItX b h it a i) (k : ∀ o, h.get? it = some o → h'.get? it = some o) : ItX b h' it a i := by
  cases b
  · exact (show h.IsTupleIter it a i from x).at k
  · exact (show h.IsListIter it a i from x).at k
theorem ItX.ne {b : Bool} {h : Heap} {it a : Addr} {i : Nat} (x : ItX b h it a i) {its : Array Value} (y : ObX b h a its) : a ≠ it := fun e => by
  subst e
  cases b <;> (
    obtain ⟨o, e, c, d⟩ := x
    obtain ⟨o', e', c', _⟩ := y
    rw [e] at e'
    cases e'
    rw [c] at c'
    injection c' with q
    exact absurd q (by decide))
theorem ItX.start {b : Bool} {h : Heap} {it a : Addr} (e : h.get? it = some (drO b a)) : ItX b h it a 0 := by
  cases b <;> exact ⟨_, e, rfl, rfl⟩

/-- the rows that an iterator of new tuples gives -/
def ItW (go stop : Nat → Hp → Prop) (row : Nat → List V → Prop) : It := ⟨go, fun i H v H' => ∃ T xs, v = .ref T ∧ H T = none ∧ H' = upd H T (.tup xs) ∧ row i xs, stop⟩
theorem turnW {P : Program} {w : World} {K : PySem.W.Frag} {elts : List Expr} {kk : Nat} {tpos : Pos} {go stop : Nat → Hp → Prop} {row : Nat → List V → Prop} {fp : List Addr} {it : Addr} {tn : Nat → Heap → Prop} (mem : it ∈ fp)
    (obj : ∀ i h, tn i h → ∀ b ∈ fp, ∃ o, h.get? b = some o ∧ ∀ v, o.data ≠ .cell v)
    (keep : ∀ i h h', tn i h → (∀ b ∈ fp, ∀ o, h.get? b = some o → h'.get? b = some o) → tn i h')
    (self : ∀ (A : Around) (i : Nat) (s : Shared) (Q : Value → Shared → Prop) (E : Value → Shared → Prop), tn i s.heap → Q (.ref it) s → wpAny (model P w) A (pyIter (.ref it)) Q E s)
    (walk : ∀ (X : Cx), X.prog = P → X.w = w → X.K = K → X.calm = true → ∀ (i : Nat) (pins : List (Addr × Obj)) (s : Shared) (σ : Sg) (H : Hp), Inv X pins σ H s → tn i s.heap → (go i H ∨ stop i H) →
      ∃ (fpW wr : List Addr) (n : Nat) (Pt : Nat → Array Value → Prop) (St : Nat → Heap → Prop) (Mid : Nat → Addr → Heap → Prop), WalksT P w X.A it fpW wr n Pt St Mid ∧ St i s.heap ∧ (∀ b ∈ wr, b ∈ fp) ∧ (go i H → i < n) ∧ (stop i H → i = n) ∧
        (∀ h', St (i + 1) h' → tn (i + 1) h') ∧ ∀ vals, Pt i vals → ∃ xs, Vals xs vals.toList ∧ row i xs ∧ xs.length ≤ sizeLine) :
    Turn P w K (.Tuple elts kk tpos) (ItW go stop row) fp it tn where
  mem := mem
  obj := obj
  keep := keep
  self := self
  item := by
    intro X hP hw hK hc i pins s σ H E I hf st hg
    obtain ⟨fpW, wr, n, Pt, St, Mid, W, h1, h2, h3, _, h4, h5⟩ := walk X hP hw hK hc i pins s σ H I st (.inl hg)
    refine W.item i s _ _ (h3 hg) h1 fun T vals h' tk hp hT ht mid kk1 => ?_
    refine ⟨_, rfl, W.go _ _ _ i T { s with heap := h', toks := tk } _ _ mid fun h'' st'' kk2 => ?_⟩
    obtain ⟨ys, r1, r2, r3⟩ := h5 vals hp
    have nT := W.apart i T _ mid
    have hT2 : IsTup h'' T vals := by
      obtain ⟨o, e, z⟩ := ht
      exact ⟨o, kk2 T o nT e, z⟩
    have new : ObjOk X.prog X.w (upd H T (.tup ys)) h'' T (.tup ys) := ⟨r3, vals.toList, r1, by rw [Array.toArray_toList]; exact hT2⟩
    have I1 : Inv X pins σ (upd H T (.tup ys)) { s with heap := h'', toks := tk } :=
      I.turnedNew (ch := wr) (fun b o hb e => kk2 b o hb (kk1 b o hb e)) (fun b hb => hf b (h2 b hb)) hT new
    refine ⟨.ref T, _, I1, rfl, ⟨T, ys, rfl, I.hok.fresh hT, rfl, r2⟩, h4 _ st'', fun b hb => ?_⟩
    obtain ⟨o, e, _⟩ := obj i _ st b hb
    rw [upd_ne (Nat.ne_of_lt (Nat.lt_of_lt_of_le (Heap.lt_size e) hT))]
    exact (hf b hb).1
  done := by
    intro X hP hw hK hc i pins s σ H E I hf st hg
    obtain ⟨fpW, wr, n, Pt, St, Mid, W, h1, h2, _, h3, _, _⟩ := walk X hP hw hK hc i pins s σ H I st (.inr hg)
    have e := h3 hg
    subst e
    exact W.done s _ _ h1 fun h' tk k => ⟨rfl, I.turnedL (ch := wr) k fun b hb => hf b (h2 b hb)⟩

/-! ### enumerate -/
def ItE (K : PySem.W.Frag) (b : Bool) (a : Addr) (xs : List V) : It := ItW (fun i H => i < xs.length ∧ SqX K b H a xs) (fun i H => i = xs.length ∧ SqX K b H a xs) fun i ys => ∃ x, xs[i]? = some x ∧ ys = [.int (i : Nat), x]
theorem turnE {P : Program} {w : World} {K : PySem.W.Frag} {elts : List Expr} {kk : Nat} {tpos : Pos} (b : Bool) (a e it : Addr) (xs : List V) :
    Turn P w K (.Tuple elts kk tpos) (ItE K b a xs) [e, it] e (fun i h => (∃ old, IsEnum h e it ((i : Nat) : Int) old) ∧ ItX b h it a i ∧ e ≠ it ∧ a < e ∧ a < it) := by
  refine turnW (by simp) (fun i h st c hc => ?_) (fun i h h' st k => ?_) (fun A i s Q E st h => ?_) fun X hP hw hK hc i pins s σ H I st hg => ?_
  · obtain ⟨⟨old, he⟩, hi, _⟩ := st
    have q : c = e ∨ c = it := by simpa using hc
    rcases q with z | z
    · rw [z]; exact ⟨_, he, fun v q => nomatch q⟩
    · rw [z]; exact hi.rec
  · obtain ⟨⟨old, he⟩, hi, r⟩ := st
    exact ⟨⟨old, k e (by simp) _ he⟩, hi.keep fun o q => k it (by simp) o q, r⟩
  · obtain ⟨⟨_, he⟩, _⟩ := st
    exact wpAny_pyIter_enum he h
  · subst hP hw hK
    obtain ⟨⟨old, he⟩, hi, ne, l1, l2⟩ := st
    have sq : SqX X.K b H a xs := by
      rcases hg with z | z
      · exact z.2
      · exact z.2
    obtain ⟨its, rv, ob, _⟩ := sqx I sq
    have hl := rv.length
    have hd : X.A.in1.handled = none := I.ok.hd hc
    refine ⟨_, _, _, _, _, _, WalksT.enumFrom 0 (drawsX hd b it a (hi.ne ob) its.toArray) e ne (fun z => ?_) (by simp), ⟨⟨old, by rw [Int.zero_add]; exact he⟩, hi, ob⟩, fun c hc => hc, fun z => by simpa [← hl] using z.1, fun z => by simpa [← hl] using z.1, fun h' st' => ?_, fun vals hp => ?_⟩
    · have q : e = it ∨ e = a := by simpa using z
      rcases q with q | q
      · exact ne q
      · rw [q] at l1; exact Nat.lt_irrefl _ l1
    · obtain ⟨⟨old', he'⟩, hi', _⟩ := st'
      rw [Int.zero_add] at he'
      exact ⟨⟨old', he'⟩, hi', ne, l1, l2⟩
    · obtain ⟨t, x, hx, rfl⟩ := hp
      rw [List.getElem?_toArray] at hx
      obtain ⟨v, hv, r⟩ := vals_at rv hx
      exact ⟨[.int (i : Nat), v], .cons ⟨t, by rw [Int.zero_add]⟩ (.cons r .nil), ⟨v, hv, rfl⟩, by show 2 ≤ sizeLine; decide⟩

/-! ### zip -/
def ItZ (K : PySem.W.Frag) (b b' : Bool) (a a' : Addr) (xs ys : List V) : It := ItW (fun i H => (i < xs.length ∧ i < ys.length) ∧ SqX K b H a xs ∧ SqX K b' H a' ys) (fun i H => i = min xs.length ys.length ∧ SqX K b H a xs ∧ SqX K b' H a' ys) fun i zs => ∃ x y, xs[i]? = some x ∧ ys[i]? = some y ∧ zs = [x, y]
theorem turnZ {P : Program} {w : World} {K : PySem.W.Frag} {elts : List Expr} {kk : Nat} {tpos : Pos} (b b' : Bool) (a a' : Addr) (N : Nat) (xs ys : List V) (la : a < N) (la' : a' < N) :
    Turn P w K (.Tuple elts kk tpos) (ItZ K b b' a a' xs ys) [N + 4, N + 2, N + 3, N, N + 1] (N + 4)
      (fun i h => IsZip h (N + 4) (N + 2) (N + 3) .none ∧ IsTupOf2 h (N + 2) (.ref N) (.ref (N + 1)) ∧ (∃ a1 a2, IsTupOf2 h (N + 3) a1 a2) ∧ ItX b h N a i ∧ ItX b' h (N + 1) a' i) := by
  have in5 : ∀ c, c ∈ [N + 4, N + 2, N + 3, N, N + 1] → c = N + 4 ∨ c = N + 2 ∨ c = N + 3 ∨ c = N ∨ c = N + 1 := fun c hc => by simpa using hc
  refine turnW (by simp) (fun i h st c hc => ?_) (fun i h h' st k => ?_) (fun A i s Q E st h => wpAny_pyIter_zip st.1 h) fun X hP hw hK hc i pins s σ H I st hg => ?_
  · obtain ⟨h1, h2, ⟨_, _, h3⟩, h4, h5⟩ := st
    rcases in5 c hc with z | z | z | z | z
    · rw [z]; exact ⟨_, h1, fun v q => nomatch q⟩
    · rw [z]; exact ⟨_, h2, fun v q => nomatch q⟩
    · rw [z]; exact ⟨_, h3, fun v q => nomatch q⟩
    · rw [z]; exact h4.rec
    · rw [z]; exact h5.rec
  · obtain ⟨h1, h2, ⟨a1, a2, h3⟩, h4, h5⟩ := st
    exact ⟨k _ (by simp) _ h1, k _ (by simp) _ h2, ⟨a1, a2, k _ (by simp) _ h3⟩, h4.keep fun o q => k N (by simp) o q, h5.keep fun o q => k (N + 1) (by simp) o q⟩
  · subst hP hw hK
    obtain ⟨h1, h2, h3, h4, h5⟩ := st
    have sq : SqX X.K b H a xs ∧ SqX X.K b' H a' ys := by
      rcases hg with z | z
      · exact z.2
      · exact z.2
    obtain ⟨its, rv, ob, _⟩ := sqx I sq.1
    obtain ⟨jts, rw_, ob', _⟩ := sqx I sq.2
    have hl := rv.length
    have hl' := rw_.length
    have hd : X.A.in1.handled = none := I.ok.hd hc
    have S := zip_sep2 (N := N) (fp1 := [a]) (fp2 := [a']) (fun b hb => by rw [List.mem_singleton.mp hb]; exact la) (fun b hb => by rw [List.mem_singleton.mp hb]; exact la')
    refine ⟨_, _, _, _, _, _, WalksT.zipD2 S (drawsX hd b N a (h4.ne ob) its.toArray) (drawsX hd b' (N + 1) a' (h5.ne ob') jts.toArray), ⟨h1, h2, h3, ⟨h4, ob⟩, ⟨h5, ob'⟩⟩, fun c hc => ?_, fun z => ?_, fun z => ?_, fun h' st' => ?_, fun vals hp => ?_⟩
    · simp only [List.mem_cons, List.not_mem_nil, or_false] at hc ⊢
      rcases hc with q | q | q | q <;> simp [q]
    · have := z.1; simp only [List.size_toArray]; omega
    · have := z.1; simp only [List.size_toArray]; omega
    · obtain ⟨j1, j2, j3, j4, j5⟩ := st'
      exact ⟨j1, j2, j3, j4.1, j5.1⟩
    · obtain ⟨x, y, hx, hy, rfl⟩ := hp
      rw [List.getElem?_toArray] at hx hy
      obtain ⟨v, hv, r⟩ := vals_at rv hx
      obtain ⟨v', hv', r'⟩ := vals_at rw_ hy
      exact ⟨[v, v'], .cons r (.cons r' .nil), ⟨v, v', hv, hv', rfl⟩, by show 2 ≤ sizeLine; decide⟩

/-! ### lists and tuples themselves -/
theorem turn_mono {P : Program} {w : World} {K : PySem.W.Frag} {tg : Expr} {J J' : It} {fp : List Addr} {it : Addr} {tn : Nat → Heap → Prop} (T : Turn P w K tg J fp it tn) (g : ∀ i H, J'.go i H → J.go i H) (st : ∀ i H, J'.stop i H → J.stop i H)
    (y : ∀ i H x H', J'.go i H → J.yld i H x H' → J'.yld i H x H') : Turn P w K tg J' fp it tn where
  mem := T.mem
  obj := T.obj
  keep := T.keep
  self := T.self
  done := fun X a b c d i pins s σ H E I hf t h => T.done X a b c d i pins s σ H E I hf t (st i H h)
  item := fun X a b c d i pins s σ H E I hf t h => by
    refine thn (T.item X a b c d i pins s σ H E I hf t (g i H h)) fun r s1 ⟨u, e, k⟩ => ⟨u, e, thn k fun _ s2 ⟨x, H', I', rx, yy, q⟩ => ⟨x, H', I', rx, y i H x H' h yy, q⟩⟩
def ItS (K : PySem.W.Frag) (b : Bool) (a : Addr) (xs : List V) : It := ⟨fun i H => i < xs.length ∧ SqX K b H a xs, fun i H x H' => H' = H ∧ xs[i]? = some x, fun i H => xs.length ≤ i ∧ SqX K b H a xs⟩
theorem turnS {P : Program} {w : World} {K : PySem.W.Frag} {tg : Expr} (b : Bool) (a it : Addr) (xs : List V) : Turn P w K tg (ItS K b a xs) [it] it (fun i h => ItX b h it a i) := by
  cases b with
  | true => exact turn_mono (turn_list a it) (fun i H h => ⟨xs, _, h.2, List.getElem?_eq_getElem h.1⟩) (fun i H h => ⟨xs, h.2, h.1⟩) fun i H x H' h y => ⟨y.1, y.2 xs h.2⟩
  | false => exact turn_mono (turn_tuple a it) (fun i H h => ⟨xs, _, h.2, List.getElem?_eq_getElem h.1⟩) (fun i H h => ⟨xs, h.2, h.1⟩) fun i H x H' h y => ⟨y.1, y.2 xs h.2⟩
end

/-! ### how each begins -/
theorem new_enum1 {v : Value} {o : Obj} {Hh : Heap → Prop} (B : Begins v o Hh) :
    Meets (Builtin.«enumerate.__new__» ⟨[.type "enumerate", v], []⟩) (fun _ R s => Hh s.heap ∧
      R (.ok (.ret (.ref (s.heap.push o).objs.size))) { s with heap := (s.heap.push o).push { cls := .type "enumerate", data := .fields #[.none, .bool false, .ref s.heap.objs.size, rawInt 0, .none, .none] } }) :=
  .of_wp fun prog w A R s h => by
    obtain ⟨hp, g, d, tk, os⟩ := s
    obtain ⟨h1, h⟩ := h
    have sub := sub_enumerate
    have beg : ∀ {A' : Around} {E : Value → Shared → Prop} {Q : Value → Shared → Prop}, Q (.ref hp.objs.size) ⟨hp.push o, g, d, tk, os⟩ → wpAny (model prog w) A' (pyIter v) Q E ⟨hp, g, d, tk, os⟩ :=
      fun q => B.iter prog w _ _ ⟨hp, g, d, tk, os⟩ _ h1 q
    wp_walk using beg
    refine wpAny_stack_any fun st => wpAny_pure ?_
    split
    · rename_i c _ _ _ _ _
      cases (c == Value.type "enumerate") <;> (wp_walk using beg; exact ⟨_, rfl, h⟩)
    · wp_walk using beg
      exact ⟨_, rfl, h⟩
section
variable {X : Cx} {tg : Expr}
def iSeqX (K : PySem.W.Frag) (te : TE) : TI := fun σ H R => te σ H fun x H1 => ∃ b a xs, x = .ref a ∧ SqX K b H1 a xs ∧ R (ItS K b a xs) H1
theorem pi_seqX {e : Expr} {te : TE} (he : PE X e te) : PI X tg e (iSeqX X.K te) := by
  refine ⟨fun pins s σ H R I h => ?_⟩
  refine thn (he.run pins s σ H _ I h) fun v s1 ⟨x, H1, I1, r1, b, a, xs, e, hq, q⟩ => ?_
  subst e
  cases r1
  obtain ⟨its, rv, ob, _⟩ := sqx I1 hq
  exact (begX b a its.toArray).iter _ _ _ _ s1 _ ob (pi_one (tk := s1.toks) I1 _ (turnS b a _ xs) (ItX.start (Heap.get?_push_size _ (by cases b <;> rfl))) q)
def iEnumX (K : PySem.W.Frag) (ta : TA) : TI := fun σ H R => ta σ H fun vs H1 => ∃ b a xs, vs = [.ref a] ∧ SqX K b H1 a xs ∧ R (ItE K b a xs) H1
theorem pi_enumX {e : Expr} {ta : TA} {p pos tpos : Pos} {elts : List Expr} {kk : Nat} (hg : Gl X "enumerate") (hm : X.mg "enumerate" = none) (ha : PA X [e] ta) (hs : starEach [e] X.env = [(false, eval e X.env)]) :
    PI X (.Tuple elts kk tpos) (.Call (.Name "enumerate" p) [e] [] pos) (iEnumX X.K ta) := by
  refine ⟨fun pins s σ H R I h => ?_⟩
  refine Call_ (ld_blt I hg hm boot_enumerate (PyProof.Rows.callWith_type1 (thn (ha.run pos pins s σ H _ I h) fun us s1 ⟨vs, H1, I1, r1, b, a, xs, ex, hq, q⟩ => ?_) hs rfl))
  subst ex
  cases r1 with
  | cons r rr =>
    cases rr
    cases r
    obtain ⟨its, rv, ob, la⟩ := sqx I1 hq
    refine callType_new F.called_enumerate (by decide) (F.typeCall_enumerate_1 _) (F.newCall_enumerate_1 _) (fun obj => F.args_object_init_2 obj _) F.entry_enumerate_new (new_enum1 (begX b a its.toArray)) ⟨ob, ?_⟩
    have z : (s1.heap.push (drO b a)).objs.size = s1.heap.objs.size + 1 := Heap.size_push ..
    show _ ∧ _
    rw [z]
    have he : IsEnum ((s1.heap.push (drO b a)).push { cls := .type "enumerate", data := .fields #[.none, .bool false, .ref s1.heap.objs.size, rawInt 0, .none, .none] }) (s1.heap.objs.size + 1) s1.heap.objs.size 0 .none := by
      have := Heap.get?_push_size (s1.heap.push (drO b a)) (o := { cls := .type "enumerate", data := .fields #[.none, .bool false, .ref s1.heap.objs.size, rawInt 0, .none, .none] }) rfl
      rw [z] at this; exact this
    refine ⟨⟨_, he, rfl⟩, wpAny_pyIter_enum he ?_⟩
    have I2 := I1.kept (h' := (s1.heap.push (drO b a)).push { cls := .type "enumerate", data := .fields #[.none, .bool false, .ref s1.heap.objs.size, rawInt 0, .none, .none] }) (t' := s1.toks) fun c o e => Heap.get?_push_of_some _ (Heap.get?_push_of_some _ e)
    refine ⟨s1.heap.objs.size + 1, [s1.heap.objs.size + 1, s1.heap.objs.size], _, _, H1, rfl, I2, turnE b a (s1.heap.objs.size + 1) s1.heap.objs.size xs, ⟨⟨.none, he⟩, ItX.start (Heap.get?_push_of_some _ (Heap.get?_push_size _ (by cases b <;> rfl))), Nat.succ_ne_self _, Nat.lt_succ_of_lt la, la⟩, fun c hc => ?_, q⟩
    have e' : c = s1.heap.objs.size + 1 ∨ c = s1.heap.objs.size := by simpa using hc
    have hle : s1.heap.objs.size ≤ c := by
      rcases e' with z | z
      · rw [z]; exact Nat.le_add_right _ _
      · rw [z]; exact Nat.le_refl _
    exact I1.fpOk hle (I1.hok.fresh hle)
def iZipX (K : PySem.W.Frag) (ta : TA) : TI := fun σ H R => ta σ H fun vs H1 => ∃ b b' a a' xs ys, vs = [.ref a, .ref a'] ∧ SqX K b H1 a xs ∧ SqX K b' H1 a' ys ∧ R (ItZ K b b' a a' xs ys) H1
theorem pi_zipX {e e2 : Expr} {ta : TA} {p pos tpos : Pos} {elts : List Expr} {kk : Nat} (hg : Gl X "zip") (hm : X.mg "zip" = none) (ha : PA X [e, e2] ta)
    (hs : starEach [e, e2] X.env = (false, eval e X.env) :: starEach [e2] X.env) (hpl : (backTo pos (starEach [e2] X.env)).any (·.1) = false) :
    PI X (.Tuple elts kk tpos) (.Call (.Name "zip" p) [e, e2] [] pos) (iZipX X.K ta) := by
  refine ⟨fun pins s σ H R I h => ?_⟩
  refine Call_ (ld_blt I hg hm PyProof.Rows.boot_zip (PyProof.Rows.callWith_type1 (thn (ha.run pos pins s σ H _ I h) fun us s1 ⟨vs, H1, I1, r1, b, b', a, a', xs, ys, ex, hq, hq', q⟩ => ?_) hs hpl))
  subst ex
  cases r1 with
  | cons r rr =>
    cases rr with
    | cons r' rr =>
      cases rr
      cases r
      cases r'
      obtain ⟨its, rv, ob, la⟩ := sqx I1 hq
      obtain ⟨jts, rv', ob', la'⟩ := sqx I1 hq'
      refine zip_begins2 (begX b a its.toArray) (begX b' a' jts.toArray) ob ob' fun h' hz hTI hTO h1 h2 hsz hk => wpAny_pyIter_zip hz ?_
      have I2 : Inv X pins σ H1 { s1 with heap := h' } := I1.kept (t' := s1.toks) hk
      refine ⟨s1.heap.objs.size + 4, [s1.heap.objs.size + 4, s1.heap.objs.size + 2, s1.heap.objs.size + 3, s1.heap.objs.size, s1.heap.objs.size + 1], _, _, H1, rfl, I2, turnZ b b' a a' s1.heap.objs.size xs ys la la', ⟨hz, hTI, ⟨_, _, hTO⟩, ItX.start h1, ItX.start h2⟩, fun c hc => ?_, q⟩
      have e' : c = s1.heap.objs.size + 4 ∨ c = s1.heap.objs.size + 2 ∨ c = s1.heap.objs.size + 3 ∨ c = s1.heap.objs.size ∨ c = s1.heap.objs.size + 1 := by simpa using hc
      have hle : s1.heap.objs.size ≤ c := by
        rcases e' with z | z | z | z | z <;> rw [z] <;> first | exact Nat.le_add_right _ _ | exact Nat.le_refl _
      exact I1.fpOk hle (I1.hok.fresh hle)
end
end Z
namespace Z
open PySem PySem.Spec PyProof.Rows L2
/-- a range of any numbers, walked -/
theorem turn_long {P : Program} {w : World} {K : PySem.W.Frag} {tg : Expr} (it : Addr) (lo : Int) (n : Nat) : Turn P w K tg (Itr lo n) [it] it (fun i h => IsLongIter h it (lo + (i : Nat) * 1) ((n : Int) - (i : Nat)) 1) where
  mem := List.mem_singleton.mpr rfl
  obj := fun i h st b hb => by
    cases List.mem_singleton.mp hb
    exact ⟨_, st, fun v z => by
      have q : Data.fields _ = Data.cell v := z
      cases q⟩
  keep := fun i h h' st k => k it (List.mem_singleton.mpr rfl) _ st
  item := by
    intro X hP hw hK hc i pins s σ H E I hf st hg
    subst hP hw hK
    obtain ⟨f0, f1, f2, f3, f4, f5⟩ := hf it (List.mem_singleton.mpr rfl)
    have W := Walks.longrange (prog := X.prog) (w := X.w) (I.ok.hd hc) it lo 1 n
    refine W.item i s _ _ hg st fun v h' tk hv st' kk => ?_
    obtain ⟨t, rfl⟩ := hv
    have I1 : Inv X pins σ H { s with heap := h', toks := tk } := I.turned (fun b o hb e => kk b o (fun z => hb (List.mem_singleton.mp z)) e) f0 f1 f3 f4 f5
    refine ⟨_, rfl, go_of (s := { s with heap := h', toks := tk }) (n := "longrange_iterator") st' rfl rfl (by decide) ⟨.int (lo + i), H, I1, ⟨t, ?_⟩, ⟨rfl, rfl⟩, st', fun b hb => (hf b hb).1⟩⟩
    rw [Int.mul_one]
  done := by
    intro X hP hw hK hc i pins s σ H E I hf st hg
    subst hP hw hK
    obtain ⟨f0, f1, f2, f3, f4, f5⟩ := hf it (List.mem_singleton.mpr rfl)
    have hn : n ≤ i := hg
    exact wpAny_pyNext_long_end (I.ok.hd hc) st (by omega) fun h' eb => ⟨rfl, I.turned (t' := s.toks) (fun b o hb e => eb b o hb e) f0 f1 f3 f4 f5⟩
  self := fun _ _ _ _ _ st h => wpAny_pyIter_longiter st h
theorem range_itA {X : Cx} {tg : Expr} {pins : List (Addr × Obj)} {σ : Sg} {H : Hp} {s : Shared} {R : It → Hp → Prop} {E : Value → Shared → Prop} {lo hi : Int} {t u v : Tok} {tk : Nat} (I : Inv X pins σ H s)
    (q : R (Itr lo (hi - lo).toNat) H) : wpAny (model X.prog X.w) X.A (pyIter (.ref s.heap.objs.size)) (PIE X pins σ tg R) E { s with heap := s.heap.push { cls := .type "range", data := .fields #[.int lo t, .int hi u, .int 1 v] }, toks := tk } := by
  have I1 : Inv X pins σ H { s with heap := s.heap.push { cls := .type "range", data := .fields #[.int lo t, .int hi u, .int 1 v] }, toks := tk } := I.kept fun b o e => Heap.get?_push_of_some _ e
  have e1 : lo + ((0 : Nat) : Int) * 1 = lo := by simp
  have e2 : (((hi - lo).toNat : Nat) : Int) - ((0 : Nat) : Int) = Builtin.Range.rangeSize lo hi 1 := by rw [rangeSize_one]; split <;> omega
  have fp : ∀ b ∈ [(s.heap.push { cls := .type "range", data := .fields #[.int lo t, .int hi u, .int 1 v] }).objs.size], b = (s.heap.push { cls := .type "range", data := .fields #[.int lo t, .int hi u, .int 1 v] }).objs.size := fun b hb => List.mem_singleton.mp hb
  cases hs : Builtin.Range.small lo hi 1 with
  | true =>
    refine wpAny_pyIter_range (IsRange.new ..) hs ?_
    refine ⟨_, [(s.heap.push { cls := .type "range", data := .fields #[.int lo t, .int hi u, .int 1 v] }).objs.size], _, _, H, rfl, I1.kept (t' := tk) fun b o e => Heap.get?_push_of_some _ e, turn_range _ lo (hi - lo).toNat, ?_, fun b hb => ?_, q⟩
    · show IsRangeIter _ _ (lo + ((0 : Nat) : Int) * 1) ((((hi - lo).toNat : Nat) : Int) - ((0 : Nat) : Int)) 1
      rw [e1, e2]
      exact Heap.get?_push_size _ rfl
    · cases fp b hb
      exact I1.fpOk (Nat.le_refl _) (I1.hok.fresh (Nat.le_refl _))
  | false =>
    refine wpAny_pyIter_longrange (IsRange.new ..) hs ?_
    refine ⟨_, [(s.heap.push { cls := .type "range", data := .fields #[.int lo t, .int hi u, .int 1 v] }).objs.size], _, _, H, rfl, I1.kept (t' := tk) fun b o e => Heap.get?_push_of_some _ e, turn_long _ lo (hi - lo).toNat, ?_, fun b hb => ?_, q⟩
    · show IsLongIter _ _ (lo + ((0 : Nat) : Int) * 1) ((((hi - lo).toNat : Nat) : Int) - ((0 : Nat) : Int)) 1
      rw [e1, e2]
      exact Heap.get?_push_size _ rfl
    · cases fp b hb
      exact I1.fpOk (Nat.le_refl _) (I1.hok.fresh (Nat.le_refl _))
def iRngA1 (ta : TA) : TI := fun σ H R => ta σ H fun vs H1 => ∃ j : Int, vs = [.int j] ∧ R (Itr 0 j.toNat) H1
def iRngA2 (ta : TA) : TI := fun σ H R => ta σ H fun vs H1 => ∃ i j : Int, vs = [.int i, .int j] ∧ R (Itr i (j - i).toNat) H1
section
variable {X : Cx} {tg : Expr}
theorem pi_rangeA1 {a : Expr} {ta : TA} {p pos : Pos} (hg : Gl X "range") (hm : X.mg "range" = none) (ha : PA X [a] ta) (hs : starEach [a] X.env = [(false, eval a X.env)] := by rfl) : PI X tg (.Call (.Name "range" p) [a] [] pos) (iRngA1 ta) := by
  refine ⟨fun pins s σ H R I h => ?_⟩
  refine Call_ (ld_blt I hg hm boot_range (PyProof.Rows.callWith_type1 (thn (ha.run pos pins s σ H _ I h) fun us s1 ⟨vs, H1, I1, r1, q1⟩ => ?_) hs rfl))
  obtain ⟨j, e, q⟩ := q1
  subst e
  cases r1 with
  | cons r rr =>
    cases rr
    obtain ⟨t, rfl⟩ := r
    exact call_range_1 (range_itA I1 (by rw [Int.sub_zero]; exact q))
theorem pi_rangeA2 {a b : Expr} {ta : TA} {p pos : Pos} (hg : Gl X "range") (hm : X.mg "range" = none) (ha : PA X [a, b] ta) (hs : starEach [a, b] X.env = [(false, eval a X.env), (false, eval b X.env)] := by rfl) (hs2 : starEach [b] X.env = [(false, eval b X.env)] := by rfl) :
    PI X tg (.Call (.Name "range" p) [a, b] [] pos) (iRngA2 ta) := by
  refine ⟨fun pins s σ H R I h => ?_⟩
  refine Call_ (ld_blt I hg hm boot_range (PyProof.Rows.callWith_type1 (thn (ha.run pos pins s σ H _ I h) fun us s1 ⟨vs, H1, I1, r1, q1⟩ => ?_) (by rw [hs, hs2]) (by rw [hs2]; rfl)))
  obtain ⟨i, j, e, q⟩ := q1
  subst e
  cases r1 with
  | cons r rr =>
    cases rr with
    | cons r' rr =>
      cases rr
      obtain ⟨t, rfl⟩ := r
      obtain ⟨t', rfl⟩ := r'
      exact call_range_2 (range_itA I1 q)
end
end Z

set_option maxHeartbeats 2000000
/-! Readings of what is walked. -/
namespace Z
open PySem PySem.Spec PyProof.Rows L2
/-- J gives the data ds wherever G stands -/
structure Gives (J : It) (G : Hp) (ds : List D) : Prop where
  go : ∀ i H, i < ds.length → Ex G H → J.go i H
  stop : ∀ H, Ex G H → J.stop ds.length H
  yld : ∀ i H x H' d, ds[i]? = some d → Ex G H → J.yld i H x H' → (H' = H ∧ Rp G x d) ∨ ∃ T xs es, x = .ref T ∧ H T = none ∧ H' = upd H T (.tup xs) ∧ d = .tuple es ∧ Rps G xs es
def tI (B : Bx) (W : WX) (f : Sl → O (List D)) : TI := fun σ H R => ∃ S G, Rel B S σ G H ∧ K1 B W σ G (f S) fun ds S' => ∀ J G' H', Rel B S' σ G' H' → Stp S σ G H S' G' H' → Gives J G' ds → R J H'
section
variable {X : Cx} {B : Bx} {W : WX} {c : Ctx} {S : Sl} {σ : Sg} {G H H0 : Hp} {pos p ap : Pos} {tg it a b : Expr} {f : Sl → O SV} {ga : Sl → O (List SV)}
theorem PI.imp {t t' : TI} (h : PI X tg it t) (i : ∀ σ H R, t' σ H R → t σ H R) : PI X tg it t' := ⟨fun pins s σ H R I q => h.run pins s σ H R I (i σ H R q)⟩
theorem PI.bad : PI X tg it (tI B W fun _ => .bad) := ⟨fun _ _ _ _ _ _ ⟨_, _, _, h⟩ => h.elim⟩
theorem seq_of {K : PySem.W.Frag} {x : V} {d : D} {ds : List D} (h : Rp G x d) (e : itemsOf d = some ds) : ∃ b a xs, x = .ref a ∧ Rps G xs ds ∧ ∀ H, Ex G H → SqX K b H a xs := by
  cases h with
  | lst h1 h2 =>
    cases e
    exact ⟨true, _, _, rfl, h2, fun H x => .inl (x.rd h1)⟩
  | tup h1 h2 =>
    cases e
    exact ⟨false, _, _, rfl, h2, fun H x => .inl (x.rd h1)⟩
  | non => cases e
  | bl _ => cases e
  | int _ => cases e
  | str _ => cases e
  | dic _ => cases e
theorem i_seq (ha : PE X it (tE B W f)) : PI X tg it (tI B W fun S => (f S).bind fun x S1 => (settle S1 x).bind fun d S2 => O.of (itemsOf d) S2) := by
  refine PI.imp (pi_seqX ha) fun σ H Q ⟨S, G, R, q⟩ => tE.then R q fun x S1 v G1 H1 R1 s1 v1 q1 => ?_
  obtain ⟨d, S2, e, q2⟩ := q1.settle
  obtain ⟨G2, R2, s2, rp, _⟩ := settle_ok R s1 R1 v1 e
  obtain ⟨ds, e3, q3⟩ := K1.of q2
  obtain ⟨bb, aa, xs, rfl, rs, sq⟩ := seq_of (K := X.K) rp e3
  have l := rs.length
  refine ⟨bb, aa, xs, rfl, sq _ R2.sub, q3 _ _ _ R2 s2 ⟨fun i H h e => ⟨by omega, sq _ e⟩, fun H e => ⟨by omega, sq _ e⟩, fun i H x H' d h e y => .inl ⟨y.1, ?_⟩⟩⟩
  obtain ⟨v, h1, h2⟩ := rs.get h
  rw [y.2] at h1
  cases h1
  exact h2
theorem small_ok {i : Int} (h : small i = true) : -(2 ^ 62) ≤ i ∧ i < 2 ^ 62 := by
  unfold small at h
  rw [Bool.and_eq_true, decide_eq_true_eq, decide_eq_true_eq] at h
  exact h
theorem rng_gives {lo : Int} {n : Nat} : Gives (Itr lo n) G (rng lo n) where
  go := fun i H h _ => show i < n from by unfold rng at h; simpa using h
  stop := fun H _ => by unfold rng; exact Nat.le_of_eq (by simp)
  yld := fun i H x H' d h _ y => by
    obtain ⟨y1, y2⟩ := y
    subst y1 y2
    unfold rng at h
    rw [List.getElem?_map] at h
    cases e : (List.range n)[i]? with
    | none => rw [e] at h; cases h
    | some j =>
      rw [e] at h
      have hj : j = i := by
        have := List.getElem?_eq_some_iff.mp e
        obtain ⟨_, z⟩ := this
        simpa using z.symm
      cases h
      rw [hj]
      exact .inl ⟨rfl, .int _⟩
theorem i_rng1 (k : Nm X c B) (hf : biG c "range" = true) (hs : noStar [a] = true) (ha : PA X [a] (tA B W ga)) : PI X tg (.Call (.Name "range" p) [a] [] pos) (tI B W fun S => (ga S).bind rng1) := by
  have hm : isNm c "range" = some .bi := by
    unfold biG at hf
    split at hf
    · assumption
    · cases hf
  obtain ⟨h1, h2⟩ := isNm_ok hm
  refine PI.imp (pi_rangeA1 (glo_ok k.sc h1) (k.bi _ h2) ha (hs := star_one hs)) fun σ H Q ⟨S, G, R, q⟩ => tA.then R q fun x S1 v G1 H1 R1 s1 v1 q1 => ?_
  unfold rng1 at q1
  split at q1
  · rename_i j
    obtain ⟨y, rfl, rv⟩ := rvs1 v1
    cases (show y = .int j from Rp.int_iff rv)
    exact ⟨j, rfl, q1 _ _ _ R1 s1 rng_gives⟩
  · exact q1.elim
theorem i_rng2 (k : Nm X c B) (hf : biG c "range" = true) (hs : noStar [a, b] = true) (ha : PA X [a, b] (tA B W ga)) : PI X tg (.Call (.Name "range" p) [a, b] [] pos) (tI B W fun S => (ga S).bind rng2) := by
  have hm : isNm c "range" = some .bi := by
    unfold biG at hf
    split at hf
    · assumption
    · cases hf
  obtain ⟨h1, h2⟩ := isNm_ok hm
  refine PI.imp (pi_rangeA2 (glo_ok k.sc h1) (k.bi _ h2) ha (hs := by rw [star_one hs, star_one (star_tail hs)]; rfl) (hs2 := star_one (star_tail hs))) fun σ H Q ⟨S, G, R, q⟩ => tA.then R q fun x S1 v G1 H1 R1 s1 v1 q1 => ?_
  unfold rng2 at q1
  split at q1
  · rename_i i j
    obtain ⟨y, y', rfl, rv, rv'⟩ := rvs2 v1
    cases (show y = .int i from Rp.int_iff rv)
    cases (show y' = .int j from Rp.int_iff rv')
    exact ⟨i, j, rfl, q1 _ _ _ R1 s1 rng_gives⟩
  · exact q1.elim
theorem rngC_at {lo st : Int} {n i : Nat} {d : D} (h : (rngC lo st n)[i]? = some d) : i < n ∧ d = .int (lo + (i : Nat) * st) := by
  unfold rngC at h
  rw [List.getElem?_map] at h
  by_cases hi : i < n
  · rw [List.getElem?_range hi] at h; cases h; exact ⟨hi, rfl⟩
  · rw [List.getElem?_eq_none (by rw [List.length_range]; omega)] at h; cases h
theorem rngC_len (lo st : Int) (n : Nat) : (rngC lo st n).length = n := by unfold rngC; rw [List.length_map, List.length_range]
theorem rngC_gives {lo st : Int} {n : Nat} : Gives (Itc lo st n) G (rngC lo st n) := by
  refine ⟨fun i H h e => ?_, fun H e => ?_, fun i H x H' d h e y => ?_⟩
  · rw [rngC_len] at h; exact h
  · show n ≤ (rngC lo st n).length
    rw [rngC_len]; exact Nat.le_refl _
  · obtain ⟨_, rfl⟩ := rngC_at h
    obtain ⟨rfl, rfl⟩ := y
    exact .inl ⟨rfl, .int _⟩
theorem rvs3 {S : Sl} {H0 H : Hp} {a b c : SV} {xs : List V} (v : RVs B S σ G H0 H [a, b, c] xs) : ∃ x y z, xs = [x, y, z] ∧ RV B S σ G H0 H a x ∧ RV B S σ G H0 H b y ∧ RV B S σ G H0 H c z := by
  cases v with
  | cons p r _ =>
    obtain ⟨y, z, rfl, h1, h2⟩ := rvs2 r
    exact ⟨_, y, z, rfl, p, h1, h2⟩
theorem i_rng3 {d : Expr} (k : Nm X c B) (hf : biG c "range" = true) (hs : noStar [a, b, d] = true) (ha : PA X [a, b, d] (tA B W ga)) : PI X tg (.Call (.Name "range" p) [a, b, d] [] pos) (tI B W fun S => (ga S).bind rng3) := by
  have hm : isNm c "range" = some .bi := by
    unfold biG at hf
    split at hf
    · assumption
    · cases hf
  obtain ⟨h1, h2⟩ := isNm_ok hm
  refine PI.imp (pi_range3 (glo_ok k.sc h1) (k.bi _ h2) ha (hs := star_one hs) (hpl := star_any (star_tail hs))) fun σ H Q ⟨S, G, R, q⟩ => tA.then R q fun x S1 v G1 H1 R1 s1 v1 q1 => ?_
  unfold rng3 at q1
  split at q1
  · rename_i i j l
    split at q1
    · rename_i ho
      unfold rngOk at ho
      simp only [Bool.and_eq_true, decide_eq_true_eq] at ho
      obtain ⟨y, y', y'', rfl, rv, rv', rv''⟩ := rvs3 v1
      cases (show y = .int i from Rp.int_iff rv)
      cases (show y' = .int j from Rp.int_iff rv')
      cases (show y'' = .int l from Rp.int_iff rv'')
      exact ⟨i, j, l, _, rfl, ⟨ho.1.1.1, ho.1.1.2, ho.1.2, (Int.toNat_of_nonneg ho.2).symm⟩, q1 _ _ _ R1 s1 rngC_gives⟩
    · exact q1.elim
  · exact q1.elim
theorem enumD_get {xs : List D} {i : Nat} {d : D} (h : (enumD xs)[i]? = some d) : ∃ e, xs[i]? = some e ∧ d = .tuple [.int (i : Nat), e] := by
  unfold enumD at h
  rw [List.getElem?_map, List.getElem?_zipIdx] at h
  cases q : xs[i]? with
  | none => rw [q] at h; cases h
  | some e =>
    rw [q] at h
    cases h
    exact ⟨e, rfl, by simp⟩
theorem zipD_get {xs ys : List D} {i : Nat} {d : D} (h : (zipD xs ys)[i]? = some d) : ∃ x y, xs[i]? = some x ∧ ys[i]? = some y ∧ d = .tuple [x, y] := by
  unfold zipD at h
  rw [List.getElem?_map] at h
  cases q : (xs.zip ys)[i]? with
  | none => rw [q] at h; cases h
  | some e =>
    rw [q] at h
    cases h
    obtain ⟨q1, q2⟩ := List.getElem?_zip_eq_some.mp q
    exact ⟨e.1, e.2, q1, q2, rfl⟩
theorem bi_nm {f : Str} (h : biG c f = true) : isNm c f = some .bi := by
  unfold biG at h
  split at h
  · assumption
  · cases h
theorem i_enum {elts : List Expr} {kk : Nat} {tp : Pos} (k : Nm X c B) (hf : biG c "enumerate" = true) (hs : noStar [a] = true) (ha : PA X [a] (tA B W ga)) : PI X (.Tuple elts kk tp) (.Call (.Name "enumerate" p) [a] [] pos) (tI B W fun S => (ga S).bind enum1) := by
  obtain ⟨h1, h2⟩ := isNm_ok (bi_nm hf)
  refine PI.imp (pi_enumX (glo_ok k.sc h1) (k.bi _ h2) ha (hs := star_one hs)) fun σ H Q ⟨S, G, R, q⟩ => tA.then R q fun x S1 v G1 H1 R1 s1 v1 q1 => ?_
  unfold enum1 at q1
  split at q1
  · rename_i w
    obtain ⟨y, rfl, rv⟩ := rvs1 v1
    obtain ⟨d, S2, e, q2⟩ := q1.settle
    obtain ⟨G2, R2, s2, rp, _⟩ := settle_ok R s1 R1 rv e
    obtain ⟨ds, e3, q3⟩ := K1.of q2
    cases e4 : itemsOf d with
    | none => rw [e4] at e3; cases e3
    | some xs =>
      rw [e4] at e3
      cases e3
      obtain ⟨bb, aa, vs, rfl, rs, sq⟩ := seq_of (K := X.K) rp e4
      have l := rs.length
      have l2 : (enumD xs).length = xs.length := by unfold enumD; simp
      refine ⟨bb, aa, vs, rfl, sq _ R2.sub, q3 _ _ _ R2 s2 ⟨fun i H h e => ⟨by omega, sq _ e⟩, fun H e => ⟨by omega, sq _ e⟩, fun i H x H' d h e y => ?_⟩⟩
      obtain ⟨T, zs, rfl, hT, rfl, z, hz, rfl⟩ := y
      obtain ⟨e', h5, rfl⟩ := enumD_get h
      obtain ⟨v', h6, h7⟩ := rs.get h5
      rw [hz] at h6
      cases h6
      exact .inr ⟨T, _, _, rfl, hT, rfl, rfl, .cons (.int _) (.cons h7 .nil)⟩
  · exact q1.elim
theorem rps2 {vs : List V} {d e : D} (h : Rps G vs [d, e]) : ∃ x y, vs = [x, y] ∧ Rp G x d ∧ Rp G y e := by
  cases h with
  | cons a r =>
    cases r with
    | cons b r => cases r; exact ⟨_, _, rfl, a, b⟩
theorem i_zip {elts : List Expr} {kk : Nat} {tp : Pos} (k : Nm X c B) (hf : biG c "zip" = true) (hs : noStar [a, b] = true) (ha : PA X [a, b] (tA B W ga)) : PI X (.Tuple elts kk tp) (.Call (.Name "zip" p) [a, b] [] pos) (tI B W fun S => (ga S).bind zip2) := by
  obtain ⟨h1, h2⟩ := isNm_ok (bi_nm hf)
  refine PI.imp (pi_zipX (glo_ok k.sc h1) (k.bi _ h2) ha (hs := star_one hs) (hpl := star_any (star_tail hs))) fun σ H Q ⟨S, G, R, q⟩ => tA.then R q fun x S1 v G1 H1 R1 s1 v1 q1 => ?_
  unfold zip2 at q1
  split at q1
  · rename_i w w'
    obtain ⟨es, S2, e, q2⟩ := q1.settleAll
    obtain ⟨G2, R2, s2, rp, _⟩ := settleAll_ok R s1 R1 v1 e
    split at q2
    · rename_i d d'
      obtain ⟨y, y', rfl, rd, rd'⟩ := rps2 rp
      obtain ⟨ds, e3, q3⟩ := K1.of q2
      cases e4 : itemsOf d with
      | none => rw [e4] at e3; cases e3
      | some xs =>
        cases e5 : itemsOf d' with
        | none => rw [e4, e5] at e3; cases e3
        | some ys =>
          rw [e4, e5] at e3
          have e6 : zipD xs ys = ds := Option.some.inj e3
          subst e6
          obtain ⟨bb, aa, vs, rfl, rs, sq⟩ := seq_of (K := X.K) rd e4
          obtain ⟨bb', aa', vs', rfl, rs', sq'⟩ := seq_of (K := X.K) rd' e5
          have l := rs.length
          have l' := rs'.length
          have l2 : (zipD xs ys).length = min xs.length ys.length := by unfold zipD; simp
          refine ⟨bb, bb', aa, aa', vs, vs', rfl, sq _ R2.sub, sq' _ R2.sub, q3 _ _ _ R2 s2 ⟨fun i H h e => ⟨⟨by omega, by omega⟩, sq _ e, sq' _ e⟩, fun H e => ⟨by omega, sq _ e, sq' _ e⟩, fun i H x H' d h e y => ?_⟩⟩
          obtain ⟨T, zs, rfl, hT, rfl, z, z', hz, hz', rfl⟩ := y
          obtain ⟨e1, e2, h5, h5', rfl⟩ := zipD_get h
          obtain ⟨v', h6, h7⟩ := rs.get h5
          obtain ⟨v'', h6', h7'⟩ := rs'.get h5'
          rw [hz] at h6
          rw [hz'] at h6'
          cases h6
          cases h6'
          exact .inr ⟨T, _, _, rfl, hT, rfl, rfl, .cons h7 (.cons h7' .nil)⟩
    · exact q2.elim
  · exact q1.elim
end
end Z

set_option maxHeartbeats 2000000
/-! Targets; a comprehension. -/
namespace Z
open PySem PySem.Spec PyProof.Rows L2
/-! ### slots emptied, slots as they were -/
section
variable {α : Type}
def wp (l : List (Option α)) : List Nat → List (Option α)
  | [] => l
  | i :: is => (wp l is).set i none
def kp (l0 l : List (Option α)) : List Nat → List (Option α)
  | [] => l
  | i :: is => (kp l0 l is).set i (l0[i]?).join
theorem wp_len (l : List (Option α)) : ∀ is, (wp l is).length = l.length
  | [] => rfl
  | i :: is => by unfold wp; rw [List.length_set, wp_len l is]
theorem kp_len (l0 l : List (Option α)) : ∀ is, (kp l0 l is).length = l.length
  | [] => rfl
  | i :: is => by unfold kp; rw [List.length_set, kp_len l0 l is]
theorem wp_in {l : List (Option α)} {j : Nat} {v : α} : ∀ {is : List Nat}, (wp l is)[j]? = some (some v) → l[j]? = some (some v) ∧ j ∉ is
  | [], h => ⟨h, by simp⟩
  | i :: is, h => by
    unfold wp at h
    by_cases e : i = j
    · subst e
      rw [List.getElem?_set] at h
      simp only [if_true] at h
      split at h <;> cases h
    · rw [List.getElem?_set_ne e] at h
      obtain ⟨h1, h2⟩ := wp_in h
      exact ⟨h1, by simp only [List.mem_cons, not_or]; exact ⟨fun z => e z.symm, h2⟩⟩
theorem wp_out {l : List (Option α)} {j : Nat} : ∀ {is : List Nat}, j ∉ is → (wp l is)[j]? = l[j]?
  | [], _ => rfl
  | i :: is, h => by
    simp only [List.mem_cons, not_or] at h
    unfold wp
    rw [List.getElem?_set_ne fun z => h.1 z.symm]
    exact wp_out h.2
theorem kp_out {l0 l : List (Option α)} {j : Nat} : ∀ {is : List Nat}, j ∉ is → (kp l0 l is)[j]? = l[j]?
  | [], _ => rfl
  | i :: is, h => by
    simp only [List.mem_cons, not_or] at h
    unfold kp
    rw [List.getElem?_set_ne fun z => h.1 z.symm]
    exact kp_out h.2
theorem kp_in {l0 l : List (Option α)} {j : Nat} {v : α} : ∀ {is : List Nat}, j ∈ is → (kp l0 l is)[j]? = some (some v) → l0[j]? = some (some v)
  | [], h, _ => by simp at h
  | i :: is, h, e => by
    unfold kp at e
    by_cases q : i = j
    · subst q
      rw [List.getElem?_set] at e
      simp only [if_true] at e
      split at e
      · have e' := Option.some.inj e
        cases z : l0[i]? with
        | none => rw [z] at e'; cases e'
        | some o => rw [z] at e'; cases o with
          | none => cases e'
          | some w => rw [← e']; rfl
      · cases e
    · rw [List.getElem?_set_ne q] at e
      rcases List.mem_cons.mp h with z | z
      · exact absurd z.symm q
      · exact kp_in z e
theorem wp_wipe (σ : Sg) : ∀ is, wipe σ is = wp σ is
  | [] => rfl
  | i :: is => by unfold wipe wp; rw [wp_wipe σ is]
theorem wp_set {l : List (Option α)} {i : Nat} {o : Option α} : ∀ is : List Nat, (wp (l.set i o) is).set i none = (wp l is).set i none
  | [] => by unfold wp; rw [List.set_set]
  | j :: is => by
    unfold wp
    by_cases e : i = j
    · subst e
      rw [List.set_set, List.set_set]
      exact wp_set is
    · rw [List.set_comm _ _ (Ne.symm e), List.set_comm _ _ (Ne.symm e), wp_set is]
theorem wp_wp {l : List (Option α)} : ∀ is : List Nat, ∀ js : List Nat, (∀ i ∈ is, i ∈ js) → wp (wp l is) js = wp l js
  | [], _, _ => rfl
  | i :: is, js, h => by
    have h1 : i ∈ js := h i List.mem_cons_self
    have key : ∀ (m : List (Option α)) (js : List Nat), i ∈ js → wp (m.set i none) js = wp m js := by
      intro m js
      induction js with
      | nil => intro z; simp at z
      | cons j js ih =>
        intro z
        unfold wp
        by_cases e : i = j
        · subst e; exact wp_set js
        · rcases List.mem_cons.mp z with z | z
          · exact absurd z e
          · rw [ih z]
    show wp ((wp l is).set i none) js = _
    rw [key _ _ h1]
    exact wp_wp is js fun k hk => h k (List.mem_cons_of_mem _ hk)
end
theorem wipeN_wp (c : Ctx) (S : Sl) : ∀ xs, wipeN c xs S = wp S (xs.filterMap (ix c))
  | [] => rfl
  | x :: xs => by
    unfold wipeN
    rw [List.filterMap_cons]
    cases e : ix c x with
    | none => exact wipeN_wp c S xs
    | some i => show (wipeN c xs S).set i none = _; rw [wipeN_wp c S xs]; rfl
theorem keepN_kp (c : Ctx) (S0 S : Sl) : ∀ xs, keepN c S0 xs S = kp S0 S (xs.filterMap (ix c))
  | [] => rfl
  | x :: xs => by
    unfold keepN
    rw [List.filterMap_cons]
    cases e : ix c x with
    | none => exact keepN_kp c S0 S xs
    | some i => show (keepN c S0 xs S).set i _ = _; rw [keepN_kp c S0 S xs]; rfl
section
variable {X : Cx} {B : Bx} {W : WX} {c : Ctx} {S S0 S1 S' : Sl} {σ σ1 : Sg} {G G1 G' H H1 H0 H' : Hp} {i : Nat}
theorem put_g2 {S : Sl} {i j : Nat} {v w : SV} (h : (put S i v)[j]? = some (some w)) : (i = j ∧ w = v) ∨ (i ≠ j ∧ S[j]? = some (some w)) := by
  unfold put at h
  by_cases e : i = j
  · subst e
    rw [List.getElem?_set] at h
    simp only [if_true] at h
    split at h
    · cases h; exact .inl ⟨rfl, rfl⟩
    · cases h
  · rw [List.getElem?_set_ne e] at h
    exact .inr ⟨e, h⟩
/-- a thing stored in slot i -/
theorem Rel.put (R : Rel B S σ G H) {v : SV} {x : V} (hi : i < S.length) (io : ∀ p, B.io ≠ some (i, p)) (a : At B G H v x) (ow : ∀ ds p, v = .own ds → x = .ref p → ∀ j, j ≠ i → ∀ es, S[j]? = some (some (.own es)) → σ[j]? ≠ some (some (.ref p))) : Rel B (Z.put S i v) (σ.set i (some x)) G H where
  len := by unfold Z.put; rw [List.length_set, List.length_set]; exact R.len
  sub := R.sub
  bas := R.bas
  bt := R.bt
  gt := R.gt
  tab := R.tab
  at_ := fun j w e => by
    rcases put_g2 e with ⟨rfl, rfl⟩ | ⟨ne, e⟩
    · exact ⟨x, by rw [List.getElem?_set_self (by rw [← R.len]; exact hi)], a⟩
    · obtain ⟨y, h1, h2⟩ := R.at_ j w e
      exact ⟨y, by rw [List.getElem?_set_ne ne]; exact h1, h2⟩
  inj := fun j l p us ws e1 e2 e3 e4 => by
    have lt : i < σ.length := by rw [← R.len]; exact hi
    rcases put_g2 e1 with ⟨rfl, z1⟩ | ⟨n1, e1⟩
    · rw [List.getElem?_set_self lt] at e3
      rcases put_g2 e2 with ⟨rfl, _⟩ | ⟨n2, e2⟩
      · rfl
      · rw [List.getElem?_set_ne n2] at e4
        have e3' : x = .ref p := by simpa using e3
        exact absurd e4 (ow us p z1.symm e3' l (fun z => n2 z.symm) _ e2)
    · rw [List.getElem?_set_ne n1] at e3
      rcases put_g2 e2 with ⟨rfl, z2⟩ | ⟨n2, e2⟩
      · rw [List.getElem?_set_self lt] at e4
        have e4' : x = .ref p := by simpa using e4
        exact absurd e3 (ow ws p z2.symm e4' j (fun z => n1 z.symm) _ e1)
      · rw [List.getElem?_set_ne n2] at e4
        exact R.inj j l p _ _ e1 e2 e3 e4
  io := fun j p e => by
    by_cases z : i = j
    · subst z; exact absurd e (io p)
    · rw [List.getElem?_set_ne z]; exact R.io j p e
  gx := R.gx
  gn := R.gn
  dm := R.dm
theorem ow_put2 {v : SV} {x : V} {a : Addr} (hi : i < S.length) (len : S.length = σ.length) (h : Ow (put S i v) (σ.set i (some x)) a) : Ow S σ a ∨ (∃ ds, v = .own ds ∧ x = .ref a) := by
  obtain ⟨j, us, e1, e2⟩ := h
  rcases put_g2 e1 with ⟨rfl, z⟩ | ⟨n, e1⟩
  · rw [List.getElem?_set_self (by rw [← len]; exact hi)] at e2
    exact .inr ⟨us, z.symm, by simpa using e2⟩
  · rw [List.getElem?_set_ne n] at e2
    exact .inl ⟨j, us, e1, e2⟩

/-! ### targets -/
def tupN (c : Ctx) (xs : List Str) (d : D) (S : Sl) : Option Sl := match d with
  | .tuple ds => if ds.length = xs.length then setNs c xs (ds.map .dat) S else none
  | .list ds => if ds.length = xs.length then setNs c xs (ds.map .dat) S else none
  | _ => none
theorem asg_tup {es : List Expr} {kk : Nat} {tp : Pos} {d : D} {S : Sl} : asgD c (.Tuple es kk tp) d S = (names es).bind fun xs => tupN c xs d S := rfl
theorem setN_tg {x : Str} {v : SV} {S' : Sl} (h : setN c x v S = some S') : ∃ i, tgI c x = some i ∧ S' = put S i v := by
  unfold setN at h
  unfold tgI
  split at h
  · rename_i e
    rw [if_pos e]
    split at h
    · rename_i j q
      split at h
      · cases h
      · rename_i q2
        cases h
        exact ⟨j, by first | (simp only [q]; rw [if_neg q2]) | exact if_neg q2 | (rw [q]; exact if_neg q2) | simp_all, rfl⟩
    · cases h
  · cases h
theorem tgI_ok (k : Nm X c B) {x : Str} (h : tgI c x = some i) : X.N[i]? = some x ∧ L2.Loc X.env.scope x ∧ (X.fn x = true ∨ X.env.scope.names.lookup x = some .local) ∧ ix c x = some i ∧ ∀ p, B.io ≠ some (i, p) := by
  unfold tgI at h
  split at h
  · rename_i e
    rw [Bool.and_eq_true] at e
    split at h
    · rename_i j q
      split at h
      · cases h
      · rename_i q2
        cases h
        refine ⟨by rw [k.N]; exact lookup_idx q, loc_ok k.sc e.1, k.fn x e.2, q, fun p z => q2 ?_⟩
        rw [k.io, z]; rfl
    · cases h
  · cases h
def tgIs (c : Ctx) : List Str → Option (List Nat)
  | [] => some []
  | x :: xs => (tgI c x).bind fun i => (tgIs c xs).map (i :: ·)
def gNames : List Nat → TGs
  | [] => gNil
  | i :: is => gCons (gName i) (gNames is)
theorem PG.impL {tg : Expr} {t t' : TG} (h : PG X tg t) (i : ∀ v σ H Q, σ.length = X.N.length → t' v σ H Q → t v σ H Q) : PG X tg t' := ⟨fun pins s σ H v u Q I r q => h.run pins s σ H v u Q I r (i v σ H Q I.len q)⟩
theorem PG.imp {tg : Expr} {t t' : TG} (h : PG X tg t) (i : ∀ v σ H Q, t' v σ H Q → t v σ H Q) : PG X tg t' := ⟨fun pins s σ H v u Q I r q => h.run pins s σ H v u Q I r (i v σ H Q q)⟩
theorem names_ln : ∀ {es : List Expr} {xs : List Str}, names es = some xs → (assignEach es X.env).length = xs.length ∧ (assignEach es X.env).findIdx? (·.1) = none
  | [], xs, h => by cases h; exact ⟨rfl, rfl⟩
  | e :: es, xs, h => by
    cases e <;> simp only [names] at h <;> try cases h
    rename_i x p
    cases q : names es with
    | none => rw [q] at h; cases h
    | some ys =>
      rw [q] at h
      cases h
      obtain ⟨h1, h2⟩ := names_ln q
      refine ⟨by show (assignEach es X.env).length + 1 = _; rw [h1]; rfl, ?_⟩
      show List.findIdx? _ ((false, assign (.Name x p) X.env) :: assignEach es X.env) = none
      rw [List.findIdx?_cons, h2]; rfl
theorem pgs_names (k : Nm X c B) : ∀ {es : List Expr} {xs : List Str} {is : List Nat}, names es = some xs → tgIs c xs = some is → PGs X es (gNames is)
  | [], xs, is, h, h2 => by cases h; cases h2; exact pgs_nil
  | e :: es, xs, is, h, h2 => by
    cases e <;> simp only [names] at h <;> try cases h
    rename_i x p
    cases q : names es with
    | none => rw [q] at h; cases h
    | some ys =>
      rw [q] at h
      cases h
      simp only [tgIs] at h2
      cases q1 : tgI c x with
      | none => rw [q1] at h2; cases h2
      | some i =>
        cases q2 : tgIs c ys with
        | none => rw [q1, q2] at h2; cases h2
        | some js =>
          rw [q1, q2] at h2
          cases h2
          obtain ⟨a1, a2, a3, _, _⟩ := tgI_ok k q1
          exact pgs_cons (pg_name k.nd a1 a2 a3) (pgs_names k q q2)
theorem setNs_tg : ∀ {xs : List Str} {vs : List SV} {S S' : Sl}, setNs c xs vs S = some S' → ∃ is, tgIs c xs = some is
  | [], [], S, S', h => ⟨[], rfl⟩
  | [], _ :: _, S, S', h => by cases h
  | _ :: _, [], S, S', h => by cases h
  | x :: xs, v :: vs, S, S', h => by
    unfold setNs at h
    cases q : setN c x v S with
    | none => rw [q] at h; cases h
    | some S1 =>
      rw [q] at h
      obtain ⟨i, h1, _⟩ := setN_tg q
      obtain ⟨is, h2⟩ := setNs_tg h
      exact ⟨i :: is, by unfold tgIs; rw [h1, h2]; rfl⟩
theorem ix_lt {x : Str} {i : Nat} (h : ix c x = some i) : i < c.N.length := by
  obtain ⟨h1, _⟩ := List.findIdx?_eq_some_iff_getElem.mp h
  exact h1
theorem names_ok (k : Nm X c B) {Q : Sg → Hp → Prop} : ∀ {xs : List Str} {is : List Nat} {vs : List V} {ds : List D} {S S' : Sl} {σ : Sg}, S.length = c.N.length → Rel B S σ G H → Rps G vs ds → tgIs c xs = some is → setNs c xs (ds.map .dat) S = some S' →
    (∀ σ', Rel B S' σ' G H → wp σ' is = wp σ is → (∀ a, Ow S' σ' a → Ow S σ a) → Q σ' H) → gNames is vs σ H Q
  | [], is, vs, ds, S, S', σ, ln, R, rs, h1, h2, q => by
    cases h1
    cases ds with
    | cons d ds => cases h2
    | nil =>
      cases rs
      cases h2
      exact ⟨rfl, q σ R rfl fun _ z => z⟩
  | x :: xs, is, vs, ds, S, S', σ, ln, R, rs, h1, h2, q => by
    cases ds with
    | nil => cases h2
    | cons d ds =>
      cases rs with
      | cons rv rr =>
        rename_i v vs
        simp only [tgIs] at h1
        cases q1 : tgI c x with
        | none => rw [q1] at h1; cases h1
        | some i =>
          cases q2 : tgIs c xs with
          | none => rw [q1, q2] at h1; cases h1
          | some js =>
            rw [q1, q2] at h1
            cases h1
            simp only [List.map_cons, setNs] at h2
            cases q3 : setN c x (.dat d) S with
            | none => rw [q3] at h2; cases h2
            | some S1 =>
              rw [q3] at h2
              obtain ⟨i', g1, rfl⟩ := setN_tg q3
              rw [q1] at g1
              cases g1
              obtain ⟨_, _, _, a4, a5⟩ := tgI_ok k q1
              have lt : i < S.length := by rw [ln]; exact ix_lt a4
              have R1 : Rel B (put S i (.dat d)) (σ.set i (some v)) G H := R.put lt a5 rv fun ds p z => by cases z
              refine ⟨v, vs, rfl, names_ok k (by unfold put; rw [List.length_set]; exact ln) R1 rr q2 h2 fun σ' R' w o => q σ' R' ?_ fun a z => ?_⟩
              · show (wp σ' js).set i none = (wp σ js).set i none
                rw [w, wp_set]
              · rcases ow_put2 lt R.len (o a z) with h | ⟨_, h, _⟩
                · exact h
                · cases h
/-- the places that a target stores in -/
def tgX (c : Ctx) (tg : Expr) : List Nat := (targets tg).filterMap (ix c)
theorem tgIs_ix {xs : List Str} : ∀ {is : List Nat}, tgIs c xs = some is → xs.filterMap (ix c) = is := by
  induction xs with
  | nil => intro is h; cases h; rfl
  | cons x xs ih =>
    intro is h
    simp only [tgIs] at h
    cases q1 : tgI c x with
    | none => rw [q1] at h; cases h
    | some i =>
      cases q2 : tgIs c xs with
      | none => rw [q1, q2] at h; cases h
      | some js =>
        rw [q1, q2] at h
        cases h
        have q3 : ix c x = some i := by
          unfold tgI at q1
          split at q1
          · split at q1
            · split at q1
              · cases q1
              · cases q1; assumption
            · cases q1
          · cases q1
        rw [List.filterMap_cons, q3, ih q2]
def tG (B : Bx) (c : Ctx) (tg : Expr) : TG := fun v σ H Q => ∃ S G d S', Rel B S σ G H ∧ Rp G v d ∧ asgD c tg d S = some S' ∧ ∀ σ', Rel B S' σ' G H → wp σ' (tgX c tg) = wp σ (tgX c tg) → (∀ a, Ow S' σ' a → Ow S σ a) → Q σ' H
theorem PG.none {tg : Expr} (h : ∀ d S, asgD c tg d S = none) : PG X tg (tG B c tg) := ⟨fun pins s σ H v u Q I r ⟨S, G, d, S', _, _, e, _⟩ => by rw [h] at e; cases e⟩
theorem pg_tg (k : Nm X c B) (tg : Expr) : PG X tg (tG B c tg) := by
  cases tg with
  | Name x p =>
    cases q1 : tgI c x with
    | none =>
      refine PG.none fun d S => ?_
      cases q : asgD c (.Name x p) d S with
      | none => rfl
      | some S' =>
        obtain ⟨i, h, _⟩ := setN_tg (show setN c x (.dat d) S = some S' from q)
        rw [q1] at h; cases h
    | some i =>
      obtain ⟨a1, a2, a3, a4, a5⟩ := tgI_ok k q1
      refine PG.impL (pg_name k.nd a1 a2 a3) fun v σ H Q ln ⟨S, G, d, S', R, rp, e, q⟩ => ?_
      have ln : S.length = c.N.length := by rw [R.len, ln, k.N]
      obtain ⟨i', g1, rfl⟩ := setN_tg (show setN c x (.dat d) S = some S' from e)
      rw [q1] at g1
      cases g1
      have lt : i < S.length := by rw [ln]; exact ix_lt a4
      have tx : tgX c (.Name x p) = [i] := by
        unfold tgX targets
        rw [List.filterMap_cons, a4]; rfl
      refine q _ (R.put lt a5 rp fun ds p z => by cases z) ?_ fun a z => ?_
      · rw [tx]
        exact wp_set []
      · rcases ow_put2 lt R.len z with h | ⟨_, h, _⟩
        · exact h
        · cases h
  | Tuple es kk tp =>
    cases q0 : names es with
    | none => exact PG.none fun d S => by rw [asg_tup, q0]; rfl
    | some xs =>
      cases q1 : tgIs c xs with
      | none =>
        refine PG.none fun d S => ?_
        cases q : asgD c (.Tuple es kk tp) d S with
        | none => rfl
        | some S' =>
          rw [asg_tup, q0, Option.bind_some] at q
          cases d <;> simp only [tupN] at q <;> try cases q
          all_goals
            split at q
            · obtain ⟨is, h⟩ := setNs_tg q
              rw [q1] at h; cases h
            · cases q
      | some is =>
        have both : PG X (.Tuple es kk tp) (fun v σ H Q => gTup X.K xs.length (gNames is) v σ H Q ∨ gLst X.K xs.length (gNames is) v σ H Q) := ⟨fun pins s σ H v u Q I r q => by
          rcases q with q | q
          · exact (pg_tup k.calm (pgs_names k q0 q1) (hn := (names_ln q0).1) (hst := (names_ln q0).2)).run pins s σ H v u Q I r q
          · exact (pg_lst k.calm (pgs_names k q0 q1) (hn := (names_ln q0).1) (hst := (names_ln q0).2)).run pins s σ H v u Q I r q⟩
        refine PG.impL both fun v σ H Q ln ⟨S, G, d, S', R, rp, e, q⟩ => ?_
        have ln : S.length = c.N.length := by rw [R.len, ln, k.N]
        rw [asg_tup, q0, Option.bind_some] at e
        have tx : tgX c (.Tuple es kk tp) = is := by
          show List.filterMap (ix c) ((names es).getD []) = is
          rw [q0]
          exact tgIs_ix q1
        rw [tx] at q
        cases rp with
        | tup h1 h2 =>
          simp only [tupN] at e
          split at e
          · rename_i hl
            exact .inl ⟨_, _, rfl, .inl (R.sub.rd h1), by rw [h2.length]; exact hl, names_ok k ln R h2 q1 e q⟩
          · cases e
        | lst h1 h2 =>
          simp only [tupN] at e
          split at e
          · rename_i hl
            exact .inr ⟨_, _, rfl, Rd.sql (R.sub.rd h1), by rw [h2.length]; exact hl, names_ok k ln R h2 q1 e q⟩
          · cases e
        | non => cases e
        | bl _ => cases e
        | int _ => cases e
        | str _ => cases e
        | dic _ => cases e
  | _ => exact PG.none fun d S => rfl

/-! ### a comprehension -/
theorem Rel.wipe (R : Rel B S σ G H) {is : List Nat} (io : ∀ i ∈ is, ∀ p, B.io ≠ some (i, p)) : Rel B (wp S is) (wp σ is) G H where
  len := by rw [wp_len, wp_len]; exact R.len
  sub := R.sub
  bas := R.bas
  bt := R.bt
  gt := R.gt
  tab := R.tab
  at_ := fun j v e => by
    obtain ⟨e1, e2⟩ := wp_in e
    rw [wp_out e2]
    exact R.at_ j v e1
  inj := fun i j p xs ys e1 e2 e3 e4 => R.inj i j p xs ys (wp_in e1).1 (wp_in e2).1 (wp_in e3).1 (wp_in e4).1
  io := fun i p e => by
    rw [wp_out fun z => io i z p e]
    exact R.io i p e
  gx := R.gx
  gn := R.gn
  dm := R.dm
theorem ow_wp {is : List Nat} {a : Addr} (h : Ow (wp S is) (wp σ is) a) : ∃ (i : Nat) (xs : List D), i ∉ is ∧ S[i]? = some (some (.own xs)) ∧ σ[i]? = some (some (.ref a)) := by
  obtain ⟨i, xs, h1, h2⟩ := h
  exact ⟨i, xs, (wp_in h1).2, (wp_in h1).1, (wp_in h2).1⟩
/-- behind a turn: its own names are as they were -/
theorem Rel.back (R : Rel B S σ G H) {is : List Nat} {S3 : Sl} {σ2 : Sg} {Gi Hi : Hp} (R6 : Rel B S' σ2 G' H') (s : Stp S3 σ2 Gi Hi S' G' H') (eq : wp σ2 is = wp σ is) (ow : ∀ a, Ow S3 σ2 a → Ow (wp S is) (wp σ is) a)
    (gi : ∀ a o, Gi a = some o → G a = some o ∨ H a = none) (hi : ∀ a o, H a = some o → Hi a = some o) (eg : Ex G Gi) (gH : ∀ a, Hi a = none → H a = none) : Rel B (kp S S' is) σ G' H' ∧ Stp S σ G H (kp S S' is) G' H' := by
  have out : ∀ {j : Nat}, j ∉ is → σ2[j]? = σ[j]? := fun {j} h => by rw [← wp_out (l := σ2) h, eq, wp_out h]
  -- a list of a slot among is: nobody came near
  have far : ∀ {i : Nat} {xs : List D} {p : Addr}, i ∈ is → S[i]? = some (some (.own xs)) → σ[i]? = some (some (.ref p)) → ¬ Ow S3 σ2 p := fun {i xs p} hi e1 e2 w => by
    obtain ⟨l, us, n, f1, f2⟩ := ow_wp (ow p w)
    exact n (R.inj i l p xs us e1 f1 e2 f2 ▸ hi)
  have owS : ∀ a, Ow S3 σ2 a → Ow S σ a := fun a w => by
    obtain ⟨l, us, n, f1, f2⟩ := ow_wp (ow a w)
    exact ⟨l, us, f1, f2⟩
  refine ⟨⟨by rw [kp_len, R6.len, ← wp_len σ2 is, eq, wp_len], R6.sub, R6.bas, R.bt, R6.gt, R6.tab, fun j v e => ?_, fun i j p xs ys e1 e2 e3 e4 => ?_, R.io, R6.gx, R6.gn, R6.dm⟩, ⟨eg.tr s.ext, fun a o e n w => ?_, fun a o e => ?_, fun a w => ?_, fun a e => ?_⟩⟩
  · by_cases hj : j ∈ is
    · have e1 := kp_in hj e
      obtain ⟨x, e2, h2⟩ := R.at_ j v e1
      refine ⟨x, e2, At.mono h2 (eg.tr s.ext) fun p xs q1 q2 => ?_⟩
      subst q1 q2
      obtain ⟨p', ys, q3, g1, b1, h3, h4⟩ := h2
      cases q3
      have f := far hj e1 e2
      refine ⟨?_, by rw [h3]; exact s.keep p _ (hi _ _ h3) (fun _ z => by cases z) f⟩
      cases q : G' p with
      | none => rfl
      | some u =>
        rcases s.new p u q with z | z | z
        · rcases gi p u z with z | z
          · rw [g1] at z; cases z
          · rw [h3] at z; cases z
        · rw [hi _ _ h3] at z; cases z
        · exact absurd z f
    · rw [kp_out hj] at e
      rw [← out hj]
      exact R6.at_ j v e
  · have key : ∀ {i j : Nat} {xs ys : List D}, i ∈ is → j ∉ is → (kp S S' is)[i]? = some (some (.own xs)) → (kp S S' is)[j]? = some (some (.own ys)) → σ[i]? = some (some (.ref p)) → σ[j]? = some (some (.ref p)) → i = j := fun {i j xs ys} hi hj e1 e2 e3 e4 => by
      have e1 := kp_in hi e1
      rw [kp_out hj] at e2
      exact absurd (s.own p ⟨j, ys, e2, by rw [out hj]; exact e4⟩) (far hi e1 e3)
    by_cases hi' : i ∈ is
    · by_cases hj : j ∈ is
      · exact R.inj i j p xs ys (kp_in hi' e1) (kp_in hj e2) e3 e4
      · exact key hi' hj e1 e2 e3 e4
    · by_cases hj : j ∈ is
      · exact (key hj hi' e2 e1 e4 e3).symm
      · rw [kp_out hi'] at e1
        rw [kp_out hj] at e2
        exact R6.inj i j p xs ys e1 e2 (by rw [out hi']; exact e3) (by rw [out hj]; exact e4)
  · exact s.keep a o (hi _ _ e) n fun z => w (owS a z)
  · rcases s.new a o e with z | z | z
    · rcases gi a o z with z | z
      · exact .inl z
      · exact .inr (.inl z)
    · exact .inr (.inl (gH a z))
    · exact .inr (.inr (owS a z))
  · obtain ⟨j, xs, e1, e2⟩ := w
    by_cases hj : j ∈ is
    · exact ⟨j, xs, kp_in hj e1, e2⟩
    · rw [kp_out hj] at e1
      exact owS a (s.own a ⟨j, xs, e1, by rw [out hj]; exact e2⟩)
  · refine s.dom a ?_
    cases q : H a with
    | none => exact absurd q e
    | some u => rw [hi a u q]; simp
/-- a new list that is not data yet is written -/
theorem Rel.wr (R : Rel B S σ G H) {p : Addr} {xs ys : List V} (h : H p = some (.lst xs)) (g : G p = none) (b : B.base p = none) (n : ¬ Ow S σ p) : Rel B S σ G (upd H p (.lst ys)) where
  len := R.len
  sub := R.sub.up g
  bas := fun a o e nt => by
    have ne : a ≠ p := fun z => by rw [z, b] at e; cases e
    rw [upd_ne ne]; exact R.bas a o e nt
  bt := R.bt
  gt := R.gt
  tab := fun q hq => by
    obtain ⟨ps, t1, t2, t3⟩ := R.tab q hq
    have n1 : q.1 ≠ p := fun z => by rw [z, h] at t1; cases t1
    refine ⟨ps, by rw [upd_ne n1]; exact t1, t2, fun pos cv hc => ?_⟩
    obtain ⟨c', e1, e2⟩ := t3 pos cv hc
    refine ⟨c', e1, ?_⟩
    rw [upd_ne (fun z => by rw [z, h] at e2; unfold LamX.CodeO at e2; cases e2)]
    exact e2
  at_ := fun j v e => by
    obtain ⟨x, e1, e2⟩ := R.at_ j v e
    refine ⟨x, e1, At.mono e2 Ex.refl fun a us q1 q2 => ?_⟩
    subst q1 q2
    obtain ⟨a', vs, q3, g1, _⟩ := e2
    cases q3
    have ne : a ≠ p := fun z => n (z ▸ ⟨j, us, e, e1⟩)
    rw [upd_ne ne]
    exact ⟨g1, rfl⟩
  inj := R.inj
  io := R.io
  gx := R.gx
  gn := R.gn
  dm := R.dm.tr (Dm.wr h)
theorem Stp.wr (s : Stp S0 σ G1 H0 S G H) {p : Addr} {o : HO} (h : H0 p = none) : Stp S0 σ G1 H0 S G (upd H p o) where
  ext := s.ext
  keep := fun a u e n w => by rw [upd_ne (ne_of_none e h)]; exact s.keep a u e n w
  new := s.new
  own := s.own
  dom := fun a e => by
    by_cases z : a = p
    · subst z; rw [upd_same]; simp
    · rw [upd_ne z]; exact s.dom a e
theorem lcL_nox {turn : D → Sl → O (Option D)} : ∀ {ds acc : List D} {S : Sl} {k : Str} {fs : Fs} {S' : Sl}, lcL turn ds acc S ≠ .exc k fs S'
  | [], acc, S, k, fs, S', h => by cases h
  | d :: ds, acc, S, k, fs, S', h => by
    unfold lcL at h
    split at h
    · split at h
      · exact lcL_nox h
      · cases h
    · exact lcL_nox h
    · cases h
abbrev W0 : WX := fun _ _ _ _ => False
end
end Z

set_option maxHeartbeats 2000000
/-! A comprehension's reading. -/
namespace Z
open PySem PySem.Spec PyProof.Rows L2
section
variable {X : Cx} {B : Bx} {W : WX} {c : Ctx} {S S0 S1 S' : Sl} {σ : Sg} {G H : Hp} {pos : Pos}
theorem Nm.blk (k : Nm X c B) (s : Shared) (H : Hp) (scope : Scope) (C : Addr) (cl : List (Str × Addr)) (fp : List Addr) : Nm (X.blk s H scope (compEnvC scope cl C X.env) fp) (c.blk scope) B where
  N := k.N
  nd := k.nd
  sc := by show relS scope X.env.scope = _; rw [k.sc]; rfl
  mg := k.mg
  calm := k.calm
  grd := k.grd
  room := k.room
  io := k.io
  okN := k.okN
  okG := k.okG
  val := k.val
  bi := k.bi
  fn := fun x h => by
    have h : ownS scope x = true := h
    unfold ownS at h
    split at h
    · rename_i e
      exact .inr (lookup_relS_keep (sc := X.env.scope) (fun z => nomatch z) e)
    · rename_i e
      exact .inl (by show (scope.names.lookup x == some .cell) = true; rw [e]; rfl)
    · cases h
theorem NmX.blk (k : NmX X c) (s : Shared) (H : Hp) (scope : Scope) (C : Addr) (cl : List (Str × Addr)) (fp : List Addr) : NmX (X.blk s H scope (compEnvC scope cl C X.env) fp) (c.blk scope) where
  own := k.own
  named := fun t h => by
    obtain ⟨cv, u, n⟩ := k.named t h
    exact ⟨cv, u, n.ok, n.rel, n.cls, n.nd⟩
  isx := fun kk t b h => by
    obtain ⟨h1, C, cv, u, h2, h3, n, h4⟩ := k.isx kk t b h
    exact ⟨h1, C, cv, u, h2, h3, ⟨n.ok, n.rel, n.cls, n.nd⟩, h4⟩
def lcOwn (c : Ctx) (tg : Expr) : List (Str × Nat) := (targets tg).filterMap fun x => (ix c x).map fun i => (x, i)
theorem lcOwn_ix (c : Ctx) (tg : Expr) : (lcOwn c tg).map (·.2) = tgX c tg := by
  unfold lcOwn tgX
  induction targets tg with
  | nil => rfl
  | cons x xs ih =>
    rw [List.filterMap_cons, List.filterMap_cons]
    cases ix c x with
    | none => exact ih
    | some i => show i :: _ = i :: _; rw [ih]
theorem lcT_ok {tg : Expr} {scope : Scope} {fif : Sl → O Bool} {fe : Sl → O SV} {d : D} {S2 Sn : Sl} {r : Option D} (h : lcT c tg scope fif fe d S2 = .ok r Sn) :
    ∃ S3, asgD (c.blk scope) tg d (wp S2 (tgX c tg)) = some S3 ∧ ∃ b S4, fif S3 = .ok b S4 ∧ ((b = false ∧ r = none ∧ Sn = kp S2 S4 (tgX c tg)) ∨ (b = true ∧ ∃ v S5 x S6, fe S4 = .ok v S5 ∧ settle S5 v = .ok x S6 ∧ r = some x ∧ Sn = kp S2 S6 (tgX c tg))) := by
  unfold lcT at h
  rw [wipeN_wp] at h
  split at h
  · cases h
  · rename_i S3 e3
    refine ⟨S3, e3, ?_⟩
    cases e4 : fif S3 with
    | exc => rw [e4] at h; cases h
    | bad => rw [e4] at h; cases h
    | ok b S4 =>
      rw [e4] at h
      refine ⟨b, S4, rfl, ?_⟩
      cases b with
      | false =>
        have h' : O.ok none (keepN c S2 (targets tg) S4) = O.ok r Sn := h
        rw [keepN_kp] at h'
        cases h'
        exact .inl ⟨rfl, rfl, rfl⟩
      | true =>
        have h' : ((fe S4).bind fun v S5 => (settle S5 v).bind fun x S6 => O.ok (some x) (keepN c S2 (targets tg) S6)) = O.ok r Sn := h
        cases e5 : fe S4 with
        | exc => rw [e5] at h'; cases h'
        | bad => rw [e5] at h'; cases h'
        | ok v S5 =>
          rw [e5] at h'
          have h' : ((settle S5 v).bind fun x S6 => O.ok (some x) (keepN c S2 (targets tg) S6)) = O.ok r Sn := h'
          cases e6 : settle S5 v with
          | exc => rw [e6] at h'; cases h'
          | bad => rw [e6] at h'; cases h'
          | ok x S6 =>
            rw [e6] at h'
            have h' : O.ok (some x) (keepN c S2 (targets tg) S6) = O.ok r Sn := h'
            rw [keepN_kp] at h'
            cases h'
            exact .inr ⟨rfl, v, S5, x, S6, rfl, e6, rfl, rfl⟩
theorem lc_io {tg : Expr} {scope : Scope} (io : c.io = B.io.map (·.1)) (lc : lcOk c tg scope = true) : ∀ i ∈ tgX c tg, ∀ p, B.io ≠ some (i, p) := by
  unfold lcOk at lc
  simp only [Bool.and_eq_true, List.all_eq_true, decide_eq_true_eq] at lc
  obtain ⟨⟨⟨⟨_, _⟩, l3⟩, l4⟩, l5⟩ := lc
  intro i h p z
  rw [← lcOwn_ix] at h
  obtain ⟨q, h1, rfl⟩ := List.mem_map.mp h
  exact l5 q h1 (by rw [io, z]; rfl)
theorem lc_blk {tg : Expr} {scope : Scope} (k : Nm X c B) (lc : lcOk c tg scope = true) : BlkOk X.N X.env.scope scope (lcOwn c tg) := by
  unfold lcOk at lc
  simp only [Bool.and_eq_true, List.all_eq_true, decide_eq_true_eq] at lc
  obtain ⟨⟨⟨⟨_, _⟩, l3⟩, l4⟩, l5⟩ := lc
  rw [k.N, k.sc]
  exact blkOk_by l4
/-- a comprehension's reading -/
theorem lc_read {tg : Expr} {scope : Scope} {fI : Sl → O (List D)} {fif : Sl → O Bool} {fe : Sl → O SV} (io : ∀ i ∈ tgX c tg, ∀ p, B.io ≠ some (i, p)) {σ : Sg} {H : Hp} {Q : VK}
    (h : tE B W (fun S => (fI S).bind fun ds S1 => (lcL (lcT c tg scope fif fe) ds [] S1).bind fun xs S2 => .ok (.own xs) S2) σ H Q) : tLc (tI B W fI) (tG B (c.blk scope) tg) (tT B W0 fif) (tE B W0 fe) ((lcOwn c tg).map (·.2)) σ H Q := by
  obtain ⟨S, G, R, q⟩ := h
  refine ⟨S, G, R, ?_⟩
  have q' := q.bind
  rw [lcOwn_ix]
  generalize his : tgX c tg = is at io ⊢
  cases e : fI S with
  | exc kk fs S' => rw [e] at q'; exact q'
  | bad => rw [e] at q'; exact q'
  | ok ds S1 =>
    rw [e] at q'
    intro J G1 H1 R1 s1 gv D hD
    cases e2 : lcL (lcT c tg scope fif fe) ds [] S1 with
    | exc kk fs S' => exact absurd e2 lcL_nox
    | bad =>
      have q' : K1 B W σ G ((lcL (lcT c tg scope fif fe) ds [] S1).bind fun xs S2 => O.ok (SV.own xs) S2) _ := q'
      rw [e2] at q'; exact q'.elim
    | ok xs S2 =>
      have q2 : ∀ x G' H', Rel B S2 σ G' H' → Stp S σ G H S2 G' H' → RV B S2 σ G' H H' (.own xs) x → Q x H' := by
        have q' : K1 B W σ G ((lcL (lcT c tg scope fif fe) ds [] S1).bind fun xs S2 => O.ok (SV.own xs) S2) _ := q'
        rw [e2] at q'
        exact q'
      have hD0 : H D = none := by
        cases z : H D with
        | none => rfl
        | some u => exact absurd hD (s1.dom D (by rw [z]; simp))
      have bD := R1.bnone hD
      refine ⟨fun i m H' => m = ds.length - i ∧ i ≤ ds.length ∧ ∃ Si Gi acc av, Rel B Si σ Gi H' ∧ Stp S σ G H Si Gi H' ∧ Ex G1 Gi ∧ H' D = some (.lst av) ∧ Rps Gi av acc ∧ Gi D = none ∧ ¬ Ow Si σ D ∧ lcL (lcT c tg scope fif fe) (ds.drop i) acc Si = .ok xs S2,
        ⟨ds.length, by simp, Nat.zero_le _, S1, G1, [], [], R1.fresh hD, s1.tr (Stp.fresh hD), Ex.refl, upd_same, .nil, R1.gnone hD, R1.now hD, by simpa using e2⟩, ?_⟩
      rintro i m H' ⟨rfl, hi, Si, Gi, acc, av, Ri, si, eg, hd, ra, gd, nd, el⟩
      by_cases lt : i < ds.length
      · have hdi : ds[i]? = some ds[i] := List.getElem?_eq_getElem lt
        rw [List.drop_eq_getElem_cons lt] at el
        unfold lcL at el
        refine .inr ⟨gv.go i H' lt (eg.tr Ri.sub), _, fun H'' z => ⟨ds.length - (i + 1), by omega, z⟩, fun x H'' y => ?_⟩
        have step : ∃ Gj, Rel B Si σ Gj H'' ∧ Rp Gj x ds[i] ∧ Ex Gi Gj ∧ (∀ a o, Gj a = some o → Gi a = some o ∨ H' a = none) ∧ (∀ a o, H' a = some o → H'' a = some o) ∧ (∀ a, H'' a = none → H' a = none) := by
          rcases gv.yld i H' x H'' _ hdi (eg.tr Ri.sub) y with ⟨rfl, r⟩ | ⟨T, zs, es, rfl, hT, rfl, ed, rz⟩
          · exact ⟨Gi, Ri, r.mono eg, Ex.refl, fun _ _ z => .inl z, fun _ _ z => z, fun _ z => z⟩
          · have en := Ex.new (o := HO.tup zs) (Ri.gnone hT)
            refine ⟨upd Gi T (.tup zs), Ri.lay hT (fun ps z => by cases z), ?_, en, fun a o z => ?_, Ex.new hT, fun a z => ?_⟩
            · rw [ed]; exact .tup (.inl upd_same) (rz.mono (eg.tr en))
            · by_cases w : a = T
              · subst w; exact .inr hT
              · rw [upd_ne w] at z; exact .inl z
            · by_cases w : a = T
              · subst w; exact hT
              · rw [upd_ne w] at z; exact z
        obtain ⟨Gj, Rj, rp, egj, gi, hi2, gH⟩ := step
        cases et : lcT c tg scope fif fe ds[i] Si with
        | exc => rw [et] at el; cases el
        | bad => rw [et] at el; cases el
        | ok r Sn =>
          rw [et] at el
          obtain ⟨S3, e3, b, S4, e4, eb⟩ := lcT_ok et
          rw [his] at e3 eb
          have nd3 : ∀ {σ2 : Sg}, (∀ a, Ow S3 σ2 a → Ow (wp Si is) (wp σ is) a) → ¬ Ow S3 σ2 D := fun {σ2} o w => by
            obtain ⟨l, us, n, f1, f2⟩ := ow_wp (o D w)
            exact nd ⟨l, us, f1, f2⟩
          have gdj : Gj D = none := by
            cases z : Gj D with
            | none => rfl
            | some u =>
              rcases gi D u z with w | w
              · rw [gd] at w; cases w
              · rw [hd] at w; cases w
          refine ⟨wp Si is, Gj, ds[i], S3, by rw [wp_wipe]; exact Rj.wipe io, rp, e3, fun σ2 R3 w2 o2 => ⟨?_, S3, Gj, R3, ?_⟩⟩
          · rw [wp_wipe, wp_wipe]
            have w2 : wp σ2 (tgX c tg) = wp (wipe σ is) (tgX c tg) := w2
            rw [his, wp_wipe, wp_wp is is fun _ z => z] at w2
            exact w2
          · have w2 : wp σ2 (tgX c tg) = wp (wipe σ is) (tgX c tg) := w2
            rw [his, wp_wipe, wp_wp is is fun _ z => z] at w2
            have o2 : ∀ a, Ow S3 σ2 a → Ow (wp Si is) (wp σ is) a := fun a z => by rw [← wp_wipe]; exact o2 a z
            -- from a later state of the turn: the state behind it
            have fin : ∀ {Sx : Sl} {Gx Hx : Hp}, Rel B Sx σ2 Gx Hx → Stp S3 σ2 Gj H'' Sx Gx Hx → Rel B (kp Si Sx is) σ Gx Hx ∧ Stp Si σ Gi H' (kp Si Sx is) Gx Hx ∧ Hx D = some (.lst av) ∧ Gx D = none ∧ ¬ Ow (kp Si Sx is) σ D ∧ Ex Gi Gx := fun {Sx Gx Hx} Rx sx => by
              obtain ⟨a1, a2⟩ := Rel.back Ri Rx sx w2 o2 gi hi2 egj gH
              refine ⟨a1, a2, sx.keep D _ (hi2 _ _ hd) (fun _ z => by cases z) (nd3 o2), ?_, fun z => nd (a2.own D z), egj.tr sx.ext⟩
              cases z : Gx D with
              | none => rfl
              | some u =>
                rcases sx.new D u z with w | w | w
                · rw [gdj] at w; cases w
                · rw [hi2 _ _ hd] at w; cases w
                · exact absurd w (nd3 o2)
            rw [e4]
            intro G4 H4 R4 s4
            rcases eb with ⟨rfl, rfl, rfl⟩ | ⟨rfl, v, S5, xd, S6, e5, e6, rfl, rfl⟩
            · rw [if_neg (by decide)]
              obtain ⟨a1, a2, a3, a4, a5, a6⟩ := fin R4 s4
              exact ⟨rfl, lt, _, G4, acc, av, a1, si.tr a2, eg.tr a6, a3, ra.mono a6, a4, a5, el⟩
            · rw [if_pos rfl]
              refine ⟨S4, G4, R4, ?_⟩
              rw [e5]
              intro y G5 H5 R5 s5 v5
              obtain ⟨G6, R6, s6, rpx, _⟩ := settle_ok R4 s5 R5 v5 e6
              obtain ⟨a1, a2, a3, a4, a5, a6⟩ := fin R6 (s4.tr s6)
              have el : (if acc.length < sizeLine then lcL (lcT c tg scope fif fe) (ds.drop (i + 1)) (acc ++ [xd]) (kp Si S6 is) else .bad) = .ok xs S2 := el
              split at el
              · rename_i hz
                exact ⟨av, a3, by rw [ra.length]; exact hz, rfl, lt, _, G6, acc ++ [xd], av ++ [y], a1.wr a3 a4 bD a5, (si.tr a2).wr hD0, eg.tr a6, upd_same, (ra.mono a6).append (.cons rpx .nil), a4, a5, el⟩
              · cases el
      · have ei : i = ds.length := by omega
        subst ei
        rw [List.drop_length] at el
        cases el
        exact .inl ⟨gv.stop H' (eg.tr Ri.sub), q2 (.ref D) Gi H' Ri si ⟨D, av, rfl, hD0, nd, gd, hd, ra⟩⟩
theorem e_lc {elt tg it : Expr} {ifs : List Expr} {scope : Scope} {fI : Sl → O (List D)} {fif : Sl → O Bool} {fe : Sl → O SV} (k : Nm X c B) (lc : lcOk c tg scope = true) (fo : forOk it = true)
    (hi : PI X tg it (tI B W fI)) (ht : ∀ s H C cl fp, PTs (X.blk s H scope (compEnvC scope cl C X.env) fp) ifs (tT B W0 fif)) (he : ∀ s H C cl fp, PE (X.blk s H scope (compEnvC scope cl C X.env) fp) elt (tE B W0 fe)) :
    PE X (.ListComp elt [⟨tg, it, ifs, 0⟩] scope pos) (tE B W fun S => (fI S).bind fun ds S1 => (lcL (lcT c tg scope fif fe) ds [] S1).bind fun xs S2 => .ok (.own xs) S2) :=
  PE.imp (pe_lc k.calm k.nd hi (lc_blk k lc) (fun s H C cl fp => pg_tg (k.blk s H scope C cl fp) tg) ht he (hs := fun x => by cases it <;> first | rfl | (cases fo; done))) fun σ H Q h => lc_read (lc_io k.io lc) h
end
end Z

set_option maxHeartbeats 2000000
/-! A def called: what it gets, what it leaves. -/
namespace Z
open PySem PySem.Spec PyProof.Rows L2
/-- the callers' part of the heap that a callee leaves as it is -/
def cutB (H : Hp) (io : Option Addr) : Hp := fun a => if io = some a then none else match H a with
  | some (.tbl _) => none
  | o => o
/-- what lies behind a call -/
structure Post (b : Hp) (tabs : List (Addr × Str)) (G0 H G' H' : Hp) : Prop where
  ext : Ex G0 G'
  sub : Ex G' H'
  gt : ∀ a o, G' a = some o → NoT o
  bas : Ek b H'
  tab : LamX.Tabs tabs H'
  new : ∀ a o, G' a = some o → G0 a = some o ∨ H a = none
  dm : Dm H H'
/-- a result -/
def RVc (H G' H' : Hp) : SV → V → Prop
  | .dat d, x => Rp G' x d
  | .own xs, x => ∃ p ys, x = .ref p ∧ H p = none ∧ G' p = none ∧ H' p = some (.lst ys) ∧ Rps G' ys xs
  | _, _ => False
def ioP (io : Option (Nat × Addr)) (G' H' : Hp) (xs : List D) : Prop := ∀ i p, io = some (i, p) → G' p = none ∧ ∃ ys, H' p = some (.lst ys) ∧ Rps G' ys xs
/-- what a def promises -/
def spZ (mg : Str → Option Value) (tabs : List (Addr × Str)) (F : Fn) : Sp := fun vs H Q E => ∃ (as : List SV) (B : Bx) (G : Hp), B.mg = mg ∧ B.tabs = tabs ∧ B.io.map (·.1) = F.io ∧ B.g0 = G ∧ B.h0 = H ∧ B.base = cutB H (B.io.map (·.2)) ∧ (∀ x r c fs, ¬ B.T x r c fs) ∧ vs.length = F.ps.length ∧ Rel B (as.map some) (vs.map some) G H ∧
  (∀ i xs, as[i]? = some (.own xs) → F.io = some i) ∧ match F.run as with
  | .ok r xs => ∀ x G' H', Post B.base tabs G H G' H' → ioP B.io G' H' xs → RVc H G' H' r x → Q x H'
  | .exc c fs => F.io = none ∧ ∀ C d us G' H', Post B.base tabs G H G' H' → mg c = some (.ref C) → G' d = some (.xd us) → FsR G' us fs → E (.ref C) (some d) H'
  | .bad => False
abbrev RVp (B : Bx) (S : Sl) (σ : Sg) (G H0 H : Hp) : List SV → List V → Prop := Paired (RV B S σ G H0 H)
section
variable {B : Bx} {S S0 : Sl} {σ : Sg} {G G00 G0 G' H H0 H' : Hp} {svs : List SV} {vs : List V}
theorem Paired.at {α β : Type} {F : α → β → Prop} : ∀ {xs : List α} {ys : List β} {i : Nat} {x : α}, Paired F xs ys → xs[i]? = some x → ∃ y, ys[i]? = some y ∧ F x y
  | _, _, _, _, .nil, h => by simp at h
  | _, _, 0, _, .cons a _, h => by simp at h; subst h; exact ⟨_, by simp, a⟩
  | _, _, i + 1, x, .cons _ r, h => by
    obtain ⟨y, h1, h2⟩ := Paired.at (i := i) r (by simpa using h)
    exact ⟨y, by simpa using h1, h2⟩
/-- the lists that are handed over -/
def Lh (S : Sl) (io : Option Nat) (svs : List SV) (vs : List V) (a : Addr) : Prop := ∃ (i : Nat) (sv : SV) (ds : List D), svs[i]? = some sv ∧ vs[i]? = some (.ref a) ∧ io ≠ some i ∧ cont S sv = some (.list ds) ∧ ∀ d, sv ≠ .dat d
open Classical in
noncomputable def glue (G H : Hp) (L : Addr → Prop) : Hp := fun a => if L a then H a else G a
theorem glue_in {L : Addr → Prop} {a : Addr} (h : L a) : glue G H L a = H a := if_pos h
theorem glue_out {L : Addr → Prop} {a : Addr} (h : ¬ L a) : glue G H L a = G a := if_neg h
theorem lh_facts (R : Rel B S σ G H) (v : RVp B S σ G H0 H svs vs) {io : Option Nat} {a : Addr} (h : Lh S io svs vs a) : (∃ ys, H a = some (.lst ys)) ∧ G a = none ∧ ((H0 a = none ∧ ¬ Ow S σ a) ∨ ∃ j xs, j ∈ bors svs ∧ S[j]? = some (some (.own xs)) ∧ σ[j]? = some (some (.ref a))) := by
  obtain ⟨i, sv, ds, h1, h2, h3, h4, h5⟩ := h
  obtain ⟨x, e, rv⟩ := Paired.at v h1
  rw [h2] at e
  cases e
  cases sv with
  | dat d => exact absurd rfl (h5 d)
  | own es =>
    obtain ⟨p, ys, e, q1, q2, q3, q4, q5⟩ := rv
    cases e
    exact ⟨⟨ys, q4⟩, q3, .inl ⟨q1, q2⟩⟩
  | bor j =>
    obtain ⟨xs, e1, e2⟩ := cont_bor h4
    have rv : σ[j]? = some (some (.ref a)) := rv
    have w : Ow S σ a := ⟨j, xs, e1, rv⟩
    obtain ⟨g1, g2, ys, g3⟩ := R.ownH w
    refine ⟨⟨ys, g3⟩, g1, .inr ⟨j, xs, ?_, e1, rv⟩⟩
    clear v rv w g3 g2 g1 e1 e2 h5 h4 h3 h2
    induction svs generalizing i with
    | nil => simp at h1
    | cons s r ih =>
      cases i with
      | zero =>
        simp at h1
        subst h1
        exact List.mem_cons_self
      | succ i =>
        have := ih (i := i) (by simpa using h1)
        cases s <;> first | exact this | exact List.mem_cons_of_mem _ this
  | exc c fs => cases h4
  | thk r c fs => cases h4
theorem hand_at {io : Option Nat} : ∀ {svs as : List SV} {k : Nat}, hand S io k svs = some as → as.length = svs.length ∧ ∀ (i : Nat) (sv : SV), svs[i]? = some sv → ∃ a, as[i]? = some a ∧ hand1 S io (k + i) sv = some a
  | [], as, k, h => by cases h; exact ⟨rfl, fun i sv e => by simp at e⟩
  | s :: r, as, k, h => by
    simp only [hand] at h
    cases e1 : hand1 S io k s with
    | none => rw [e1] at h; cases h
    | some a =>
      cases e2 : hand S io (k + 1) r with
      | none => rw [e1, e2] at h; cases h
      | some bs =>
        rw [e1, e2] at h
        cases h
        obtain ⟨l, f⟩ := hand_at e2
        refine ⟨by simp [l], fun i sv e => ?_⟩
        cases i with
        | zero =>
          simp at e
          subst e
          exact ⟨a, by simp, e1⟩
        | succ i =>
          obtain ⟨a', h1, h2⟩ := f i sv (by simpa using e)
          exact ⟨a', by simpa using h1, by rw [show k + (i + 1) = k + 1 + i by omega]; exact h2⟩
theorem glue_ex (R : Rel B S σ G H) (v : RVp B S σ G H0 H svs vs) {io : Option Nat} : Ex G (glue G H (Lh S io svs vs)) := fun a o e => by
  by_cases h : Lh S io svs vs a
  · rw [(lh_facts R v h).2.1] at e; cases e
  · rw [glue_out h]; exact e
theorem glue_sub (R : Rel B S σ G H) (io : Option Nat) : Ex (glue G H (Lh S io svs vs)) H := fun a o e => by
  by_cases h : Lh S io svs vs a
  · rw [glue_in h] at e; exact e
  · rw [glue_out h] at e; exact R.sub _ _ e
/-- an argument as data in the callee -/
theorem arg_rp (R : Rel B S σ G H) (v : RVp B S σ G H0 H svs vs) {io : Option Nat} {i : Nat} {sv : SV} {x : V} {d : D} (h1 : svs[i]? = some sv) (h2 : vs[i]? = some x) (h3 : io ≠ some i) (h4 : cont S sv = some d) : Rp (glue G H (Lh S io svs vs)) x d := by
  obtain ⟨x', e, rv⟩ := Paired.at v h1
  rw [h2] at e
  cases e
  have eg := glue_ex R v (io := io)
  cases sv with
  | dat d' =>
    cases h4
    exact Rp.mono eg rv
  | own es =>
    cases h4
    obtain ⟨p, ys, rfl, q1, q2, q3, q4, q5⟩ := rv
    have L : Lh S io svs vs p := ⟨i, _, es, h1, h2, h3, rfl, fun d z => by cases z⟩
    exact .lst (.inl (by rw [glue_in L]; exact q4)) (q5.mono eg)
  | bor j =>
    obtain ⟨xs, e1, rfl⟩ := cont_bor h4
    have rv : σ[j]? = some (some x) := rv
    obtain ⟨y, f1, p, ys, rfl, f2, f3, f4, f5⟩ := R.at_ j _ e1
    rw [rv] at f1
    cases f1
    have L : Lh S io svs vs p := ⟨i, _, xs, h1, h2, h3, h4, fun d z => by cases z⟩
    exact .lst (.inl (by rw [glue_in L]; exact f4)) (f5.mono eg)
  | exc c fs => cases h4
  | thk r c fs => cases h4
theorem cutB_some {io : Option Addr} {a : Addr} {o : HO} (h : cutB H io a = some o) : H a = some o ∧ io ≠ some a ∧ NoT o := by
  unfold cutB at h
  split at h
  · cases h
  · rename_i n
    cases e : H a with
    | none => rw [e] at h; cases h
    | some u =>
      rw [e] at h
      cases u <;> first | (cases h; done) | (cases h; exact ⟨rfl, n, fun ps z => by cases z⟩)
theorem cutB_of {io : Option Addr} {a : Addr} {o : HO} (h : H a = some o) (n : NoT o) (i : io ≠ some a) : cutB H io a = some o := by
  unfold cutB
  rw [if_neg i, h]
  cases o <;> first | rfl | exact absurd rfl (n _)
/-- the state in which the callee starts -/
theorem call_rel (R : Rel B S σ G H) (v : RVp B S σ G H0 H svs vs) {F : Fn} {as : List SV} (h : hand S F.io 0 svs = some as) (one : ∀ k i, F.io = some k → svs[k]? = some (.bor i) → (bors svs).count i = 1) (hk : ∀ k, F.io = some k → k < svs.length) :
    ∃ io : Option (Nat × Addr), io.map (·.1) = F.io ∧ (∀ k p, io = some (k, p) → ∃ i xs, svs[k]? = some (.bor i) ∧ S[i]? = some (some (.own xs)) ∧ σ[i]? = some (some (.ref p))) ∧
      Rel ⟨B.mg, fun _ _ _ _ => False, cutB H (io.map (·.2)), io, B.tabs, glue G H (Lh S F.io svs vs), H⟩ (as.map some) (vs.map some) (glue G H (Lh S F.io svs vs)) H ∧ (∀ i xs, as[i]? = some (.own xs) → F.io = some i) ∧ ∀ k p, io = some (k, p) → ¬ Lh S F.io svs vs p := by
  obtain ⟨la, fa⟩ := hand_at h
  have lv := v.length
  -- the list handed over to be written
  have ioF : ∀ k, F.io = some k → ∃ i xs p, svs[k]? = some (.bor i) ∧ S[i]? = some (some (.own xs)) ∧ σ[i]? = some (some (.ref p)) ∧ vs[k]? = some (.ref p) ∧ as[k]? = some (.own xs) := fun k e => by
    have lt := hk k e
    obtain ⟨a, e1, e2⟩ := fa k _ (List.getElem?_eq_getElem lt)
    unfold hand1 at e2
    rw [Nat.zero_add, if_pos e] at e2
    cases q : svs[k] with
    | bor i =>
      rw [q] at e2
      dsimp only at e2
      split at e2
      · rename_i xs e3
        cases e2
        have e4 : svs[k]? = some (.bor i) := by rw [List.getElem?_eq_getElem lt, q]
        obtain ⟨x, f1, f2⟩ := Paired.at v e4
        have f2 : σ[i]? = some (some x) := f2
        obtain ⟨y, g1, p, ys, rfl, _⟩ := R.at_ i _ e3
        rw [f2] at g1
        cases g1
        exact ⟨i, xs, p, e4, e3, f2, f1, e1⟩
      · cases e2
    | dat d => rw [q] at e2; cases e2
    | own d => rw [q] at e2; cases e2
    | exc c fs => rw [q] at e2; cases e2
    | thk r c fs => rw [q] at e2; cases e2
  obtain ⟨io, i1, i2⟩ : ∃ io : Option (Nat × Addr), io.map (·.1) = F.io ∧ ∀ k p, io = some (k, p) → ∃ i xs, svs[k]? = some (.bor i) ∧ S[i]? = some (some (.own xs)) ∧ σ[i]? = some (some (.ref p)) ∧ vs[k]? = some (.ref p) ∧ as[k]? = some (.own xs) := by
    cases e : F.io with
    | none => exact ⟨none, rfl, fun k p z => by cases z⟩
    | some k =>
      obtain ⟨i, xs, p, h1, h2, h3, h4, h5⟩ := ioF k e
      exact ⟨some (k, p), rfl, fun k' p' z => by cases z; exact ⟨i, xs, h1, h2, h3, h4, h5⟩⟩
  have only : ∀ i xs, as[i]? = some (.own xs) → F.io = some i := fun i xs e => by
    have lt : i < svs.length := by rw [← la]; exact (List.getElem?_eq_some_iff.mp e).1
    obtain ⟨a, e1, e2⟩ := fa i _ (List.getElem?_eq_getElem lt)
    rw [e] at e1
    cases e1
    unfold hand1 at e2
    rw [Nat.zero_add] at e2
    by_cases z : F.io = some i
    · exact z
    · rw [if_neg z] at e2
      cases c : cont S svs[i] with
      | none => rw [c] at e2; cases e2
      | some d => rw [c] at e2; cases e2
  have ioA : ∀ p, io.map (·.2) = some p → ∃ k, io = some (k, p) := fun p e => by
    cases io with
    | none => cases e
    | some q => obtain ⟨k, p'⟩ := q; cases e; exact ⟨k, rfl⟩
  -- the written list is not among the others
  have apart : ∀ k p, io = some (k, p) → ¬ Lh S F.io svs vs p := fun k p e L => by
    obtain ⟨i, xs, h1, h2, h3, h4, h5⟩ := i2 k p e
    have fk : F.io = some k := by rw [← i1, e]; rfl
    have w : Ow S σ p := ⟨i, xs, h2, h3⟩
    obtain ⟨l, sv, ds, l1, l2, l3, l4, l5⟩ := L
    obtain ⟨x, g1, g2⟩ := Paired.at v l1
    rw [l2] at g1
    cases g1
    cases sv with
    | dat d => exact l5 d rfl
    | own es => obtain ⟨p', ys, e', _, q2, _⟩ := g2; cases e'; exact q2 w
    | bor j =>
      obtain ⟨us, e1, _⟩ := cont_bor l4
      have g2 : σ[j]? = some (some (.ref p)) := g2
      have ij := R.inj i j p xs us h2 e1 h3 g2
      subst ij
      have c1 := one k i fk h1
      have nk : l ≠ k := fun z => l3 (z ▸ fk)
      have two : ∀ {svs : List SV} {l k : Nat}, l ≠ k → svs[l]? = some (.bor i) → svs[k]? = some (.bor i) → 2 ≤ (bors svs).count i := by
        intro svs
        induction svs with
        | nil => intro l k _ h; simp at h
        | cons s r ih =>
          intro l k nk a b
          have single : ∀ {m : Nat}, r[m]? = some (.bor i) → 1 ≤ (bors r).count i := by
            intro m hm
            clear ih a b nk
            induction r generalizing m with
            | nil => simp at hm
            | cons t r ih2 =>
              cases m with
              | zero =>
                simp at hm
                subst hm
                simp [bors]
              | succ m =>
                have := ih2 (m := m) (by simpa using hm)
                cases t <;> simp only [bors] <;> first | exact this | (rw [List.count_cons]; omega)
          cases l with
          | zero =>
            simp at a
            subst a
            cases k with
            | zero => exact absurd rfl nk
            | succ k =>
              have := single (m := k) (by simpa using b)
              simp only [bors, List.count_cons_self]
              omega
          | succ l =>
            cases k with
            | zero =>
              simp at b
              subst b
              have := single (m := l) (by simpa using a)
              simp only [bors, List.count_cons_self]
              omega
            | succ k =>
              have := ih (l := l) (k := k) (by omega) (by simpa using a) (by simpa using b)
              cases s <;> simp only [bors] <;> first | exact this | (rw [List.count_cons]; omega)
      have := two nk l1 h1
      omega
    | exc c fs => cases l4
    | thk r c fs => cases l4
  refine ⟨io, i1, fun k p e => ?_, ⟨by simp [la, lv], glue_sub R _, fun a o e _ => (cutB_some e).1, fun a ps e => (cutB_some e).2.2 ps rfl, fun a o e => ?_, R.tab, fun i w e => ?_, fun i j p xs ys e1 e2 e3 e4 => ?_, fun i p e => ?_, Ex.refl, fun a o e => .inl e, Dm.ex Ex.refl⟩, only, apart⟩
  · obtain ⟨i, xs, h1, h2, h3, _⟩ := i2 k p e
    exact ⟨i, xs, h1, h2, h3⟩
  · by_cases L : Lh S F.io svs vs a
    · rw [glue_in L] at e
      obtain ⟨⟨ys, e'⟩, _⟩ := lh_facts R v L
      rw [e'] at e
      cases e
      exact fun ps z => by cases z
    · rw [glue_out L] at e; exact R.gt a o e
  · rw [List.getElem?_map] at e
    cases e0 : as[i]? with
    | none => rw [e0] at e; cases e
    | some a =>
      rw [e0] at e
      cases e
      have lt : i < svs.length := by rw [← la]; exact (List.getElem?_eq_some_iff.mp e0).1
      obtain ⟨a', e1, e2⟩ := fa i _ (List.getElem?_eq_getElem lt)
      rw [e0] at e1
      cases e1
      have lt' : i < vs.length := by omega
      refine ⟨vs[i], by rw [List.getElem?_map, List.getElem?_eq_getElem lt']; rfl, ?_⟩
      unfold hand1 at e2
      rw [Nat.zero_add] at e2
      by_cases z : F.io = some i
      · obtain ⟨j, xs, p, h1, h2, h3, h4, h5⟩ := ioF i z
        rw [e0] at h5
        cases h5
        rw [List.getElem?_eq_getElem lt'] at h4
        have h4' : vs[i] = .ref p := Option.some.inj h4
        rw [h4']
        obtain ⟨y, g1, p', ys, rfl, g2, g3, g4, g5⟩ := R.at_ j _ h2
        rw [h3] at g1
        cases g1
        have ez : io = some (i, p) := by
          cases hio : io with
          | none => rw [hio] at i1; rw [← i1] at z; cases z
          | some q =>
            obtain ⟨k', p''⟩ := q
            have ek : k' = i := by
              rw [hio] at i1
              rw [← i1] at z
              exact Option.some.inj z
            subst ek
            obtain ⟨_, _, _, _, _, h4'', _⟩ := i2 k' p'' hio
            rw [List.getElem?_eq_getElem lt', h4'] at h4''
            cases h4''
            rfl
        have nL := apart i p ez
        exact ⟨p, ys, rfl, by rw [glue_out nL]; exact g2, by unfold cutB; rw [ez]; exact if_pos rfl, g4, g5.mono (glue_ex R v)⟩
      · rw [if_neg z] at e2
        cases c : cont S svs[i] with
        | none => rw [c] at e2; cases e2
        | some d =>
          rw [c] at e2
          cases e2
          exact arg_rp R v (List.getElem?_eq_getElem lt) (List.getElem?_eq_getElem lt') z c
  · rw [List.getElem?_map] at e1 e2
    have f1 : as[i]? = some (.own xs) := by
      cases q : as[i]? with
      | none => rw [q] at e1; cases e1
      | some a => rw [q] at e1; simpa using e1
    have f2 : as[j]? = some (.own ys) := by
      cases q : as[j]? with
      | none => rw [q] at e2; cases e2
      | some a => rw [q] at e2; simpa using e2
    have z1 := only i xs f1
    rw [only j ys f2] at z1
    exact (Option.some.inj z1).symm
  · obtain ⟨_, _, _, _, _, h4, _⟩ := i2 i p e
    rw [List.getElem?_map, h4]; rfl
end
end Z

set_option maxHeartbeats 2000000
/-! Behind a call. -/
namespace Z
open PySem PySem.Spec PyProof.Rows L2
/-- objects without a list's or a dict's identity -/
def flatO : HO → Bool
  | .tup _ => true
  | .frz _ (.tup _) => true
  | .xd _ => true
  | _ => false
open Classical in
/-- a callee's objects, but for its lists -/
noncomputable def clean (G G' : Hp) : Hp := fun a => match G a with
  | some o => some o
  | none => match G' a with
    | some o => if flatO o then some o else none
    | none => none
theorem clean_of {G G' : Hp} {a : Addr} {o : HO} (h : clean G G' a = some o) : G a = some o ∨ (G a = none ∧ G' a = some o ∧ flatO o = true) := by
  unfold clean at h
  split at h
  · rename_i u e; exact .inl (by rw [e]; exact h)
  · rename_i e
    split at h
    · rename_i u e2
      split at h
      · rename_i f
        cases h
        exact .inr ⟨e, e2, f⟩
      · cases h
    · cases h
theorem clean_ex {G G' : Hp} : Ex G (clean G G') := fun a o e => by unfold clean; rw [e]
theorem clean_in {G G' : Hp} (x : Ex G G') {a : Addr} {o : HO} (h : G' a = some o) (f : flatO o = true) : clean G G' a = some o := by
  unfold clean
  cases e : G a with
  | some u =>
    have := x a u e
    rw [h] at this
    exact this.symm
  | none =>
    simp only [h]
    rw [if_pos f]
theorem clean_sub {G G' : Hp} (x : Ex G G') : Ex (clean G G') G' := fun a o e => by
  rcases clean_of e with h | ⟨_, h, _⟩
  · exact x a o h
  · exact h
mutual
theorem Rp.clean {G G' : Hp} (x : Ex G G') : ∀ {v : V} {d : D}, Rp G' v d → noLst d = true → Rp (Z.clean G G') v d
  | _, _, .non, _ => .non
  | _, _, .bl b, _ => .bl b
  | _, _, .int i, _ => .int i
  | _, _, .str y, _ => .str y
  | _, _, .lst _ _, h => by cases h
  | _, _, .tup h1 h2, h => by
    refine .tup ?_ (Rps.clean x h2 h)
    rcases h1 with e | ⟨o, e⟩
    · exact .inl (clean_in x e rfl)
    · exact .inr ⟨o, clean_in x e rfl⟩
  | _, _, .dic _, h => by cases h
theorem Rps.clean {G G' : Hp} (x : Ex G G') : ∀ {vs : List V} {ds : List D}, Rps G' vs ds → noLsts ds = true → Rps (Z.clean G G') vs ds
  | _, _, .nil, _ => .nil
  | _, _, .cons a b, h => by
    unfold noLsts at h
    rw [Bool.and_eq_true] at h
    exact .cons (Rp.clean x a h.1) (Rps.clean x b h.2)
end
theorem FsR.clean {G G' : Hp} (x : Ex G G') : ∀ {us : List (Str × V)} {fs : Fs}, FsR G' us fs → noLF fs = true → FsR (Z.clean G G') us fs
  | [], [], _, _ => trivial
  | p :: us, q :: fs, h, n => by
    obtain ⟨h1, h2, h3⟩ := h
    unfold noLF at n
    rw [List.all_cons, Bool.and_eq_true] at n
    exact ⟨h1, h2.clean x n.1, FsR.clean x h3 n.2⟩
  | [], _ :: _, h, _ => h
  | _ :: _, [], h, _ => h
section
variable {B : Bx} {S S0 S2 : Sl} {σ : Sg} {G G00 G0 G2 G' H H0 H' : Hp} {svs : List SV} {vs : List V}
theorem after_gen (R0 : Rel B S0 σ G00 H0) (s : Stp S0 σ G00 H0 S G H) (R : Rel B S σ G H) (P : Post (cutB H iop) B.tabs G0 H G' H') {fz : Nat → Prop} (hl : S2.length = S.length) (hE : Ex G G2) (hS : Ex G2 G')
    (hN : ∀ a o, G2 a = some o → G a = some o ∨ H a = none ∨ (H0 a = none ∧ ¬ Ow S σ a) ∨ ∃ j xs, fz j ∧ S[j]? = some (some (.own xs)) ∧ σ[j]? = some (some (.ref a)))
    (sl : ∀ (j : Nat) (w : SV), S2[j]? = some (some w) → (S[j]? = some (some w) ∧ ∀ ds, w = .own ds → ¬ fz j ∧ ∀ p, σ[j]? = some (some (.ref p)) → iop ≠ some p) ∨
      (∃ ds p ys, w = .dat (.list ds) ∧ S[j]? = some (some (.own ds)) ∧ σ[j]? = some (some (.ref p)) ∧ G2 p = some (.lst ys) ∧ Rps G ys ds) ∨
      ∃ ds p ys ds0, w = .own ds ∧ S[j]? = some (some (.own ds0)) ∧ σ[j]? = some (some (.ref p)) ∧ iop = some p ∧ G2 p = none ∧ H' p = some (.lst ys) ∧ Rps G2 ys ds)
    (hio : ∀ p, iop = some p → Ow S σ p) : Rel B S2 σ G2 H' ∧ Stp S0 σ G00 H0 S2 G2 H' := by
  have owS : ∀ {j : Nat} {xs : List D}, S2[j]? = some (some (.own xs)) → ∃ ys, S[j]? = some (some (.own ys)) := fun {j xs} e => by
    rcases sl j _ e with ⟨h, _⟩ | ⟨ds, p, ys, h, _⟩ | ⟨ds, p, ys, ds0, _, h, _⟩
    · exact ⟨_, h⟩
    · cases h
    · exact ⟨_, h⟩
  refine ⟨⟨hl.trans R.len, hS.tr P.sub, fun a o e n => ?_, R.bt, fun a o e => P.gt a o (hS a o e), P.tab, fun j w e => ?_, fun i j p xs ys e1 e2 e3 e4 => ?_, R.io, R.gx.tr hE, fun a o e => ?_, R.dm.tr P.dm⟩, ⟨s.ext.tr hE, fun a o e n w => ?_, fun a o e => ?_, fun a w => ?_, fun a e z => s.dom a e (P.dm.no z)⟩⟩
  · refine P.bas a o (cutB_of (R.bas a o e n) n fun z => ?_) n
    rw [(R.ownH (hio a z)).2.1] at e
    cases e
  · rcases sl j w e with ⟨h, hw⟩ | ⟨ds, p, ys, rfl, h, hp, hg, hr⟩ | ⟨ds, p, ys, ds0, rfl, h, hp, hi, hg, hh, hr⟩
    · obtain ⟨x, e1, e2⟩ := R.at_ j w h
      refine ⟨x, e1, At.mono e2 hE fun p xs q1 q2 => ?_⟩
      subst q1 q2
      obtain ⟨n1, n2⟩ := hw xs rfl
      obtain ⟨p', ys, q3, g1, b1, h3, h4⟩ := e2
      cases q3
      refine ⟨?_, by rw [h3]; exact P.bas p _ (cutB_of h3 (fun _ z => by cases z) (n2 p e1)) fun _ z => by cases z⟩
      cases q : G2 p with
      | none => rfl
      | some u =>
        rcases hN p u q with z | z | ⟨_, z⟩ | ⟨l, us, z1, z2, z3⟩
        · rw [g1] at z; cases z
        · rw [h3] at z; cases z
        · exact absurd ⟨j, xs, h, e1⟩ z
        · exact absurd (R.inj l j p us xs z2 h z3 e1 ▸ z1) n1
    · exact ⟨_, hp, .lst (.inl hg) (hr.mono hE)⟩
    · exact ⟨_, hp, p, ys, rfl, hg, (R.ownH ⟨j, ds0, h, hp⟩).2.1, hh, hr⟩
  · obtain ⟨us, e1⟩ := owS e1
    obtain ⟨ws, e2⟩ := owS e2
    exact R.inj i j p us ws e1 e2 e3 e4
  · rcases hN a o e with z | z | ⟨z, _⟩ | ⟨l, us, z1, z2, z3⟩
    · exact R.gn a o z
    · exact .inr (R.bnone z)
    · exact .inr (R0.bnone z)
    · exact .inr (R.ownH ⟨l, us, z2, z3⟩).2.1
  · refine P.bas a o (cutB_of (s.keep a o e n w) n fun z => w (s.own a (hio a z))) n
  · rcases hN a o e with z | z | ⟨z, _⟩ | ⟨l, us, z1, z2, z3⟩
    · exact s.new a o z
    · refine .inr (.inl ?_)
      cases q : H0 a with
      | none => rfl
      | some u => exact absurd z (s.dom a (by rw [q]; simp))
    · exact .inr (.inl z)
    · exact .inr (.inr (s.own a ⟨l, us, z2, z3⟩))
  · obtain ⟨j, xs, e1, e2⟩ := w
    obtain ⟨us, e1⟩ := owS e1
    exact s.own a ⟨j, us, e1, e2⟩
theorem frz_at {S : Sl} {i j : Nat} : (frz S i)[j]? = if i = j then (match S[j]? with
    | some (some (.own xs)) => some (some (.dat (.list xs)))
    | o => o) else S[j]? := by
  by_cases e : i = j
  · subst e
    rw [if_pos rfl]
    unfold frz
    split
    · rename_i xs h
      unfold put
      first
        | rw [List.getElem?_set_self (List.getElem?_eq_some_iff.mp h).1, h]
        | rw [List.getElem?_set_self (List.getElem?_eq_some_iff.mp h).1]
    · rename_i h
      first
        | rfl
        | (split
           · rename_i xs h2; exact absurd h2 (h xs)
           · rfl)
  · rw [if_neg e]
    unfold frz
    split
    · unfold put
      rw [List.getElem?_set_ne e]
    · rfl
theorem frz_len {S : Sl} {i : Nat} : (frz S i).length = S.length := by
  unfold frz
  split
  · unfold put; rw [List.length_set]
  · rfl
theorem frzAll_len : ∀ {is : List Nat} {S : Sl}, (frzAll S is).length = S.length
  | [], _ => rfl
  | i :: is, S => by unfold frzAll; rw [frzAll_len, frz_len]
theorem frzAll_at : ∀ {is : List Nat} {S : Sl} {j : Nat} {w : SV}, (frzAll S is)[j]? = some (some w) → (S[j]? = some (some w) ∧ ((∃ xs, w = .own xs) → j ∉ is)) ∨ ∃ xs, j ∈ is ∧ S[j]? = some (some (.own xs)) ∧ w = .dat (.list xs)
  | [], S, j, w, h => .inl ⟨h, fun _ => by simp⟩
  | i :: is, S, j, w, h => by
    unfold frzAll at h
    rcases frzAll_at h with ⟨h1, h2⟩ | ⟨xs, h1, h2, h3⟩
    · rw [frz_at] at h1
      split at h1
      · rename_i e
        subst e
        split at h1
        · rename_i xs e
          cases h1
          exact .inr ⟨xs, List.mem_cons_self, e, rfl⟩
        · rename_i e
          refine .inl ⟨h1, fun ⟨xs, z⟩ => ?_⟩
          subst z
          exact absurd h1 (e xs)
      · rename_i e
        exact .inl ⟨h1, fun z => by simp only [List.mem_cons, not_or]; exact ⟨fun q => e q.symm, h2 z⟩⟩
    · rw [frz_at] at h2
      split at h2
      · split at h2
        · cases h2
        · rename_i e; exact absurd h2 (e xs)
      · exact .inr ⟨xs, List.mem_cons_of_mem _ h1, h2, h3⟩
/-- what stands in the callee's objects behind the call -/
theorem post_new (R : Rel B S σ G H) (v : RVp B S σ G H0 H svs vs) {io : Option Nat} (P : Post (cutB H iop) B.tabs (glue G H (Lh S io svs vs)) H G' H') {a : Addr} {o : HO} (h : G' a = some o) :
    G a = some o ∨ H a = none ∨ (Lh S io svs vs a ∧ ∃ ys, o = .lst ys) := by
  rcases P.new a o h with z | z
  · by_cases L : Lh S io svs vs a
    · rw [glue_in L] at z
      obtain ⟨⟨ys, e⟩, _⟩ := lh_facts R v L
      rw [e] at z
      cases z
      exact .inr (.inr ⟨L, ys, rfl⟩)
    · rw [glue_out L] at z; exact .inl z
  · exact .inr (.inl z)
/-- nothing of a list comes back -/
theorem after_clean (R0 : Rel B S0 σ G00 H0) (s : Stp S0 σ G00 H0 S G H) (R : Rel B S σ G H) (v : RVp B S σ G H0 H svs vs) (P : Post (cutB H none) B.tabs (glue G H (Lh S none svs vs)) H G' H') :
    Rel B S σ (clean G G') H' ∧ Stp S0 σ G00 H0 S (clean G G') H' := by
  have x : Ex G G' := (glue_ex R v).tr P.ext
  refine after_gen (fz := fun _ => False) R0 s R P rfl clean_ex (clean_sub x) (fun a o e => ?_) (fun j w e => .inl ⟨e, fun ds _ => ⟨fun z => z, fun p _ z => by cases z⟩⟩) fun p z => by cases z
  rcases clean_of e with h | ⟨_, h, f⟩
  · exact .inl h
  · rcases post_new R v P h with z | z | ⟨_, ys, rfl⟩
    · exact .inl z
    · exact .inr (.inl z)
    · cases f
/-- the lists that were handed over are data from now on -/
theorem after_frz (R0 : Rel B S0 σ G00 H0) (s : Stp S0 σ G00 H0 S G H) (R : Rel B S σ G H) (v : RVp B S σ G H0 H svs vs) (P : Post (cutB H none) B.tabs (glue G H (Lh S none svs vs)) H G' H') (ok : ∀ j ∈ bors svs, ∃ xs p, S[j]? = some (some (.own xs)) ∧ σ[j]? = some (some (.ref p)) ∧ Lh S none svs vs p) :
    Rel B (frzAll S (bors svs)) σ G' H' ∧ Stp S0 σ G00 H0 (frzAll S (bors svs)) G' H' := by
  have x : Ex G G' := (glue_ex R v).tr P.ext
  refine after_gen (fz := fun j => j ∈ bors svs) R0 s R P frzAll_len x Ex.refl (fun a o e => ?_) (fun j w e => ?_) fun p z => by cases z
  · rcases post_new R v P e with z | z | ⟨L, _⟩
    · exact .inl z
    · exact .inr (.inl z)
    · rcases (lh_facts R v L).2.2 with z | ⟨j, xs, z⟩
      · exact .inr (.inr (.inl z))
      · exact .inr (.inr (.inr ⟨j, xs, z⟩))
  · rcases frzAll_at e with ⟨h1, h2⟩ | ⟨xs, h1, h2, rfl⟩
    · exact .inl ⟨h1, fun ds z => ⟨h2 ⟨ds, z⟩, fun p _ z => by cases z⟩⟩
    · obtain ⟨us, p, e1, e2, L⟩ := ok j h1
      rw [h2] at e1
      cases e1
      obtain ⟨y, f1, p', ys, rfl, f2, f3, f4, f5⟩ := R.at_ j _ h2
      rw [e2] at f1
      cases f1
      exact .inr (.inl ⟨xs, p, ys, rfl, h2, e2, P.ext _ _ (by rw [glue_in L]; exact f4), f5⟩)
/-- the list that was handed over to be written comes back -/
theorem after_io (R0 : Rel B S0 σ G00 H0) (s : Stp S0 σ G00 H0 S G H) (R : Rel B S σ G H) (v : RVp B S σ G H0 H svs vs) {k i : Nat} {p : Addr} {us xs : List D} {ys : List V} (P : Post (cutB H (some p)) B.tabs (glue G H (Lh S (some k) svs vs)) H G' H') (e1 : S[i]? = some (some (.own us))) (e2 : σ[i]? = some (some (.ref p)))
    (gp : G' p = none) (hp : H' p = some (.lst ys)) (r : Rps G' ys xs) : (noLsts xs = true → Rel B (put S i (.own xs)) σ (clean G G') H' ∧ Stp S0 σ G00 H0 (put S i (.own xs)) (clean G G') H') ∧
    ((∀ a, Lh S (some k) svs vs a → H0 a = none ∧ ¬ Ow S σ a) → Rel B (put S i (.own xs)) σ G' H' ∧ Stp S0 σ G00 H0 (put S i (.own xs)) G' H') := by
  have x : Ex G G' := (glue_ex R v).tr P.ext
  have li : i < S.length := (List.getElem?_eq_some_iff.mp e1).1
  have g0 : G p = none := (R.ownH ⟨i, us, e1, e2⟩).1
  have slot : ∀ {G2 : Hp}, G2 p = none → Rps G2 ys xs → ∀ (j : Nat) (w : SV), (put S i (.own xs))[j]? = some (some w) → (S[j]? = some (some w) ∧ ∀ ds, w = .own ds → ¬ False ∧ ∀ q, σ[j]? = some (some (.ref q)) → some p ≠ some q) ∨
      (∃ ds q ys, w = .dat (.list ds) ∧ S[j]? = some (some (.own ds)) ∧ σ[j]? = some (some (.ref q)) ∧ G2 q = some (.lst ys) ∧ Rps G ys ds) ∨
      ∃ ds q ys ds0, w = .own ds ∧ S[j]? = some (some (.own ds0)) ∧ σ[j]? = some (some (.ref q)) ∧ some p = some q ∧ G2 q = none ∧ H' q = some (.lst ys) ∧ Rps G2 ys ds := fun {G2} n rr j w e => by
    rcases put_g2 e with ⟨rfl, rfl⟩ | ⟨ne, e⟩
    · exact .inr (.inr ⟨xs, p, ys, us, rfl, e1, e2, rfl, n, hp, rr⟩)
    · refine .inl ⟨e, fun ds zw => ⟨fun z => z, fun q hq zq => ?_⟩⟩
      subst zw
      cases zq
      exact ne (R.inj i j p us ds e1 e e2 hq)
  have len : (put S i (.own xs)).length = S.length := by unfold put; rw [List.length_set]
  refine ⟨fun n => ?_, fun n => ?_⟩
  · refine after_gen (fz := fun _ => False) R0 s R P len clean_ex (clean_sub x) (fun a o e => ?_) (slot ?_ (r.clean x n)) fun q z => by cases z; exact ⟨i, us, e1, e2⟩
    · rcases clean_of e with h | ⟨_, h, f⟩
      · exact .inl h
      · rcases post_new R v P h with z | z | ⟨_, ys, rfl⟩
        · exact .inl z
        · exact .inr (.inl z)
        · cases f
    · cases q : clean G G' p with
      | none => rfl
      | some u => rw [clean_sub x p u q] at gp; cases gp
  · refine after_gen (fz := fun _ => False) R0 s R P len x Ex.refl (fun a o e => ?_) (slot gp r) fun q z => by cases z; exact ⟨i, us, e1, e2⟩
    rcases post_new R v P e with z | z | ⟨L, _⟩
    · exact .inl z
    · exact .inr (.inl z)
    · exact .inr (.inr (.inl (n a L)))
end
end Z

set_option maxHeartbeats 2000000
/-! The call of an own def. -/
namespace Z
open PySem PySem.Spec PyProof.Rows L2
structure FnZ (P : Program) (w : World) (K : PySem.W.Frag) (mg : Str → Option Value) (base : Heap) (tabs : List (Addr × Str)) (k : Nat) (f : Addr) (fd : FuncData) (F : Fn) : Prop where
  run : ∀ (A : Around) (outer : List Env) (s : Shared) (H : Hp) (args : Args) (Q : VK) (E : XK), Room k A → A.guards = some [] → Env0 P w K mg base A outer s H → StX.Bnd (CX P w) P w K mg base fd args F.ps A outer s H E (fun vs H2 => spZ mg tabs F vs H2 Q E) →
    codeAny (model P w) A (.call (.ref f) args) (CR (CX P w) outer P w H s Q E) s
/-- a binding that makes nothing -/
theorem bnd_of {CX : CXT} {P : Program} {w : World} {K : PySem.W.Frag} {mg : Str → Option Value} {base : Heap} {fd : FuncData} {args : Args} {ps : List Str} {A : Around} {outer : List Env} {s : Shared} {H : Hp} {E : XK} {Gg : List V → Hp → Prop} {us : List Value} {vs : List V}
    (e0 : Env0 P w K mg base A outer s H) (hb : BindsTo s fd args (ps.zip us)) (r : Vals vs us) (hl : vs.length = ps.length) (g : Gg vs H) : StX.Bnd CX P w K mg base fd args ps A outer s H E Gg :=
  fun A' Ex Q h => hb _ _ _ _ (h s H vs us e0 Un.refl rfl (fun _ _ z => z) r hl g)
/-- a binding that lays a tuple -/
theorem bnd_star {P : Program} {w : World} {K : PySem.W.Frag} {mg : Str → Option Value} {base : Heap} {fd : FuncData} {args : Args} {ps : List Str} {A : Around} {outer : List Env} {s : Shared} {H : Hp} {E : XK} {Gg : List V → Hp → Prop} {rest : List Value} {rv : List V} {us : Value → List Value}
    (e0 : Env0 P w K mg base A outer s H) (hb : ∀ (M : Model) (A : Around) (Ex : Value → Shared → Prop) (Q : List (Str × Value) → Shared → Prop), wpAny M A (newTuple rest) (fun t s' => Q (ps.zip (us t)) s') Ex s → wpAny M A (bindArgs fd args) Q Ex s)
    (rr : Vals rv rest) (hz : rv.length ≤ sizeLine) (r : ∀ p : Addr, H p = none → ∃ vs, Vals vs (us (.ref p)) ∧ vs.length = ps.length ∧ Gg vs (upd H p (.tup rv))) : StX.Bnd (CX P w) P w K mg base fd args ps A outer s H E Gg := fun A' Ex Q h => by
  have hn : H s.heap.objs.size = none := e0.hok.fresh (Nat.le_refl _)
  have hl : rest.length ≤ sizeLine := by rw [← rr.length]; exact hz
  have new : ObjOk P w (upd H s.heap.objs.size (.tup rv)) (s.heap.push ({ cls := .type "tuple", data := .seq rest.toArray } : Obj)) s.heap.objs.size (.tup rv) := ⟨hz, rest, rr, ⟨_, Heap.get?_push_size _ rfl, rfl, _, rfl⟩⟩
  have un := StX.un_laid (fs := frs outer) (s := s) (o := ({ cls := .type "tuple", data := .seq rest.toArray } : Obj)) (u := .tup rv) hn
  obtain ⟨vs, r1, r2, r3⟩ := r _ hn
  exact hb _ _ _ _ (wpAny_newTuple (h _ _ vs (us (.ref s.heap.objs.size)) (StX.env0_laid e0 new) un rfl (fun e s' => StX.cxUp outer s H _ _ E e s' un (fun b o q => Heap.get?_push_of_some _ q) rfl) r1 r2 r3) hl)
def PkS (vs zs : List V) : Src → V → Prop
  | .pos i, y => vs[i]? = some y
  | .kw j, y => zs[j]? = some y
  | .dfl d, y => vD d = some y
/-- a call of a def with a star: us.drop k goes into a tuple -/
structure SBn (K : PySem.W.Frag) (fd : FuncData) (ps : List Str) (any : Bool) (k : Nat) (ks : List Str) (g : List Value → List Value → List Value) (gV : List V → List V → List V) : Prop where
  to : ∀ (s : Shared) (us ws : List Value), K.In s.heap → k ≤ us.length → (any = false → us = []) → ws.length = ks.length → ∀ (M : Model) (A : Around) (Ex : Value → Shared → Prop) (Q : List (Str × Value) → Shared → Prop),
    wpAny M A (newTuple (us.drop k)) (fun t s' => Q (ps.zip (g (us.take k) (ws ++ [t]))) s') Ex s → wpAny M A (bindArgs fd ⟨us, ks.zip ws⟩) Q Ex s
  rel : ∀ {vs : List V} {us : List Value} {zs : List V} {ws : List Value}, Vals vs us → Vals zs ws → Vals (gV vs zs) (g us ws)
structure BindZ (K : PySem.W.Frag) (fd : FuncData) (F : Fn) : Prop where
  toS : ∀ kk k ns src, F.star = some kk → (k = kk ∨ k = 0) → F.plan k ns = some src → src.length = F.ps.length ∧ ∃ g gV, SBn K fd F.ps (decide (k = kk)) k ns g gV ∧ ∀ vs zs, vs.length = k → zs.length = ns.length + 1 → Paired (PkS vs zs) src (gV vs zs)
  to : F.star = none → ∀ n ns src, F.plan n ns = some src → src.length = F.ps.length ∧ ∃ g gV, KBn K fd F.ps n ns g gV ∧ ∀ vs zs, vs.length = n → zs.length = ns.length → Paired (PkS vs zs) src (gV vs zs)
structure FunZ (X : Cx) (tabs : List (Addr × Str)) (x : Str) (F : Fn) : Prop where
  ex : ∃ f fd, X.mg x = some (.ref f) ∧ PySem.W.keepIn X.K (.ref f) = true ∧ FnZ X.prog X.w X.K X.mg X.base tabs F.lvl f fd F ∧ BindZ X.K fd F
  nd : (x == ("__debug__" : Str)) = false
section
variable {X : Cx} {B : Bx} {W : WX} {c : Ctx} {S S0 S2 : Sl} {σ : Sg} {G G00 G0 G2 G' H H0 H' : Hp} {p pos : Pos} {args : List Expr} {kws : List Keyword} {ga gk : Sl → O (List SV)}
theorem PK.imp {e : List Keyword} {t t' : TA} (h : PK X e t) (i : ∀ σ H Q, t' σ H Q → t σ H Q) : PK X e t' := ⟨fun p pins s σ H Q I q => h.run p pins s σ H Q I (i σ H Q q)⟩
theorem PK.bad {e : List Keyword} : PK X e (tA B W fun _ => .bad) := ⟨fun _ _ _ _ _ _ _ ⟨_, _, _, h⟩ => h.elim⟩
theorem RVs.par {svs : List SV} {vs : List V} (h : RVs B S σ G H0 H svs vs) : RVp B S σ G H0 H svs vs := by
  induction h with
  | nil => exact .nil
  | cons a _ _ ih => exact .cons a ih
theorem RVp.step {svs : List SV} {vs : List V} (h : RVp B S σ G H0 H svs vs) (s : Stp S σ G H S2 G' H') : RVp B S2 σ G' H0 H' svs vs := by
  induction h with
  | nil => exact .nil
  | cons a _ ih => exact .cons (a.step s) ih
theorem RVp.back {H1 : Hp} {svs : List SV} {vs : List V} (h : RVp B S σ G H1 H svs vs) (d : ∀ a, H0 a ≠ none → H1 a ≠ none) : RVp B S σ G H0 H svs vs := by
  induction h with
  | nil => exact .nil
  | cons a _ ih => exact .cons (a.back d) ih
theorem pick_rel {svs kvs : List SV} {vs zs : List V} (h1 : RVp B S σ G H0 H svs vs) (h2 : RVp B S σ G H0 H kvs zs) : ∀ {src : List Src} {avs : List SV} {ys : List V}, pick src svs kvs = some avs → Paired (PkS vs zs) src ys → RVp B S σ G H0 H avs ys
  | [], avs, ys, e, h => by cases h; cases e; exact .nil
  | a :: src, avs, ys, e, h => by
    cases h with
    | cons pa pr => ?_
    rename_i y yr
    cases a with
    | pos i =>
      simp only [pick] at e
      cases q1 : svs[i]? with
      | none => rw [q1] at e; cases e
      | some v =>
        cases q2 : pick src svs kvs with
        | none => rw [q1, q2] at e; cases e
        | some r =>
          rw [q1, q2] at e
          cases e
          obtain ⟨x, e1, e2⟩ := Paired.at h1 q1
          have pa : vs[i]? = some y := pa
          rw [pa] at e1
          cases e1
          exact .cons e2 (pick_rel h1 h2 q2 pr)
    | kw i =>
      simp only [pick] at e
      cases q1 : kvs[i]? with
      | none => rw [q1] at e; cases e
      | some v =>
        cases q2 : pick src svs kvs with
        | none => rw [q1, q2] at e; cases e
        | some r =>
          rw [q1, q2] at e
          cases e
          obtain ⟨x, e1, e2⟩ := Paired.at h2 q1
          have pa : zs[i]? = some y := pa
          rw [pa] at e1
          cases e1
          exact .cons e2 (pick_rel h1 h2 q2 pr)
    | dfl d =>
      simp only [pick] at e
      cases q2 : pick src svs kvs with
      | none => rw [q2] at e; cases e
      | some r =>
        rw [q2] at e
        cases e
        exact .cons (vD_rp (show vD d = some y from pa)) (pick_rel h1 h2 q2 pr)
theorem bors_at : ∀ {svs : List SV} {j : Nat}, j ∈ bors svs → ∃ i : Nat, svs[i]? = some (SV.bor j)
  | [], j, h => by cases h
  | s :: r, j, h => by
    have key : j ∈ bors r → ∃ i : Nat, (s :: r)[i]? = some (SV.bor j) := fun h => by
      obtain ⟨i, e⟩ := bors_at h
      exact ⟨i + 1, by simpa using e⟩
    cases s <;> simp only [bors] at h <;> try exact key h
    rcases List.mem_cons.mp h with e | h
    · exact ⟨0, by rw [e]; rfl⟩
    · exact key h
theorem bor_ok {svs as : List SV} {vs : List V} (R : Rel B S σ G H) (v : RVp B S σ G H0 H svs vs) (eh : hand S none 0 svs = some as) : ∀ j ∈ bors svs, ∃ xs p, S[j]? = some (some (.own xs)) ∧ σ[j]? = some (some (.ref p)) ∧ Lh S none svs vs p := by
  intro j hj
  obtain ⟨i, e1⟩ := bors_at hj
  obtain ⟨_, fa⟩ := hand_at eh
  obtain ⟨a, e2, e3⟩ := fa i _ e1
  unfold hand1 at e3
  rw [if_neg (by intro z; cases z)] at e3
  cases ec : cont S (.bor j) with
  | none => rw [ec] at e3; cases e3
  | some d' =>
    obtain ⟨xs, f1, rfl⟩ := cont_bor ec
    obtain ⟨y, f2, f3⟩ := R.at_ j _ f1
    obtain ⟨pp, _, rfl, _⟩ := f3
    obtain ⟨y', g1, g2⟩ := Paired.at v e1
    have g2 : σ[j]? = some (some y') := g2
    rw [f2] at g2
    cases g2
    exact ⟨xs, pp, f1, f2, i, _, xs, e1, g1, (fun z => by cases z), ec, fun d z => by cases z⟩
/-- the reading of a call, by relations alone -/
theorem call_read {F : Fn} {svs : List SV} {vs : List V} {Q : VK} (s : Stp S0 σ G00 H0 S G H) (R0 : Rel B S0 σ G00 H0) (R : Rel B S σ G H) (v : RVp B S σ G H0 H svs vs) (ln : vs.length = F.ps.length)
    (q : K1 B W σ G (callF F svs S) fun r S' => ∀ x G' H', Rel B S' σ G' H' → Stp S0 σ G00 H0 S' G' H' → RV B S' σ G' H0 H' r x → Q x H') : spZ B.mg B.tabs F vs H Q fun cls d H' => W cls d σ H' := by
  unfold callF at q
  cases eh : hand S F.io 0 svs with
  | none => rw [eh] at q; exact q.elim
  | some as =>
    rw [eh] at q
    dsimp only at q
    have hnone : ∀ a, H a = none → H0 a = none := fun a e => by
      cases z : H0 a with
      | none => rfl
      | some u => exact absurd e (s.dom a (by rw [z]; simp))
    have now0 : ∀ a, H a = none → ∀ {S'' : Sl} {G'' H'' : Hp}, Stp S0 σ G00 H0 S'' G'' H'' → ¬ Ow S'' σ a := fun a e S'' G'' H'' t w => by
      obtain ⟨_, _, ys, z⟩ := R0.ownH (t.own a w)
      rw [hnone a e] at z; cases z
    cases er : F.run as with
    | bad => rw [er] at q; exact q.elim
    | exc k fs =>
      rw [er] at q
      dsimp only at q
      cases ei : F.io with
      | some k => rw [ei] at q; exact q.elim
      | none =>
        rw [ei] at q eh
        dsimp only at q
        obtain ⟨io, i1, i2, Rc, only, _⟩ := call_rel R v (F := F) (by rw [ei]; exact eh) (fun k i z => by rw [ei] at z; cases z) (fun k z => by rw [ei] at z; cases z)
        have hio : io = none := by
          cases io with
          | none => rfl
          | some z => rw [ei] at i1; cases i1
        subst hio
        rw [ei] at Rc
        refine ⟨as, ⟨B.mg, fun _ _ _ _ => False, cutB H none, none, B.tabs, glue G H (Lh S none svs vs), H⟩, _, rfl, rfl, by rw [ei]; rfl, rfl, rfl, rfl, fun _ _ _ _ z => z, ln, Rc, only, ?_⟩
        rw [er]
        refine ⟨ei, fun C d us G' H' P hc hd hf => ?_⟩
        have P : Post (cutB H none) B.tabs (glue G H (Lh S none svs vs)) H G' H' := P
        split at q
        · rename_i hn
          obtain ⟨a1, a2⟩ := after_clean R0 s R v P
          have x : Ex G G' := (glue_ex R v).tr P.ext
          exact q C d us _ H' a1 clean_ex hc (clean_in x hd rfl) (hf.clean x hn)
        · obtain ⟨a1, a2⟩ := after_frz R0 s R v P (bor_ok R v eh)
          exact q C d us _ H' a1 ((glue_ex R v).tr P.ext) hc hd hf
    | ok r xs =>
      rw [er] at q
      dsimp only at q
      cases ei : F.io with
      | none =>
        rw [ei] at q eh
        dsimp only at q
        obtain ⟨io, i1, i2, Rc, only, _⟩ := call_rel R v (F := F) (by rw [ei]; exact eh) (fun k i z => by rw [ei] at z; cases z) (fun k z => by rw [ei] at z; cases z)
        have hio : io = none := by
          cases io with
          | none => rfl
          | some z => rw [ei] at i1; cases i1
        subst hio
        rw [ei] at Rc
        refine ⟨as, ⟨B.mg, fun _ _ _ _ => False, cutB H none, none, B.tabs, glue G H (Lh S none svs vs), H⟩, _, rfl, rfl, by rw [ei]; rfl, rfl, rfl, rfl, fun _ _ _ _ z => z, ln, Rc, only, ?_⟩
        rw [er]
        intro x G' H' P _ rc
        have P : Post (cutB H none) B.tabs (glue G H (Lh S none svs vs)) H G' H' := P
        have xg : Ex G G' := (glue_ex R v).tr P.ext
        split at q
        · rename_i hn
          obtain ⟨a1, a2⟩ := after_clean R0 s R v P
          refine q x _ H' a1 a2 ?_
          cases r with
          | dat d => exact Rp.clean xg rc hn
          | own ys =>
            obtain ⟨pp, zs, rfl, c1, c2, c3, c4⟩ := rc
            refine ⟨pp, zs, rfl, hnone _ c1, now0 _ c1 a2, ?_, c3, c4.clean xg hn⟩
            cases z : clean G G' pp with
            | none => rfl
            | some u => rw [clean_sub xg _ _ z] at c2; cases c2
          | bor i => exact rc.elim
          | exc k fs => exact rc.elim
          | thk a b d => exact rc.elim
        · obtain ⟨a1, a2⟩ := after_frz R0 s R v P (bor_ok R v eh)
          refine q x _ H' a1 a2 ?_
          cases r with
          | dat d => exact rc
          | own ys =>
            obtain ⟨pp, zs, rfl, c1, c2, c3, c4⟩ := rc
            exact ⟨pp, zs, rfl, hnone _ c1, now0 _ c1 a2, c2, c3, c4⟩
          | bor i => exact rc.elim
          | exc k fs => exact rc.elim
          | thk a b d => exact rc.elim
      | some k =>
        rw [ei] at q eh
        dsimp only at q
        split at q
        · rename_i i ea
          split at q
          · rename_i hz
            rw [Bool.and_eq_true, decide_eq_true_eq, Bool.or_eq_true] at hz
            obtain ⟨z1, z2⟩ := hz
            have eb : svs[k]? = some (.bor i) := by
              unfold ioAt at ea
              dsimp only at ea
              split at ea
              · rename_i j e; cases ea; exact e
              · cases ea
            obtain ⟨io, i1, i2, Rc, only, apart⟩ := call_rel R v (F := F) (by rw [ei]; exact eh) (fun k' i' z e => by
              rw [ei] at z
              cases z
              rw [eb] at e
              cases e
              exact z1) (fun k' z => by
              rw [ei] at z
              cases z
              exact (List.getElem?_eq_some_iff.mp eb).1)
            obtain ⟨p, hio⟩ : ∃ p, io = some (k, p) := by
              cases io with
              | none => rw [ei] at i1; cases i1
              | some z => obtain ⟨k', p⟩ := z; rw [ei] at i1; cases i1; exact ⟨p, rfl⟩
            subst hio
            rw [ei] at Rc apart
            obtain ⟨i', us, w1, w2, w3⟩ := i2 k p rfl
            rw [eb] at w1
            cases w1
            refine ⟨as, ⟨B.mg, fun _ _ _ _ => False, cutB H (some p), some (k, p), B.tabs, glue G H (Lh S (some k) svs vs), H⟩, _, rfl, rfl, by rw [ei]; rfl, rfl, rfl, rfl, fun _ _ _ _ z => z, ln, Rc, only, ?_⟩
            rw [er]
            intro x G' H' P iop rc
            have P : Post (cutB H (some p)) B.tabs (glue G H (Lh S (some k) svs vs)) H G' H' := P
            have xg : Ex G G' := (glue_ex R v).tr P.ext
            obtain ⟨gp, ys, hp, hr⟩ := iop k p rfl
            obtain ⟨c1, c2⟩ := after_io R0 s R v P w2 w3 gp hp hr
            by_cases cl : (noL r && noLsts xs) = true
            · rw [Bool.and_eq_true] at cl
              obtain ⟨a1, a2⟩ := c1 cl.2
              refine q x _ H' a1 a2 ?_
              cases r with
              | dat d => exact Rp.clean xg rc cl.1
              | own ys =>
                obtain ⟨pp, zs, rfl, c1, c2, c3, c4⟩ := rc
                refine ⟨pp, zs, rfl, hnone _ c1, now0 _ c1 a2, ?_, c3, c4.clean xg cl.1⟩
                cases z : clean G G' pp with
                | none => rfl
                | some u => rw [clean_sub xg _ _ z] at c2; cases c2
              | bor i => exact rc.elim
              | exc k fs => exact rc.elim
              | thk a b d => exact rc.elim
            · have z3 : (bors svs).length = 1 := by
                rcases z2 with z | z
                · exact absurd z cl
                · exact of_decide_eq_true z
              have hone : bors svs = [i] := by
                match hb : bors svs, z3 with
                | [j], _ =>
                  rw [hb] at z1
                  by_cases e : j = i
                  · rw [e]
                  · rw [List.count_cons_of_ne e] at z1; cases z1
              obtain ⟨a1, a2⟩ := c2 fun a L => by
                rcases (lh_facts R v L).2.2 with z | ⟨j, us', y1, y2, y3⟩
                · exact z
                · rw [hone] at y1
                  have ej : j = i := by simpa using y1
                  subst ej
                  rw [w3] at y3
                  cases y3
                  exact absurd L (apart k p rfl)
              refine q x _ H' a1 a2 ?_
              cases r with
              | dat d => exact rc
              | own ys =>
                obtain ⟨pp, zs, rfl, c1, c2, c3, c4⟩ := rc
                exact ⟨pp, zs, rfl, hnone _ c1, now0 _ c1 a2, c2, c3, c4⟩
              | bor i => exact rc.elim
              | exc k fs => exact rc.elim
              | thk a b d => exact rc.elim
          · exact q.elim
        · exact q.elim
end
end Z

set_option maxHeartbeats 2000000
/-! The call of an own def: the rule. -/
namespace Z
open PySem PySem.Spec PyProof.Rows L2
section
variable {X : Cx} {B : Bx} {W : WX} {c : Ctx} {S S0 S2 : Sl} {σ : Sg} {G G00 G0 G2 G' H H0 H' : Hp} {p pos : Pos} {args : List Expr} {kws : List Keyword} {ga gk : Sl → O (List SV)} {f : Sl → O SV}
theorem tA.thenE {β : Type} {f : Sl → O (List SV)} {k : List SV → Sl → O β} {Φ : β → Sl → Prop} {Q : List V → Hp → Prop} (R : Rel B S σ G H) (h : K1 B W σ G ((f S).bind k) Φ)
    (q : ∀ r S1 x G1 H1, f S = .ok r S1 → Rel B S1 σ G1 H1 → Stp S σ G H S1 G1 H1 → RVs B S1 σ G1 H H1 r x → K1 B W σ G1 (k r S1) Φ → Q x H1) : tA B W f σ H Q := by
  refine ⟨S, G, R, ?_⟩
  have h' := h.bind
  cases e : f S with
  | ok r S1 =>
    rw [e] at h'
    exact fun x G1 H1 R1 s1 v1 => q r S1 x G1 H1 e R1 s1 v1 (K1.ext h' s1.ext)
  | exc c fs S1 => rw [e] at h'; exact h'
  | bad => rw [e] at h'; exact h'
theorem RVs.len {svs : List SV} {vs : List V} (h : RVs B S σ G H0 H svs vs) : vs.length = svs.length := by
  induction h with
  | nil => rfl
  | cons _ _ _ ih => rw [List.length_cons, List.length_cons, ih]
theorem k_nil : PK X [] (tA B W fun S => .ok [] S) := PK.imp pk_nil fun σ H Q ⟨S, G, R, q⟩ => q [] G H R Stp.refl .nil
theorem k_cons {k : Keyword} (he : PE X k.value (tE B W f)) (hr : PK X kws (tA B W gk)) : PK X (k :: kws) (tA B W fun S => (f S).bind fun x S1 => (gk S1).bind fun xs S2 => .ok (x :: xs) S2) := by
  obtain ⟨nm, e, kp⟩ := k
  refine PK.imp (pk_cons he hr) fun σ H Q ⟨S, G, R, q⟩ => tE.then R q fun x S1 v G1 H1 R1 s1 v1 q1 => tA.then R1 q1 fun xs S2 us G2 H2 R2 s2 v2 q2 => ?_
  refine q2 _ G2 H2 R2 (s1.tr s2) (.cons (v1.step s2) (v2.back s1.dom) fun ds es w y e1 e2 m => ?_)
  obtain ⟨r, rfl, h1⟩ := v2.fresh e2 m
  subst e1
  obtain ⟨p, xs, rfl, _, _, _, h2, _⟩ := v1
  exact fun z => by cases z; rw [h1] at h2; cases h2
theorem kw_names {env : PySem.Env} : ∀ {kws : List Keyword} {ns : List Str}, kwNames kws = some ns → (backToKw pos (keywordEach kws env)).all (·.1.isSome) = true ∧ (backToKw pos (keywordEach kws env)).filterMap (·.1) = ns ∧ (backToKw pos (keywordEach kws env)).any (·.1.isNone) = false ∧ ns.length = kws.length
  | [], ns, h => by cases h; exact ⟨rfl, rfl, rfl, rfl⟩
  | ⟨a, v, kp⟩ :: r, ns, h => by
    simp only [kwNames] at h
    cases a with
    | none => cases h
    | some a =>
      cases q : kwNames r with
      | none => rw [q] at h; cases h
      | some ms =>
        rw [q] at h
        cases h
        obtain ⟨h1, h2, h3, h4⟩ := kw_names (env := env) q
        refine ⟨?_, ?_, ?_, by rw [List.length_cons, List.length_cons, h4]⟩
        · show (true && (backToKw pos (keywordEach r env)).all (·.1.isSome)) = true
          rw [h1]; rfl
        · show a :: (backToKw pos (keywordEach r env)).filterMap (·.1) = _
          rw [h2]
        · show (false || (backToKw pos (keywordEach r env)).any (·.1.isNone)) = false
          rw [h3]; rfl
/-- the callee runs -/
theorem run_z {pins : List (Addr × Obj)} {s : Shared} {Q : VK} {F : Fn} {fa : Addr} {fd : FuncData} {us ws : List Value} {vs zs : List V} {svs kvs : List SV} {src : List Src} {ns : List Str} {n : Nat} (hF : FnZ X.prog X.w X.K X.mg X.base B.tabs F.lvl fa fd F) (hb : BindZ X.K fd F) (hst : F.star = none) (hr : Room F.lvl X.A) (hg : X.A.guards = some [])
    (hm : X.mg = B.mg) (tk : Takes X W) (I : Inv X pins σ H s) (hp : F.plan n ns = some src) (l1 : vs.length = n) (l2 : zs.length = ns.length) (r1 : Vals vs us) (r2 : Vals zs ws) (st : Stp S0 σ G00 H0 S G H) (R0 : Rel B S0 σ G00 H0) (R : Rel B S σ G H) (v : RVp B S σ G H0 H svs vs) (v2 : RVp B S σ G H0 H kvs zs)
    (q : K1 B W σ G (match pick src svs kvs with
      | some as => callF F as S
      | none => .bad) fun r S' => ∀ x G' H', Rel B S' σ G' H' → Stp S0 σ G00 H0 S' G' H' → RV B S' σ G' H0 H' r x → Q x H') :
    wpAny (model X.prog X.w) X.A (call (.ref fa) us (ns.zip ws)) (EP X pins σ Q) X.xe s := by
  obtain ⟨hl, g, gV, kb, pk⟩ := hb.to hst n ns src hp
  have pk := pk vs zs l1 l2
  cases ep : pick src svs kvs with
  | none => rw [ep] at q; exact q.elim
  | some avs =>
    rw [ep] at q
    have pr := pick_rel v v2 ep pk
    have ln : (gV vs zs).length = F.ps.length := by rw [← hl, pk.length]
    have sp := call_read (F := F) st R0 R pr ln q
    rw [← hm] at sp
    have r3 := kb.rel r1 r2
    refine wpAny_call (codeAny_mono (hF.run X.A X.stack s H ⟨us, ns.zip ws⟩ Q _ hr hg I.env0 (bnd_of I.env0 (kb.to s us ws I.kIn (r1.length.symm.trans l1) (r2.length.symm.trans l2)) r3 ln sp)) fun r s' hq => ?_)
    cases r with
    | error e => exact tk e s' (XE.of_call I (fun cls d H' h => h) hq)
    | ok fl =>
      cases fl with
      | ret u => exact I.after hq
      | next => exact False.elim hq
      | brk => exact False.elim hq
      | cont => exact False.elim hq
theorem zip_take_mem {α β : Type} {a : α × β} : ∀ {n : Nat} {l : List α} {l' : List β}, a ∈ (l.take n).zip (l'.take n) → a ∈ l.zip l'
  | 0, _, _, h => by rw [List.take_zero] at h; cases h
  | n + 1, [], _, h => by rw [List.take_nil] at h; cases h
  | n + 1, _ :: _, [], h => by rw [List.take_nil, List.zip_nil_right] at h; cases h
  | n + 1, x :: l, y :: l', h => by
    rw [List.take_succ_cons, List.take_succ_cons, List.zip_cons_cons] at h
    rw [List.zip_cons_cons]
    rcases List.mem_cons.mp h with e | h
    · exact e ▸ List.mem_cons_self
    · exact List.mem_cons_of_mem _ (zip_take_mem h)
theorem rvs_take : ∀ {svs : List SV} {vs : List V}, RVs B S σ G H0 H svs vs → ∀ n, RVs B S σ G H0 H (svs.take n) (vs.take n)
  | _, _, _, 0 => .nil
  | _, _, .nil, _ + 1 => .nil
  | _, _, .cons a r d, n + 1 => .cons a (rvs_take r n) fun ds es w y e1 e2 m => d ds es w y e1 e2 (zip_take_mem m)
theorem rvs_drop : ∀ {svs : List SV} {vs : List V}, RVs B S σ G H0 H svs vs → ∀ n, RVs B S σ G H0 H (svs.drop n) (vs.drop n)
  | _, _, r, 0 => r
  | _, _, .nil, _ + 1 => .nil
  | _, _, .cons _ r _, n + 1 => rvs_drop r n
theorem par_append {α β : Type} {F : α → β → Prop} : ∀ {xs xs' : List α} {ys ys' : List β}, Paired F xs ys → Paired F xs' ys' → Paired F (xs ++ xs') (ys ++ ys')
  | _, _, _, _, .nil, r => r
  | _, _, _, _, .cons a t, r => .cons a (par_append t r)
theorem nOwn_step {svs : List SV} {vs : List V} {G2 : Hp} (h : RVp B S σ G H0 H svs vs) (n : svs.all nOwn = true) (e : Ex G G2) {S2 : Sl} {H2 : Hp} : RVp B S2 σ G2 H0 H2 svs vs := by
  induction h with
  | nil => exact .nil
  | cons a _ ih =>
    rw [List.all_cons, Bool.and_eq_true] at n
    refine .cons ?_ (ih n.2)
    rename_i v x _ _ _
    cases v with
    | dat d => exact Rp.mono e a
    | bor i => exact a
    | own xs => cases n.1
    | exc c fs => cases n.1
    | thk r c fs => cases n.1
/-- the callee with a star runs -/
theorem run_zS {pins : List (Addr × Obj)} {s : Shared} {Q : VK} {F : Fn} {fa : Addr} {fd : FuncData} {us ws : List Value} {vs zs : List V} {svs kvs : List SV} {src : List Src} {ns : List Str} {k kk : Nat} (hF : FnZ X.prog X.w X.K X.mg X.base B.tabs F.lvl fa fd F) (hb : BindZ X.K fd F) (hst : F.star = some kk) (hkk : k = kk ∨ (k = 0 ∧ us = [])) (hr : Room F.lvl X.A) (hg : X.A.guards = some [])
    (hm : X.mg = B.mg) (tk : Takes X W) (I : Inv X pins σ H s) (hp : F.plan k ns = some src) (l2 : zs.length = ns.length) (r1 : Vals vs us) (r2 : Vals zs ws) (st : Stp S0 σ G00 H0 S G H) (R0 : Rel B S0 σ G00 H0) (R : Rel B S σ G H) (v : RVs B S σ G H0 H svs vs) (v2 : RVp B S σ G H0 H kvs zs)
    (q : K1 B W σ G (callS F k src svs kvs S) fun r S' => ∀ x G' H', Rel B S' σ G' H' → Stp S0 σ G00 H0 S' G' H' → RV B S' σ G' H0 H' r x → Q x H') :
    wpAny (model X.prog X.w) X.A (call (.ref fa) us (ns.zip ws)) (EP X pins σ Q) X.xe s := by
  obtain ⟨hl, g, gV, kb, pk⟩ := hb.toS kk k ns src hst (hkk.imp id And.left) hp
  unfold callS at q
  split at q
  · rename_i hc
    simp only [Bool.and_eq_true, decide_eq_true_eq] at hc
    obtain ⟨⟨hk, n1⟩, n2⟩ := hc
    obtain ⟨ds, S1, e, q2⟩ := q.settleAll
    obtain ⟨G2, R2, s2, rp, eg⟩ := settleAll_ok R0 st R (rvs_drop v k) e
    split at q2
    · rename_i hz
      have lv := v.len
      have luv := r1.length
      cases ep : pick src (svs.take k) (kvs ++ [.dat (.tuple ds)]) with
      | none => rw [ep] at q2; exact q2.elim
      | some avs =>
        rw [ep] at q2
        refine wpAny_call (codeAny_mono (hF.run X.A X.stack s H ⟨us, ns.zip ws⟩ Q (fun cls d H' => W cls d σ H') hr hg I.env0 (bnd_star (rv := vs.drop k) (us := fun t => g (us.take k) (ws ++ [t])) I.env0 (fun M A Ex Q' h => kb.to s us ws I.kIn (by omega) (fun e => hkk.elim (fun z => absurd (decide_eq_true z) (by rw [e]; decide)) And.right) (r2.length.symm.trans l2) M A Ex Q' h) (r1.drop k) (by rw [rp.length]; exact hz) fun p hp => ?_)) fun r s' hq => ?_)
        · have R3 := R2.lay hp (nt_tup (xs := vs.drop k))
          have s3 := s2.tr (Stp.lay (σ := σ) (S := S1) (o := .tup (vs.drop k)) (R2.gnone hp) hp)
          have eg3 : Ex G (upd G2 p (.tup (vs.drop k))) := eg.tr (Ex.new (R2.gnone hp))
          have pa : RVp B S1 σ (upd G2 p (.tup (vs.drop k))) H0 (upd H p (.tup (vs.drop k))) (svs.take k) (vs.take k) := nOwn_step (rvs_take v k).par n1 eg3
          have pz : RVp B S1 σ (upd G2 p (.tup (vs.drop k))) H0 (upd H p (.tup (vs.drop k))) (kvs ++ [.dat (.tuple ds)]) (zs ++ [.ref p]) := par_append (nOwn_step v2 n2 eg3) (.cons (show Rp _ _ _ from .tup (.inl upd_same) (rp.mono (Ex.new (R2.gnone hp)))) .nil)
          have pk := pk (vs.take k) (zs ++ [.ref p]) (by rw [List.length_take]; omega) (by rw [List.length_append, l2]; rfl)
          have pr := pick_rel pa pz ep pk
          have ln : (gV (vs.take k) (zs ++ [.ref p])).length = F.ps.length := by rw [← hl, pk.length]
          have sp := call_read (F := F) (Q := Q) (W := W) s3 R0 R3 pr ln (K1.ext q2 eg3)
          rw [← hm] at sp
          exact ⟨_, kb.rel (r1.take k) (r2.append (ys := [V.ref p]) (us := ws) (ws := [Value.ref p]) (.cons rfl .nil)), ln, sp⟩
        · cases r with
          | error e => exact tk e s' (XE.of_call I (fun cls d H' h => h) hq)
          | ok fl =>
            cases fl with
            | ret u => exact I.after hq
            | next => exact False.elim hq
            | brk => exact False.elim hq
            | cont => exact False.elim hq
    · exact q2.elim
  · exact q.elim
theorem e_fn {x : Str} {F : Fn} {src : List Src} {ns : List Str} (k : Nm X c B) (tk : Takes X W) (hx : isNm c x = some (.fn F)) (hF : FunZ X B.tabs x F) (hst : F.star = none) (hl : F.lvl ≤ c.lvl) (hs : noStar args = true) (hk : kwNames kws = some ns) (hp : F.plan args.length ns = some src)
    (ha : PA X args (tA B W ga)) (hkw : PK X kws (tA B W gk)) (la : ∀ S vs S', ga S = .ok vs S' → vs.length = args.length) (lk : ∀ S vs S', gk S = .ok vs S' → vs.length = kws.length) (h0 : args = [] → ∀ S, ga S = .ok [] S ∨ ga S = .bad) :
    PE X (.Call (.Name x p) args kws pos) (tE B W fun S => (ga S).bind fun ps S1 => (gk S1).bind fun ks S2 => match pick src ps ks with
      | some vs => callF F vs S2
      | none => .bad) := by
  obtain ⟨h1, h2⟩ := isNm_ok hx
  obtain ⟨fa, fd, m1, m2, m3, m4⟩ := hF.ex
  obtain ⟨n1, n2, n3, n4⟩ := kw_names (pos := pos) (env := X.env) hk
  have hr : Room F.lvl X.A := k.room.mono hl
  refine ⟨fun pins s σ H Q I ⟨S, G, R, q⟩ => ?_⟩
  refine wpAny_Call_Name_kw (ld_glob I (glo_ok k.sc h1) m1 ?_ hF.nd)
  have q : K1 B W σ G ((ga S).bind fun ps S1 => (gk S1).bind fun ks S2 => match pick src ps ks with
      | some vs => callF F vs S2
      | none => .bad) fun r S' => ∀ x G' H', Rel B S' σ G' H' → Stp S σ G H S' G' H' → RV B S' σ G' H H' r x → Q x H' := q
  cases args with
  | nil =>
    have e0 : ga S = .ok [] S := by
      rcases h0 rfl S with e | e
      · exact e
      · rw [e] at q; exact q.elim
    rw [e0] at q
    have q : K1 B W σ G ((gk S).bind fun ks S2 => match pick src [] ks with
      | some vs => callF F vs S2
      | none => .bad) fun r S' => ∀ x G' H', Rel B S' σ G' H' → Stp S σ G H S' G' H' → RV B S' σ G' H H' r x → Q x H' := q
    refine PySem.W.callWith_KW0 (h₀ := X.base) I.ok.mod.kin m2 n1 ?_ (by rw [n3]; rfl)
    refine thn (hkw.run pos pins s σ H (fun zs H1 => ∃ kvs S1 G1, Rel B S1 σ G1 H1 ∧ Stp S σ G H S1 G1 H1 ∧ RVp B S1 σ G1 H H1 kvs zs ∧ zs.length = ns.length ∧ K1 B W σ G1 (match pick src [] kvs with
      | some vs => callF F vs S1
      | none => .bad) fun r S' => ∀ x G' H', Rel B S' σ G' H' → Stp S σ G H S' G' H' → RV B S' σ G' H H' r x → Q x H') I (tA.thenE R q fun kvs S1 zs G1 H1 e R1 s1 v1 q1 => ⟨kvs, S1, G1, R1, s1, v1.par, by rw [v1.len, lk _ _ _ e, n4], q1⟩)) fun ws s1 ⟨zs, H1, I1, r1, kvs, S1, G1, R1, s1', v1, l2, q1⟩ => ⟨I1.kIn, ?_⟩
    rw [n2]
    exact run_z (n := 0) (vs := []) (svs := []) m3 m4 hst hr k.grd k.mg tk I1 hp rfl l2 .nil r1 s1' R R1 .nil v1 q1
  | cons e es =>
    refine PySem.W.callWith_KW (h₀ := X.base) I.ok.mod.kin m2 n1 ?_ (by rw [n3, star_any hs]; rfl) (star_one hs)
    refine thn (ha.run pos pins s σ H (fun vs H1 => ∃ svs S1 G1, Rel B S1 σ G1 H1 ∧ Stp S σ G H S1 G1 H1 ∧ RVs B S1 σ G1 H H1 svs vs ∧ vs.length = (e :: es).length ∧ K1 B W σ G1 ((gk S1).bind fun ks S2 => match pick src svs ks with
      | some vs => callF F vs S2
      | none => .bad) fun r S' => ∀ x G' H', Rel B S' σ G' H' → Stp S σ G H S' G' H' → RV B S' σ G' H H' r x → Q x H') I (tA.thenE R q fun svs S1 vs G1 H1 e R1 s1 v1 q1 => ⟨svs, S1, G1, R1, s1, v1, by rw [v1.len, la _ _ _ e], q1⟩)) fun us s1 ⟨vs, H1, I1, r1, svs, S1, G1, R1, s1', v1, l1, q1⟩ => ?_
    refine thn (hkw.run pos pins s1 σ H1 (fun zs H2 => ∃ kvs S2 G2, Rel B S2 σ G2 H2 ∧ Stp S1 σ G1 H1 S2 G2 H2 ∧ RVp B S2 σ G2 H1 H2 kvs zs ∧ zs.length = ns.length ∧ K1 B W σ G2 (match pick src svs kvs with
      | some vs => callF F vs S2
      | none => .bad) fun r S' => ∀ x G' H', Rel B S' σ G' H' → Stp S σ G H S' G' H' → RV B S' σ G' H H' r x → Q x H') I1 (tA.thenE R1 q1 fun kvs S2 zs G2 H2 e R2 s2 v2 q2 => ⟨kvs, S2, G2, R2, s2, v2.par, by rw [v2.len, lk _ _ _ e, n4], q2⟩)) fun ws s2 ⟨zs, H2, I2, r2, kvs, S2, G2, R2, s2', v2, l2, q2⟩ => ⟨I2.kIn, ?_⟩
    rw [n2]
    exact run_z (n := (e :: es).length) m3 m4 hst hr k.grd k.mg tk I2 hp l1 l2 r1 r2 (s1'.tr s2') R R2 (v1.par.step s2') (v2.back s1'.dom) q2
theorem star_anyT {p : Pos} {env : PySem.Env} : ∀ {es : List Expr}, ¬ noStar es = true → (backTo p (starEach es env)).any (·.1) = true
  | [], h => absurd rfl h
  | e :: es, h => by
    by_cases z : ∃ e' p', e = .Starred e' p'
    · obtain ⟨e', p', rfl⟩ := z
      rfl
    · have h1 : starEach (e :: es) env = (false, eval e env) :: starEach es env := by
        cases e <;> first | rfl | exact absurd ⟨_, _, rfl⟩ z
      rw [h1]
      show (false || (backTo p (starEach es env)).any (·.1)) = true
      rw [star_anyT (es := es) fun w => h (by cases e <;> first | exact w | exact absurd ⟨_, _, rfl⟩ z)]; rfl
/-- x(e, .., *y, k = v), x a def with a star -/
theorem e_fnS {x : Str} {F : Fn} {src : List Src} {ns : List Str} {kk : Nat} (k : Nm X c B) (tk : Takes X W) (hx : isNm c x = some (.fn F)) (hF : FunZ X B.tabs x F) (hst : F.star = some kk) (hl : F.lvl ≤ c.lvl) (hs : starOk args kws = true) (hk : kwNames kws = some ns) (hp : F.plan (starK kk args) ns = some src)
    (ha : PA X args (tA B W ga)) (hkw : PK X kws (tA B W gk)) (hlone : ∀ e p, args = [.Starred e p] → ∃ f, PE X e (tE B W f) ∧ ∀ S, ga S = (f S).bind fun x S1 => stA x S1 (.ok [] S1)) (lk : ∀ S vs S', gk S = .ok vs S' → vs.length = kws.length) (h0 : args = [] → ∀ S, ga S = .ok [] S ∨ ga S = .bad) (hk0 : kws = [] → ∀ S, gk S = .ok [] S ∨ gk S = .bad) :
    PE X (.Call (.Name x p) args kws pos) (tE B W fun S => (ga S).bind fun ps S1 => (gk S1).bind fun ks S2 => callS F (starK kk args) src ps ks S2) := by
  obtain ⟨h1, h2⟩ := isNm_ok hx
  obtain ⟨fa, fd, m1, m2, m3, m4⟩ := hF.ex
  obtain ⟨n1, n2, n3, n4⟩ := kw_names (pos := pos) (env := X.env) hk
  have hr : Room F.lvl X.A := k.room.mono hl
  refine ⟨fun pins s σ H Q I ⟨S, G, R, q⟩ => ?_⟩
  refine wpAny_Call_Name_kw (ld_glob I (glo_ok k.sc h1) m1 ?_ hF.nd)
  replace q : K1 B W σ G ((ga S).bind fun ps S1 => (gk S1).bind fun ks S2 => callS F (starK kk args) src ps ks S2) fun r S' => ∀ x G' H', Rel B S' σ G' H' → Stp S σ G H S' G' H' → RV B S' σ G' H H' r x → Q x H' := q
  by_cases hn : noStar args = true
  · cases args with
    | nil =>
      have e0 : ga S = .ok [] S := by
        rcases h0 rfl S with e | e
        · exact e
        · rw [e] at q; exact q.elim
      rw [e0] at q
      have q : K1 B W σ G ((gk S).bind fun ks S2 => callS F 0 src [] ks S2) fun r S' => ∀ x G' H', Rel B S' σ G' H' → Stp S σ G H S' G' H' → RV B S' σ G' H H' r x → Q x H' := q
      refine PySem.W.callWith_KW0 (h₀ := X.base) I.ok.mod.kin m2 n1 ?_ (by rw [n3]; rfl)
      refine thn (hkw.run pos pins s σ H (fun zs H1 => ∃ kvs S1 G1, Rel B S1 σ G1 H1 ∧ Stp S σ G H S1 G1 H1 ∧ RVp B S1 σ G1 H H1 kvs zs ∧ zs.length = ns.length ∧ K1 B W σ G1 (callS F 0 src [] kvs S1) fun r S' => ∀ x G' H', Rel B S' σ G' H' → Stp S σ G H S' G' H' → RV B S' σ G' H H' r x → Q x H') I (tA.thenE R q fun kvs S1 zs G1 H1 e R1 s1 v1 q1 => ⟨kvs, S1, G1, R1, s1, v1.par, by rw [v1.len, lk _ _ _ e, n4], q1⟩)) fun ws s1 ⟨zs, H1, I1, r1, kvs, S1, G1, R1, s1', v1, l2, q1⟩ => ⟨I1.kIn, ?_⟩
      rw [n2]
      exact run_zS (k := 0) (us := []) (vs := []) (svs := []) m3 m4 hst (.inr ⟨rfl, rfl⟩) hr k.grd k.mg tk I1 hp l2 .nil r1 s1' R R1 .nil v1 q1
    | cons e es =>
      refine PySem.W.callWith_KW (h₀ := X.base) I.ok.mod.kin m2 n1 ?_ (by rw [n3, star_any hn]; rfl) (star_one hn)
      refine thn (ha.run pos pins s σ H (fun vs H1 => ∃ svs S1 G1, Rel B S1 σ G1 H1 ∧ Stp S σ G H S1 G1 H1 ∧ RVs B S1 σ G1 H H1 svs vs ∧ K1 B W σ G1 ((gk S1).bind fun ks S2 => callS F kk src svs ks S2) fun r S' => ∀ x G' H', Rel B S' σ G' H' → Stp S σ G H S' G' H' → RV B S' σ G' H H' r x → Q x H') I (tA.thenE R q fun svs S1 vs G1 H1 e R1 s1 v1 q1 => ⟨svs, S1, G1, R1, s1, v1, q1⟩)) fun us s1 ⟨vs, H1, I1, r1, svs, S1, G1, R1, s1', v1, q1⟩ => ?_
      refine thn (hkw.run pos pins s1 σ H1 (fun zs H2 => ∃ kvs S2 G2, Rel B S2 σ G2 H2 ∧ Stp S1 σ G1 H1 S2 G2 H2 ∧ RVp B S2 σ G2 H1 H2 kvs zs ∧ zs.length = ns.length ∧ K1 B W σ G2 (callS F kk src svs kvs S2) fun r S' => ∀ x G' H', Rel B S' σ G' H' → Stp S σ G H S' G' H' → RV B S' σ G' H H' r x → Q x H') I1 (tA.thenE R1 q1 fun kvs S2 zs G2 H2 e R2 s2 v2 q2 => ⟨kvs, S2, G2, R2, s2, v2.par, by rw [v2.len, lk _ _ _ e, n4], q2⟩)) fun ws s2 ⟨zs, H2, I2, r2, kvs, S2, G2, R2, s2', v2, l2, q2⟩ => ⟨I2.kIn, ?_⟩
      rw [n2]
      exact run_zS (k := kk) m3 m4 hst (.inl rfl) hr k.grd k.mg tk I2 hp l2 r1 r2 (s1'.tr s2') R R2 (v1.step s2') (v2.back s1'.dom) q2
  · have hs2 := hs
    unfold starOk at hs2
    rw [Bool.eq_false_iff.mpr hn, Bool.false_or, Bool.and_eq_true] at hs2
    obtain ⟨hke, hs3⟩ := hs2
    have hke := List.isEmpty_iff.mp hke
    subst hke
    have hns : ns = [] := by cases hk; rfl
    subst hns
    have hkz : starK kk args = kk := by
      cases args with
      | nil => exact absurd rfl hn
      | cons _ _ => rfl
    rw [hkz] at hp q
    -- the wish behind the arguments
    have fin : ∀ (svs : List SV) (S1 : Sl) (vs : List V) (G1 H1 : Hp) (us : List Value) (s1 : Shared), Inv X pins σ H1 s1 → Vals vs us → Rel B S1 σ G1 H1 → Stp S σ G H S1 G1 H1 → RVs B S1 σ G1 H H1 svs vs →
        (K1 B W σ G1 ((gk S1).bind fun ks S2 => callS F kk src svs ks S2) fun r S' => ∀ x G' H', Rel B S' σ G' H' → Stp S σ G H S' G' H' → RV B S' σ G' H H' r x → Q x H') →
        wpAny (model X.prog X.w) X.A (call (.ref fa) us) (EP X pins σ Q) X.xe s1 := fun svs S1 vs G1 H1 us s1 I1 r1 R1 s1' v1 q1 => by
      have e0 : gk S1 = .ok [] S1 := by
        rcases hk0 rfl S1 with e | e
        · exact e
        · rw [e] at q1; exact q1.elim
      rw [e0] at q1
      exact run_zS (k := kk) (ns := []) (ws := []) (zs := []) (kvs := []) m3 m4 hst (.inl rfl) hr k.grd k.mg tk I1 hp rfl r1 .nil s1' R R1 v1 .nil q1
    cases args with
    | nil => exact absurd rfl hn
    | cons e es =>
      by_cases hst1 : ∃ e' p', e = .Starred e' p'
      · obtain ⟨e', p', rfl⟩ := hst1
        cases es with
        | cons _ _ => cases hs3
        | nil =>
          obtain ⟨f, hf, ef⟩ := hlone e' p' rfl
          rw [ef] at q
          refine PySem.W.callWith_S (h₀ := X.base) I.ok.mod.kin m2 (thn (hf.run pins s σ H (fun y H1 => ∃ v S1 G1, Rel B S1 σ G1 H1 ∧ Stp S σ G H S1 G1 H1 ∧ RV B S1 σ G1 H H1 v y ∧ K1 B W σ G1 ((stA v S1 (.ok [] S1)).bind fun ps S1 => (gk S1).bind fun ks S2 => callS F kk src ps ks S2) fun r S' => ∀ x G' H', Rel B S' σ G' H' → Stp S σ G H S' G' H' → RV B S' σ G' H H' r x → Q x H') I (tE.then (k := fun x S1 => (stA x S1 (.ok [] S1)).bind fun ps S1 => (gk S1).bind fun ks S2 => callS F kk src ps ks S2) R (by
              have z : ((f S).bind fun x S1 => stA x S1 (O.ok [] S1)).bind (fun ps S1 => (gk S1).bind fun ks S2 => callS F kk src ps ks S2) = (f S).bind fun x S1 => (stA x S1 (O.ok [] S1)).bind fun ps S1 => (gk S1).bind fun ks S2 => callS F kk src ps ks S2 := by
                cases f S <;> rfl
              rw [← z]; exact q) fun v S1 y G1 H1 R1 s1 v1 q1 => ⟨v, S1, G1, R1, s1, v1, q1⟩)) fun v s1 ⟨y, H1, I1, ry, sv, S1, G1, R1, s1', v1, q1⟩ => ?_)
          unfold stA at q1
          cases e1 : (cont S1 sv).bind itemsOf with
          | none => rw [e1] at q1; exact q1.elim
          | some ds =>
            rw [e1] at q1
            obtain ⟨pp, xs, rfl, hsq, hp'⟩ := star_seqV (K := X.K) R1 v1 e1
            obtain rfl : v = Value.ref pp := ry
            refine StX.star_any I1 hsq fun us s2 I2 rv => ⟨I2.kIn, ?_⟩
            have := rps_rvs (B := B) (S := S1) (σ := σ) (H := H1) (H00 := H) hp' (svs := []) (vs := []) .nil
            rw [List.append_nil, List.append_nil] at this
            have q1 : K1 B W σ G1 ((gk S1).bind fun ks S2 => callS F kk src (ds.map SV.dat ++ []) ks S2) fun r S' => ∀ x G' H', Rel B S' σ G' H' → Stp S σ G H S' G' H' → RV B S' σ G' H H' r x → Q x H' := q1
            rw [List.append_nil] at q1
            exact fin _ S1 xs G1 H1 us s2 I2 rv R1 s1' this q1
      · have he : starEach (e :: es) X.env = (false, eval e X.env) :: starEach es X.env := by
          cases e <;> first | rfl | exact absurd ⟨_, _, rfl⟩ hst1
        have hany : (backTo pos (starEach es X.env)).any (·.1) = true := by
          refine star_anyT fun z => hn ?_
          cases e <;> first | exact z | exact absurd ⟨_, _, rfl⟩ hst1
        refine PySem.W.callWith_S2 (h₀ := X.base) I.ok.mod.kin m2 (thn (ha.run pos pins s σ H (fun vs H1 => ∃ svs S1 G1, Rel B S1 σ G1 H1 ∧ Stp S σ G H S1 G1 H1 ∧ RVs B S1 σ G1 H H1 svs vs ∧ K1 B W σ G1 ((gk S1).bind fun ks S2 => callS F kk src svs ks S2) fun r S' => ∀ x G' H', Rel B S' σ G' H' → Stp S σ G H S' G' H' → RV B S' σ G' H H' r x → Q x H') I (tA.thenE R q fun svs S1 vs G1 H1 e R1 s1 v1 q1 => ⟨svs, S1, G1, R1, s1, v1, q1⟩)) fun us s1 ⟨vs, H1, I1, r1, svs, S1, G1, R1, s1', v1, q1⟩ => ⟨I1.kIn, ?_⟩) he hany
        exact fin svs S1 vs G1 H1 us s1 I1 r1 R1 s1' v1 q1
end
end Z

set_option maxHeartbeats 2000000
/-! xs[::-1] of lists and tuples; and, or. -/
namespace Z
open PySem PySem.Spec PyProof.Rows L2
section
variable {prog : Program} {w : World} {A : Around} {E : Value → Shared → Prop} {s : Shared}
theorem places_rev (n : Nat) : Builtin.Slice.sliceAdjust none none (-1) (n : Int) = ((n : Int) - 1, -1) ∧ Builtin.Slice.slicePlaces ((n : Int) - 1) (-1) (-1) = n := by
  unfold Builtin.Slice.sliceAdjust Builtin.Slice.slicePlaces
  constructor
  · simp
  · simp; omega
theorem applied_rev {sl : Addr} {vl vu vs : Value} {n : Nat} {Q : Int × Int × Nat → Shared → Prop} (hs : s.heap.IsSliceOf sl vl vu vs) (pl : IsPart vl none) (pu : IsPart vu none) (ps : IsPart vs (some (-1)))
    (h : Q ((n : Int) - 1, -1, n) s) : wpAny (model prog w) A (Builtin.Slice.sliceApplied (.ref sl) (pure (n : Int))) Q E s := by
  obtain ⟨os, hos, hcs, hds⟩ := id hs
  unfold Builtin.Slice.sliceApplied Builtin.Slice.sliceFields
  refine wpAny_bind (wpAny_bind (wpAny_field hos hds (x := vl) rfl (wpAny_bind (wpAny_field hos hds (x := vu) rfl (wpAny_bind (wpAny_field hos hds (x := vs) rfl (wpAny_pure ?_)))))))
  refine wpAny_bind (HT.slicePart_ ps ?_)
  show wpAny _ _ (if ((-1 : Int) == 0) = true then _ else _) _ _ s
  rw [if_neg (by decide)]
  refine wpAny_bind (HT.slicePart_ pl (wpAny_bind (HT.slicePart_ pu (wpAny_bind (wpAny_pure ?_)))))
  show wpAny _ _ (match Builtin.Slice.sliceAdjust none none (-1) (n : Int) with | (lo, hi) => pure (lo, (-1 : Int), Builtin.Slice.slicePlaces lo hi (-1))) _ _ s
  rw [(places_rev n).1]
  show wpAny _ _ (pure ((n : Int) - 1, (-1 : Int), Builtin.Slice.slicePlaces ((n : Int) - 1) (-1) (-1))) _ _ s
  rw [(places_rev n).2]
  exact wpAny_pure h
theorem fm_congrG {α β : Type} {f g : α → Option β} : ∀ {l : List α}, (∀ m ∈ l, f m = g m) → l.filterMap f = l.filterMap g
  | [], _ => rfl
  | a :: l, h => by
    rw [List.filterMap_cons, List.filterMap_cons, h a (List.mem_cons_self ..), fm_congrG fun m hm => h m (List.mem_cons_of_mem _ hm)]
theorem fm_congr {α β : Type} {f g : α → Option β} : ∀ {l : List α}, (∀ m ∈ l, f m = g m) → l.filterMap f = l.filterMap g
  | [], _ => rfl
  | a :: l, h => by
    rw [List.filterMap_cons, List.filterMap_cons, h a List.mem_cons_self, fm_congr fun m hm => h m (List.mem_cons_of_mem _ hm)]
theorem pick_rev (xs : Array Value) : ((List.range xs.size).filterMap fun (m : Nat) => xs[(((xs.size : Int) - 1) + (m : Int) * (-1)).toNat]?).toArray = xs.toList.reverse.toArray := by
  have e : ∀ m ∈ List.range xs.size, xs[(((xs.size : Int) - 1) + (m : Int) * (-1)).toNat]? = xs[xs.size - 1 - m]? := fun m hm => by
    have hm : m < xs.size := List.mem_range.mp hm
    have : (((xs.size : Int) - 1) + (m : Int) * (-1)).toNat = xs.size - 1 - m := by omega
    rw [this]
  rw [fm_congr e]
  have e2 : (fun m => xs[xs.size - 1 - m]?) = (fun i => xs[i]?) ∘ fun m => xs.size - 1 - m := rfl
  rw [e2, ← List.filterMap_map, PySem.W.krv_range, List.filterMap_reverse, PySem.W.krv_all]
theorem getItem_tuple_rev {t sl : Addr} {items : Array Value} {vl vu vs : Value} {Q : Value → Shared → Prop} (ht : IsTup s.heap t items) (hs : s.heap.IsSliceOf sl vl vu vs) (pl : IsPart vl none) (pu : IsPart vu none) (ps : IsPart vs (some (-1)))
    (h : Q (.ref s.heap.objs.size) { s with heap := s.heap.push { cls := .type "tuple", data := .seq items.toList.reverse.toArray } }) (hsz : items.size ≤ sizeLine) : wpAny (model prog w) A (getItem (.ref t) (.ref sl)) Q E s := by
  have ok : sizeOk (.seq items.toList.reverse.toArray) := by
    show items.toList.reverse.toArray.size ≤ sizeLine
    rw [List.size_toArray, List.length_reverse, Array.length_toList]; exact hsz
  obtain ⟨os, hos, hcs, hds⟩ := id hs
  have hTs : s.TypeIs (.ref sl) "slice" := ⟨os, hos, hcs⟩
  unfold getItem
  try with_reducible refine wpAny_holding ?_
  first | refine wpAny_bind (wpAny_pure ?_) | skip
  refine wpAny_bind (wpAny_sequenceKey ht.typeIs (by decide) ?_)
  refine wpAny_bind (wpAny_callSpecial?_slot (name := Str.ofString "__getitem__") ht.typeIs PyProof.Rows.slot_tuple_getitem
    (wpAny_call_entry PyProof.Rows.slot_tuple_getitem ht.typeIs PyProof.Rows.entry_tuple_getitem ?_ (PyProof.Rows.args_tuple_getitem _ _)))
  show wpAny _ _ (Builtin.Tuple.tupleItemsOf (.ref t) >>= _) _ _ s
  refine wpAny_bind (PyProof.Rows.tupleItemsOf_ ht ?_)
  refine wpAny_bind (wpAny_typeOf hTs ?_)
  rw [if_pos (by decide)]
  refine wpAny_bind (applied_rev hs pl pu ps ?_)
  have hno : ¬ ((((items.size : Int) - 1) == 0 && (-1 : Int) == 1 && items.size == items.size) = true) := by
    intro q
    rw [Bool.and_eq_true, Bool.and_eq_true] at q
    exact absurd q.1.2 (by decide)
  show wpAny _ _ (if (((items.size : Int) - 1) == 0 && (-1 : Int) == 1 && items.size == items.size) = true then _ else _) _ _ s
  rw [if_neg hno, pick_rev]
  first
    | exact wpAny_bind (m := Builtin.Tuple.tupleExact _) (wpAny_newObj_type (wpAny_pure ⟨_, rfl, wpAny_pure h⟩) ok)
    | exact wpAny_bind (m := Builtin.Tuple.tupleExact _) (wpAny_newObj_type (wpAny_bind (wpAny_pure (wpAny_pure ⟨_, rfl, wpAny_pure h⟩))) ok)
    | exact wpAny_bind (wpAny_bind (m := Builtin.Tuple.tupleExact _) (wpAny_newObj_type (wpAny_pure (wpAny_pure ⟨_, rfl, wpAny_pure h⟩)) ok))
    | exact wpAny_bind (wpAny_bind (m := Builtin.Tuple.tupleExact _) (wpAny_newObj_type (wpAny_pure ⟨_, rfl, wpAny_pure h⟩) ok))
end
section
variable {X : Cx} {B : Bx} {W : WX} {c : Ctx} {S : Sl} {σ : Sg} {G H : Hp} {pos : Pos} {a b e : Expr} {rest : List Expr} {f g : Sl → O SV} {tf tg : Sl → O Bool}
def tRevX (K : PySem.W.Frag) (te : TE) : TE := fun σ H Q => te σ H fun x H1 => ∃ a xs, x = .ref a ∧ ((SqL K H1 a xs ∧ ∀ p, H1 p = none → Q (.ref p) (upd H1 p (.lst xs.reverse))) ∨ (SqT K H1 a xs ∧ ∀ p, H1 p = none → Q (.ref p) (upd H1 p (.tup xs.reverse))))
theorem pe_revX {te : TE} {k : Nat} {p1 p2 p3 : Pos} (he : PE X e te) : PE X (.Subscript e (.Slice none none (some (.UnaryOp .USub (.Constant (.int 1) k p1) p2)) p3) pos) (tRevX X.K te) := by
  refine ⟨fun pins s σ H Q I h => ?_⟩
  refine Subscript_ (thn (he.run pins s σ H _ I h) fun v s1 ⟨x, H1, I1, r1, a, xs, ex, q⟩ => ?_)
  subst ex
  cases r1
  have hst : PO X (some (.UnaryOp .USub (.Constant (.int 1) k p1) p2)) (tPart (tUn (rU fun i => .int (-i)) (tC (.int 1)))) := po_some (pe_un un_neg pe_int)
  refine wpAny_Slice (thn (po_none.run pins s1 σ H1 (fun o H2 => o = none ∧ H2 = H1) I1 ⟨rfl, rfl⟩) fun vl s2 ⟨l, H2, I2, pl, el, e2⟩ => ?_)
  subst el e2
  refine thn (po_none.run pins s2 σ H2 (fun o H3 => o = none ∧ H3 = H2) I2 ⟨rfl, rfl⟩) fun vu s3 ⟨u, H3, I3, pu, eu, e3⟩ => ?_
  subst eu e3
  refine thn (hst.run pins s3 σ H3 (fun o H4 => o = some (-1) ∧ H4 = H3) I3 ⟨1, rfl, -1, rfl, rfl, rfl⟩) fun vs s4 ⟨o, H4, I4, ps, eo, e4⟩ => ?_
  subst eo e4
  have I5 : Inv X pins σ H4 { s4 with heap := s4.heap.push { cls := .type "slice", data := .fields #[vl, vu, vs] } } := I4.kept (t' := s4.toks) fun b ob q => Heap.get?_push_of_some _ q
  show wpAny (model X.prog X.w) X.A (subscriptTail e (.Slice none none (some (.UnaryOp .USub (.Constant (.int 1) k p1) p2)) p3) (.ref a) (.ref s4.heap.objs.size)) (EP X pins σ Q) X.xe { s4 with heap := s4.heap.push { cls := .type "slice", data := .fields #[vl, vu, vs] } }
  rcases q with ⟨hx, q⟩ | ⟨hx, q⟩
  · obtain ⟨its, r, ht, hz⟩ := I5.list hx
    have hlen := r.length
    refine tail_any (ops := [.ref a, .ref s4.heap.objs.size]) ht.isList.typeIs (PySem.slot_list_getitem.lookup) ?_ (by with_unfolding_all rfl)
    refine wpAny_getItem_list_slice ht.isList (Heap.IsSliceOf.new _ vl vu vs) pl pu ps (by decide) ?_ (by rw [List.size_toArray]; omega)
    rw [PySem.W.krv_pick]
    exact ⟨.ref _, _, I5.laid (t' := s4.toks) (o := .lst xs.reverse) (fun b ob q => Heap.get?_push_of_some _ q) (Nat.le_refl _) ⟨by rw [List.length_reverse]; exact hz, _, 0, r.reverse, Heap.get?_push_size _ rfl⟩, rfl, q _ (I5.hok.fresh (Nat.le_refl _))⟩
  · obtain ⟨its, r, ht, hz⟩ := I5.tuple hx
    have hlen := r.length
    refine tail_any (ops := [.ref a, .ref s4.heap.objs.size]) ht.typeIs (PyProof.Rows.slot_tuple_getitem.lookup) ?_ (by with_unfolding_all rfl)
    refine getItem_tuple_rev ht (Heap.IsSliceOf.new _ vl vu vs) pl pu ps ?_ (by rw [List.size_toArray]; omega)
    exact ⟨.ref _, _, I5.laid (t' := s4.toks) (o := .tup xs.reverse) (fun b ob q => Heap.get?_push_of_some _ q) (Nat.le_refl _) ⟨by rw [List.length_reverse]; exact hz, _, r.reverse, IsTup.new _ _⟩, rfl, q _ (I5.hok.fresh (Nat.le_refl _))⟩
theorem Rps.pick {vs : List V} {ds : List D} (r : Rps H vs ds) : ∀ ks : List Nat, Rps H (pickN vs ks) (pickN ds ks)
  | [] => .nil
  | k :: ks => by
    have ih := Rps.pick r ks
    unfold pickN at ih ⊢
    cases e : ds[k]? with
    | some d =>
      obtain ⟨v, h1, h2⟩ := r.get e
      rw [List.filterMap_cons_some h1, List.filterMap_cons_some e]
      exact .cons h2 ih
    | none =>
      have e2 : vs[k]? = none := List.getElem?_eq_none (by rw [r.length]; exact List.getElem?_eq_none_iff.mp e)
      rw [List.filterMap_cons_none e2, List.filterMap_cons_none e]
      exact ih
theorem vals_pick {vs : List V} {us : List Value} (r : Vals vs us) : ∀ ks : List Nat, Vals (pickN vs ks) (pickN us ks)
  | [] => .nil
  | k :: ks => by
    have ih := vals_pick r ks
    unfold pickN at ih ⊢
    cases e : us[k]? with
    | some u =>
      obtain ⟨v, h1, h2⟩ := vals_at r e
      rw [List.filterMap_cons_some h1, List.filterMap_cons_some e]
      exact .cons h2 ih
    | none =>
      have e2 : vs[k]? = none := List.getElem?_eq_none (by rw [r.length]; exact List.getElem?_eq_none_iff.mp e)
      rw [List.filterMap_cons_none e2, List.filterMap_cons_none e]
      exact ih
theorem e_rev {k : Nat} {p1 p2 p3 : Pos} (ha : PE X e (tE B W f)) : PE X (.Subscript e (.Slice none none (some (.UnaryOp .USub (.Constant (.int 1) k p1) p2)) p3) pos) (tE B W fun S => (f S).bind fun x S1 => match cont S1 x with
            | some d => O.of (sliceRev d) S1
            | none => .bad) := by
  refine PE.imp (pe_revX ha) fun σ H Q ⟨S, G, R, q⟩ => tE.then R q fun x S1 v G1 H1 R1 s1 v1 q1 => ?_
  split at q1
  · rename_i d ec
    obtain ⟨r, e3, q3⟩ := K1.of q1
    have fin : Fin B S1 σ G1 H1 Q r := Fin.of s1 q3
    cases d <;> simp only [sliceRev] at e3 <;> cases e3
    · obtain ⟨p, ys, rfl, h1, r1⟩ := v1.clist R1 ec
      exact ⟨p, ys, rfl, .inl ⟨.inl h1, fin.lst R1 r1.reverse⟩⟩
    · obtain ⟨p, ys, rfl, h1, r1⟩ := v1.ctup R1 ec
      exact ⟨p, ys, rfl, .inr ⟨.inl h1, fin.tup R1 r1.reverse⟩⟩
  · exact q1.elim
/-! ### slices with a step -/
theorem size_pick {α : Type} (xs : List α) (ks : List Nat) : (pickN xs ks).length ≤ ks.length := List.length_filterMap_le _ _
theorem applied_step {prog : Program} {w : World} {A : Around} {E : Value → Shared → Prop} {s : Shared} {sl : Addr} {vl vu vs : Value} {lo hi : Option Int} {st : Int} {n : Nat} {Q : Int × Int × Nat → Shared → Prop} (hs : s.heap.IsSliceOf sl vl vu vs) (pl : IsPart vl lo) (pu : IsPart vu hi) (ps : IsPart vs (some st)) (h0 : st ≠ 0)
    (h : Q ((Builtin.Slice.sliceAdjust lo hi st n).1, st, Builtin.Slice.slicePlaces (Builtin.Slice.sliceAdjust lo hi st n).1 (Builtin.Slice.sliceAdjust lo hi st n).2 st) s) : wpAny (model prog w) A (Builtin.Slice.sliceApplied (.ref sl) (pure (n : Int))) Q E s := by
  obtain ⟨ob, hob, _, hdb⟩ := id hs
  unfold Builtin.Slice.sliceApplied Builtin.Slice.sliceFields
  refine wpAny_bind (wpAny_bind (wpAny_field hob hdb (x := vl) rfl (wpAny_bind (wpAny_field hob hdb (x := vu) rfl (wpAny_bind (wpAny_field hob hdb (x := vs) rfl (wpAny_pure ?_)))))))
  refine wpAny_bind (HT.slicePart_ ps ?_)
  have hn : ¬ ((st == 0) = true) := by simpa using h0
  show wpAny _ _ (if (st == 0) = true then _ else _) _ _ s
  rw [if_neg hn]
  exact wpAny_bind (HT.slicePart_ pl (wpAny_bind (HT.slicePart_ pu (wpAny_bind (wpAny_pure (wpAny_pure h))))))
theorem pickN_arr (xs : Array Value) (a st : Int) (n : Nat) : ((List.range n).filterMap fun (m : Nat) => xs[(a + (m : Int) * st).toNat]?).toArray = (pickN xs.toList ((List.range n).map fun (m : Nat) => (a + (m : Int) * st).toNat)).toArray := by
  unfold pickN
  rw [List.filterMap_map]
  congr 1
  refine fm_congr fun m _ => ?_
  simp
/-- whether a slice is the whole tuple -/
def wholeT (n : Nat) (lo hi : Option Int) (st : Int) : Bool := (Builtin.Slice.sliceAdjust lo hi st n).1 == 0 && st == 1 && Builtin.Slice.slicePlaces (Builtin.Slice.sliceAdjust lo hi st n).1 (Builtin.Slice.sliceAdjust lo hi st n).2 st == n
theorem getItem_tuple_step {prog : Program} {w : World} {A : Around} {E : Value → Shared → Prop} {s : Shared} {t sl : Addr} {items : Array Value} {vl vu vs : Value} {lo hi : Option Int} {st : Int} {Q : Value → Shared → Prop} (ht : IsTup s.heap t items) (hs : s.heap.IsSliceOf sl vl vu vs) (pl : IsPart vl lo) (pu : IsPart vu hi) (ps : IsPart vs (some st)) (h0 : st ≠ 0)
    (hw : wholeT items.size lo hi st = true → Q (.ref t) s)
    (h : wholeT items.size lo hi st = false → Q (.ref s.heap.objs.size) { s with heap := s.heap.push { cls := .type "tuple", data := .seq (pickN items.toList (stepT items.size lo hi st)).toArray } }) (hsz : (pickN items.toList (stepT items.size lo hi st)).length ≤ sizeLine) : wpAny (model prog w) A (getItem (.ref t) (.ref sl)) Q E s := by
  have okS : sizeOk (.seq (pickN items.toList (stepT items.size lo hi st)).toArray) := by
    show (pickN items.toList (stepT items.size lo hi st)).toArray.size ≤ sizeLine
    rw [List.size_toArray]; exact hsz
  obtain ⟨ob, hob, hcb, _⟩ := id hs
  have hT : s.TypeIs (.ref sl) "slice" := ⟨ob, hob, hcb⟩
  unfold getItem
  try with_reducible refine wpAny_holding ?_
  first | refine wpAny_bind (wpAny_pure ?_) | skip
  refine wpAny_bind (wpAny_sequenceKey ht.typeIs (by decide) (wpAny_bind (wpAny_callSpecial?_slot (name := Str.ofString "__getitem__") ht.typeIs PyProof.Rows.slot_tuple_getitem
    (wpAny_call_entry PyProof.Rows.slot_tuple_getitem ht.typeIs PyProof.Rows.entry_tuple_getitem ?_ (PyProof.Rows.args_tuple_getitem _ _)))))
  show wpAny _ _ (Builtin.Tuple.tupleItemsOf (.ref t) >>= _) _ _ s
  refine wpAny_bind (PyProof.Rows.tupleItemsOf_ ht (wpAny_bind (wpAny_typeOf hT ?_)))
  rw [if_pos (by decide)]
  refine wpAny_bind (applied_step hs pl pu ps h0 ?_)
  show wpAny _ _ (if wholeT items.size lo hi st = true then _ else _) _ _ s
  cases e : wholeT items.size lo hi st with
  | true =>
    rw [if_pos rfl]
    refine wpAny_bind (show wpAny _ _ (typeOf (.ref t) >>= fun T => pure (T == .type "tuple")) _ _ s from wpAny_bind (wpAny_typeOf ht.typeIs (wpAny_pure ?_)))
    first | rw [if_pos (by decide)] | simp only [beq_self_eq_true, if_true]
    first
      | exact wpAny_bind (wpAny_rule (wpAny_pure ⟨_, rfl, wpAny_pure (hw e)⟩))
      | exact wpAny_bind (wpAny_rule (wpAny_bind (wpAny_pure (wpAny_pure ⟨_, rfl, wpAny_pure (hw e)⟩))))
  | false =>
    rw [if_neg (by decide), pickN_arr]
    have h := h e
    unfold stepT at h okS
    first
      | exact wpAny_bind (m := Builtin.Tuple.tupleExact _) (wpAny_newObj_type (wpAny_pure ⟨_, rfl, wpAny_pure h⟩) okS)
      | exact wpAny_bind (m := Builtin.Tuple.tupleExact _) (wpAny_newObj_type (wpAny_bind (wpAny_pure (wpAny_pure ⟨_, rfl, wpAny_pure h⟩))) okS)
      | exact wpAny_bind (wpAny_bind (m := Builtin.Tuple.tupleExact _) (wpAny_newObj_type (wpAny_pure (wpAny_pure ⟨_, rfl, wpAny_pure h⟩)) okS))
      | exact wpAny_bind (wpAny_bind (m := Builtin.Tuple.tupleExact _) (wpAny_newObj_type (wpAny_pure ⟨_, rfl, wpAny_pure h⟩) okS))
def tStepX (K : PySem.W.Frag) (te : TE) (tl th ts : TO) : TE := fun σ H Q => te σ H fun x H1 => tl σ H1 fun lo H2 => th σ H2 fun hi H3 => ts σ H3 fun so H4 => ∃ a xs st, x = .ref a ∧ so = some st ∧ st ≠ 0 ∧
  ((SqL K H4 a xs ∧ ∀ p, H4 p = none → Q (.ref p) (upd H4 p (.lst (pickN xs (stepL xs.length lo hi st))))) ∨
   (SqT K H4 a xs ∧ (pickN xs (stepT xs.length lo hi st)).length ≤ sizeLine ∧ (wholeT xs.length lo hi st = true → Q (.ref a) H4) ∧ (wholeT xs.length lo hi st = false → ∀ p, H4 p = none → Q (.ref p) (upd H4 p (.tup (pickN xs (stepT xs.length lo hi st)))))))
theorem pe_stepX {te : TE} {tl th ts : TO} {o : Expr} {lo hi : Option Expr} {sp : Expr} {p3 : Pos} (he : PE X o te) (hl : PO X lo tl) (hh : PO X hi th) (hst : PO X (some sp) ts) : PE X (.Subscript o (.Slice lo hi (some sp) p3) pos) (tStepX X.K te tl th ts) := by
  refine ⟨fun pins s σ H Q I h => ?_⟩
  refine Subscript_ (thn (he.run pins s σ H _ I h) fun v s1 ⟨x, H1, I1, r1, q1⟩ => ?_)
  refine wpAny_Slice (thn (hl.run pins s1 σ H1 _ I1 q1) fun vl s2 z2 => ?_)
  obtain ⟨l, H2, I2, pl, q2⟩ := z2
  refine thn (hh.run pins s2 σ H2 _ I2 q2) fun vu s3 z3 => ?_
  obtain ⟨u, H3, I3, pu, q3⟩ := z3
  refine thn (hst.run pins s3 σ H3 _ I3 q3) fun vs s4 z4 => ?_
  obtain ⟨so, H4, I4, ps, q4⟩ := z4
  obtain ⟨a, xs, st, rfl, rfl, h0, q⟩ := q4
  cases r1
  have I5 : Inv X pins σ H4 { s4 with heap := s4.heap.push { cls := .type "slice", data := .fields #[vl, vu, vs] } } := I4.kept (t' := s4.toks) fun b ob q => Heap.get?_push_of_some _ q
  show wpAny (model X.prog X.w) X.A (subscriptTail o (.Slice lo hi (some sp) p3) (.ref a) (.ref s4.heap.objs.size)) (EP X pins σ Q) X.xe { s4 with heap := s4.heap.push { cls := .type "slice", data := .fields #[vl, vu, vs] } }
  have hsn : (some st : Option Int) ≠ some 0 := fun z => h0 (Option.some.inj z)
  rcases q with ⟨hx, q⟩ | ⟨hx, hpz, qw, qn⟩
  · obtain ⟨its, r, ht, hz⟩ := I5.list hx
    have hlen := r.length
    refine tail_any (ops := [.ref a, .ref s4.heap.objs.size]) ht.isList.typeIs (PySem.slot_list_getitem.lookup) ?_ (by with_unfolding_all rfl)
    have eP : (slicePick its.toArray l u (some st)).toList = pickN its (stepL xs.length l u st) := by
      unfold slicePick pickN stepL
      rw [List.size_toArray, ← hlen]
      show (_ : List Value) = _
      refine fm_congr fun m _ => ?_
      simp
    have rp := vals_pick r (stepL xs.length l u st)
    have hpl : (pickN xs (stepL xs.length l u st)).length ≤ sizeLine := by
      have z := slicePick_size_le its.toArray l u (some st)
      have z2 : (slicePick its.toArray l u (some st)).toList.length ≤ its.length := by simpa using z
      rw [eP, ← rp.length] at z2
      omega
    refine wpAny_getItem_list_slice ht.isList (Heap.IsSliceOf.new _ vl vu vs) pl pu ps hsn ?_ (by rw [List.size_toArray]; omega)
    refine ⟨.ref _, _, I5.laid (t' := s4.toks) (o := .lst (pickN xs (stepL xs.length l u st))) (fun b ob q => Heap.get?_push_of_some _ q) (Nat.le_refl _) ⟨hpl, _, 0, rp, ?_⟩, rfl, q _ (I5.hok.fresh (Nat.le_refl _))⟩
    rw [← eP, Array.toArray_toList]
    exact Heap.get?_push_size _ rfl
  · obtain ⟨its, r, ht, hz⟩ := I5.tuple hx
    have hlen := r.length
    refine tail_any (ops := [.ref a, .ref s4.heap.objs.size]) ht.typeIs (PyProof.Rows.slot_tuple_getitem.lookup) ?_ (by with_unfolding_all rfl)
    have en : its.toArray.size = xs.length := by rw [List.size_toArray, hlen]
    have rp := vals_pick r (stepT xs.length l u st)
    refine getItem_tuple_step (lo := l) (hi := u) (st := st) ht (Heap.IsSliceOf.new _ vl vu vs) pl pu ps h0 (fun e => ?_) (fun e => ?_) ?_
    · rw [en] at e
      exact ⟨.ref a, H4, I5, rfl, qw e⟩
    · rw [en] at e ⊢
      exact ⟨.ref _, _, I5.laid (t' := s4.toks) (o := .tup (pickN xs (stepT xs.length l u st))) (fun b ob q => Heap.get?_push_of_some _ q) (Nat.le_refl _) ⟨hpz, _, rp, IsTup.new _ _⟩, rfl, qn e _ (I5.hok.fresh (Nat.le_refl _))⟩
    · rw [en]
      show (pickN its (stepT xs.length l u st)).length ≤ sizeLine
      rw [← rp.length]; exact hpz
theorem pick_whole {α : Type} {xs : List α} {lo hi : Option Int} {st : Int} (h : wholeT xs.length lo hi st = true) : pickN xs (stepT xs.length lo hi st) = xs := by
  unfold wholeT at h
  simp only [Bool.and_eq_true, beq_iff_eq] at h
  obtain ⟨⟨h1, h2⟩, h3⟩ := h
  unfold stepT
  rw [h3, h1, h2]
  unfold pickN
  rw [List.filterMap_map]
  have key : ∀ (l : List α), ((List.range l.length).filterMap fun m : Nat => l[m]?) = l := fun l => by
    refine List.ext_getElem? fun i => ?_
    induction l generalizing i with
    | nil => rfl
    | cons a r ih =>
      rw [List.length_cons, List.range_succ_eq_map, List.filterMap_cons_some (by rfl : (a :: r)[0]? = some a), List.filterMap_map]
      cases i with
      | zero => rfl
      | succ i =>
        rw [List.getElem?_cons_succ, List.getElem?_cons_succ, ← ih i]; rfl
  refine Eq.trans (fm_congrG fun m _ => ?_) (key xs)
  show xs[((0 : Int) + (m : Int) * 1).toNat]? = xs[m]?
  rw [Int.zero_add, Int.mul_one, Int.toNat_natCast]
theorem e_step {fl fh fs : Sl → O (Option Int)} {lo hi : Option Expr} {sp : Expr} {p2 : Pos} (ha : PE X a (tE B W f)) (hl : PO X lo (tOI B W fl)) (hh : PO X hi (tOI B W fh)) (hs : PO X (some sp) (tOI B W fs)) : PE X (.Subscript a (.Slice lo hi (some sp) p2) pos)
    (tE B W fun S => (f S).bind fun x S1 => (fl S1).bind fun l S2 => (fh S2).bind fun h S3 => (fs S3).bind fun k S4 => match cont S4 x with
            | some d => O.of (stepD l h k d) S4
            | none => .bad) := by
  refine PE.imp (pe_stepX ha hl hh hs) fun σ H Q ⟨S, G, R, q⟩ => tE.then R q fun x S1 v G1 H1 R1 s1 v1 q1 => tOI.then R1 q1 fun l S2 G2 H2 R2 s2 q2 => tOI.then R2 q2 fun h S3 G3 H3 R3 s3 q3 => tOI.then R3 q3 fun k S4 G4 H4 R4 s4 q4 => ?_
  split at q4
  · rename_i d e
    obtain ⟨r, e3, q5⟩ := K1.of q4
    have fin : Fin B S4 σ G4 H4 Q r := Fin.of (((s1.tr s2).tr s3).tr s4) q5
    have v4 := ((v1.step s2).step s3).step s4
    cases d <;> simp only [stepD] at e3 <;> try cases e3
    · obtain ⟨st, rfl, e4⟩ := Option.bind_eq_some_iff.mp e3
      split at e4
      · cases e4
      · rename_i h0
        cases e4
        obtain ⟨p, xs, rfl, h1, r1⟩ := v4.clist R4 e
        exact ⟨p, xs, st, rfl, rfl, h0, .inl ⟨.inl h1, by rw [r1.length]; exact fin.lst R4 (r1.pick _)⟩⟩
    · obtain ⟨st, rfl, e4⟩ := Option.bind_eq_some_iff.mp e3
      split at e4
      · cases e4
      · rename_i h0
        split at e4
        · rename_i hz
          cases e4
          obtain ⟨p, xs, rfl, h1, r1⟩ := v4.ctup R4 e
          have rp := r1.pick (stepT xs.length l h st)
          have rl := r1.length
          refine ⟨p, xs, st, rfl, rfl, h0, .inr ⟨.inl h1, ?_, fun ew => ?_, fun _ => ?_⟩⟩
          · rw [rp.length, rl]; exact hz
          · -- the whole tuple itself
            have e6 := pick_whole (xs := xs) ew
            have e7 := pick_whole (xs := _) (rl ▸ ew)
            rw [e7] at fin
            cases x with
            | dat d => cases (Option.some.inj e : d = _); exact fin.flat R4 v4
            | own es => cases (Option.some.inj e : PyData.list es = _)
            | bor i => obtain ⟨xs, _, e'⟩ := cont_bor e; cases e'
            | exc c fs => cases e
            | thk r c fs => cases e
          · rw [← rl] at fin
            exact fin.tup R4 rp
        · cases e4
  · exact q4.elim
/-! ### and, or -/
theorem e_and (ha : PE X a (tE B W f)) (hb : PE X (.BoolOp .And (b :: rest) pos) (tE B W g)) : PE X (.BoolOp .And (a :: b :: rest) pos) (tE B W fun S => (f S).bind fun x S1 => match (cont S1 x).bind truth with
      | some k => if k then g S1 else .ok x S1
      | none => .bad) := by
  refine PE.imp (pe_andT ha hb) fun σ H Q ⟨S, G, R, q⟩ => tE.then R q fun x S1 v G1 H1 R1 s1 v1 q1 => ?_
  split at q1
  · rename_i k ec
    cases ed : cont S1 x with
    | none => rw [ed] at ec; cases ec
    | some d =>
      rw [ed] at ec
      refine ⟨k, truth_ok (v1.rp R1 ed) ec, ?_⟩
      cases k with
      | false =>
        rw [if_neg (by decide)] at q1 ⊢
        exact q1 v G1 H1 R1 s1 v1
      | true =>
        rw [if_pos rfl] at q1 ⊢
        exact ⟨S1, G1, R1, by
          cases e : g S1 with
          | ok r S2 => rw [e] at q1; exact fun x G2 H2 R2 s2 v2 => q1 x G2 H2 R2 (s1.tr s2) (v2.back s1.dom)
          | exc c fs S2 => rw [e] at q1; exact q1
          | bad => rw [e] at q1; exact q1⟩
  · exact q1.elim
theorem e_or (ha : PE X a (tE B W f)) (hb : PE X (.BoolOp .Or (b :: rest) pos) (tE B W g)) : PE X (.BoolOp .Or (a :: b :: rest) pos) (tE B W fun S => (f S).bind fun x S1 => match (cont S1 x).bind truth with
      | some k => if k then .ok x S1 else g S1
      | none => .bad) := by
  refine PE.imp (pe_orT ha hb) fun σ H Q ⟨S, G, R, q⟩ => tE.then R q fun x S1 v G1 H1 R1 s1 v1 q1 => ?_
  split at q1
  · rename_i k ec
    cases ed : cont S1 x with
    | none => rw [ed] at ec; cases ec
    | some d =>
      rw [ed] at ec
      refine ⟨k, truth_ok (v1.rp R1 ed) ec, ?_⟩
      cases k with
      | true =>
        rw [if_pos rfl] at q1 ⊢
        exact q1 v G1 H1 R1 s1 v1
      | false =>
        rw [if_neg (by decide)] at q1 ⊢
        exact ⟨S1, G1, R1, by
          cases e : g S1 with
          | ok r S2 => rw [e] at q1; exact fun x G2 H2 R2 s2 v2 => q1 x G2 H2 R2 (s1.tr s2) (v2.back s1.dom)
          | exc c fs S2 => rw [e] at q1; exact q1
          | bad => rw [e] at q1; exact q1⟩
  · exact q1.elim
theorem tT.go {Q : Bool → Hp → Prop} {S1 : Sl} {G1 H1 : Hp} (s1 : Stp S σ G H S1 G1 H1) (R1 : Rel B S1 σ G1 H1) (q1 : K1 B W σ G1 (tg S1) fun b S' => ∀ G' H', Rel B S' σ G' H' → Stp S σ G H S' G' H' → Q b H') : tT B W tg σ H1 Q :=
  ⟨S1, G1, R1, by
    cases e : tg S1 with
    | ok r S2 => rw [e] at q1; exact fun G2 H2 R2 s2 => q1 G2 H2 R2 (s1.tr s2)
    | exc c fs S2 => rw [e] at q1; exact q1
    | bad => rw [e] at q1; exact q1⟩
theorem t_and (ha : PT X a (tT B W tf)) (hb : PW X (.BoolOp .And (b :: rest) pos) (tT B W tg)) : PW X (.BoolOp .And (a :: b :: rest) pos) (tT B W fun S => (tf S).bind fun k S1 => if k then tg S1 else .ok false S1) := by
  refine PW.imp (pw_and ha hb) fun σ H Q ⟨S, G, R, q⟩ => tT.then R q fun k S1 G1 H1 R1 s1 q1 => ?_
  cases k with
  | true =>
    rw [if_pos rfl] at q1 ⊢
    exact tT.go s1 R1 q1
  | false =>
    rw [if_neg (by decide)] at q1 ⊢
    exact q1 G1 H1 R1 s1
theorem t_or (ha : PT X a (tT B W tf)) (hb : PW X (.BoolOp .Or (b :: rest) pos) (tT B W tg)) : PW X (.BoolOp .Or (a :: b :: rest) pos) (tT B W fun S => (tf S).bind fun k S1 => if k then .ok true S1 else tg S1) := by
  refine PW.imp (pw_or ha hb) fun σ H Q ⟨S, G, R, q⟩ => tT.then R q fun k S1 G1 H1 R1 s1 q1 => ?_
  cases k with
  | false =>
    rw [if_neg (by decide)] at q1 ⊢
    exact tT.go s1 R1 q1
  | true =>
    rw [if_pos rfl] at q1 ⊢
    exact q1 G1 H1 R1 s1
end
end Z

set_option maxHeartbeats 2000000
/-! Statements. -/
namespace Z
open PySem PySem.Spec PyProof.Rows L2
/-- a value that is returned -/
def RVr (B : Bx) (G H : Hp) : SV → V → Prop
  | .dat d, x => Rp G x d
  | .own xs, x => ∃ p ys, x = .ref p ∧ B.base p = none ∧ (∀ i, B.io ≠ some (i, p)) ∧ G p = none ∧ H p = some (.lst ys) ∧ Rps G ys xs
  | _, _ => False
def SK (B : Bx) (W : WX) (D : Ends) (G : Hp) : Fl → Prop
  | .nx S' => ∀ σ' G' H', Rel B S' σ' G' H' → Ex G G' → D.nx σ' H'
  | .bk S' => ∀ σ' G' H', Rel B S' σ' G' H' → Ex G G' → D.bk σ' H'
  | .ct S' => ∀ σ' G' H', Rel B S' σ' G' H' → Ex G G' → D.ct σ' H'
  | .ret r S' => ∀ x σ' G' H', Rel B S' σ' G' H' → ioOwn (B.io.map (·.1)) S' = true → RVr B G' H' r x → D.rt x H'
  | .exc c fs S' => ∀ C d vs σ' G' H', Rel B S' σ' G' H' → Ex G G' → B.mg c = some (.ref C) → G' d = some (.xd vs) → FsR G' vs fs → W (.ref C) (some d) σ' H'
  | .bad => False
def tS (B : Bx) (W : WX) (f : Sl → Fl) : TS := fun D σ H => ∃ S G, Rel B S σ G H ∧ SK B W D G (f S)
section
variable {X : Cx} {B : Bx} {W : WX} {c : Ctx} {S S0 S1 S2 : Sl} {σ : Sg} {G G00 G0 G1 G2 G' H H0 H1 H' : Hp} {p pos : Pos} {D : Ends} {e : Expr} {f : Sl → O SV} {tf : Sl → O Bool} {ga : Sl → O (List SV)} {fb fc : Sl → Fl}
theorem SK.ext {r : Fl} (h : SK B W D G r) (e : Ex G G1) : SK B W D G1 r := by
  cases r with
  | nx S' => exact fun σ' G' H' R x => h σ' G' H' R (e.tr x)
  | bk S' => exact fun σ' G' H' R x => h σ' G' H' R (e.tr x)
  | ct S' => exact fun σ' G' H' R x => h σ' G' H' R (e.tr x)
  | ret r S' => exact h
  | exc c fs S' => exact fun C d vs σ' G' H' R x => h C d vs σ' G' H' R (e.tr x)
  | bad => exact h
theorem PS.imp {st : Stmt} {t t' : TS} (h : PS X st t) (i : ∀ D σ H, t' D σ H → t D σ H) : PS X st t' := ⟨fun pins s σ H D I q => h.run pins s σ H D I (i D σ H q)⟩
theorem PS.impL {st : Stmt} {t t' : TS} (h : PS X st t) (i : ∀ D σ H, σ.length = X.N.length → t' D σ H → t D σ H) : PS X st t' := ⟨fun pins s σ H D I q => h.run pins s σ H D I (i D σ H I.len q)⟩
theorem PSs.imp {st : List Stmt} {t t' : TS} (h : PSs X st t) (i : ∀ D σ H, t' D σ H → t D σ H) : PSs X st t' := ⟨fun pins s σ H D I q => h.run pins s σ H D I (i D σ H q)⟩
theorem PS.bad {st : Stmt} : PS X st (tS B W fun _ => .bad) := ⟨fun _ _ _ _ _ _ ⟨_, _, _, h⟩ => h.elim⟩
theorem PSs.bad {st : List Stmt} : PSs X st (tS B W fun _ => .bad) := ⟨fun _ _ _ _ _ _ ⟨_, _, _, h⟩ => h.elim⟩
theorem st_exc {α : Type} {o : O α} {k : α → Sl → Fl} (h : SK B W D G (o.st k)) : (∃ r S1, o = .ok r S1 ∧ SK B W D G (k r S1)) ∨ ∃ c fs S1, o = .exc c fs S1 ∧ XW B W σ G c fs S1 := by
  cases o with
  | ok r S1 => exact .inl ⟨r, S1, rfl, h⟩
  | exc c fs S1 => exact .inr ⟨c, fs, S1, rfl, fun C d vs G' H' R z m x y => h C d vs σ G' H' R z m x y⟩
  | bad => exact h.elim
theorem tE.st {k : SV → Sl → Fl} {Q : VK} (R : Rel B S σ G H) (h : SK B W D G ((f S).st k)) (q : ∀ r S1 x G1 H1, Rel B S1 σ G1 H1 → Stp S σ G H S1 G1 H1 → RV B S1 σ G1 H H1 r x → SK B W D G1 (k r S1) → Q x H1) : tE B W f σ H Q := by
  refine ⟨S, G, R, ?_⟩
  rcases st_exc (σ := σ) h with ⟨r, S1, e, h1⟩ | ⟨c, fs, S1, e, h1⟩
  · rw [e]; exact fun x G1 H1 R1 s1 v1 => q r S1 x G1 H1 R1 s1 v1 (h1.ext s1.ext)
  · rw [e]; exact h1
theorem tT.st {k : Bool → Sl → Fl} {Q : Bool → Hp → Prop} (R : Rel B S σ G H) (h : SK B W D G ((tf S).st k)) (q : ∀ r S1 G1 H1, Rel B S1 σ G1 H1 → Stp S σ G H S1 G1 H1 → SK B W D G1 (k r S1) → Q r H1) : tT B W tf σ H Q := by
  refine ⟨S, G, R, ?_⟩
  rcases st_exc (σ := σ) h with ⟨r, S1, e, h1⟩ | ⟨c, fs, S1, e, h1⟩
  · rw [e]; exact fun G1 H1 R1 s1 => q r S1 G1 H1 R1 s1 (h1.ext s1.ext)
  · rw [e]; exact h1
theorem tA.st {k : List SV → Sl → Fl} {Q : List V → Hp → Prop} (R : Rel B S σ G H) (h : SK B W D G ((ga S).st k)) (q : ∀ r S1 x G1 H1, Rel B S1 σ G1 H1 → Stp S σ G H S1 G1 H1 → RVs B S1 σ G1 H H1 r x → SK B W D G1 (k r S1) → Q x H1) : tA B W ga σ H Q := by
  refine ⟨S, G, R, ?_⟩
  rcases st_exc (σ := σ) h with ⟨r, S1, e, h1⟩ | ⟨c, fs, S1, e, h1⟩
  · rw [e]; exact fun x G1 H1 R1 s1 v1 => q r S1 x G1 H1 R1 s1 v1 (h1.ext s1.ext)
  · rw [e]; exact h1
theorem tI.st {fI : Sl → O (List Z.D)} {k : List Z.D → Sl → Fl} {Q : It → Hp → Prop} (R : Rel B S σ G H) (h : SK B W D G ((fI S).st k)) (q : ∀ ds S1 J G1 H1, Rel B S1 σ G1 H1 → Stp S σ G H S1 G1 H1 → Gives J G1 ds → SK B W D G1 (k ds S1) → Q J H1) : tI B W fI σ H Q := by
  refine ⟨S, G, R, ?_⟩
  rcases st_exc (σ := σ) h with ⟨r, S1, e, h1⟩ | ⟨c, fs, S1, e, h1⟩
  · rw [e]; exact fun J G1 H1 R1 s1 g1 => q r S1 J G1 H1 R1 s1 g1 (h1.ext s1.ext)
  · rw [e]; exact h1
/-! ### plain ones -/
theorem s_pass : PS X (.Pass pos) (tS B W fun S => .nx S) := PS.imp ps_pass fun D σ H ⟨S, G, R, q⟩ => q σ G H R Ex.refl
theorem s_break : PS X (.Break pos) (tS B W fun S => .bk S) := PS.imp ps_break fun D σ H ⟨S, G, R, q⟩ => q σ G H R Ex.refl
theorem s_cont : PS X (.Continue pos) (tS B W fun S => .ct S) := PS.imp ps_continue fun D σ H ⟨S, G, R, q⟩ => q σ G H R Ex.refl
theorem s_expr (hn : notComp e = true) (he : PE X e (tE B W f)) : PS X (.Expr e pos) (tS B W fun S => (f S).st fun _ S1 => .nx S1) :=
  PS.imp (ps_expr he (hs := by cases e <;> first | rfl | (cases hn; done))) fun D σ H ⟨S, G, R, q⟩ => tE.st R q fun r S1 x G1 H1 R1 s1 v1 q1 => q1 σ G1 H1 R1 Ex.refl
theorem s_nil : PSs X [] (tS B W fun S => .nx S) := PSs.imp pss_nil fun D σ H ⟨S, G, R, q⟩ => q σ G H R Ex.refl
theorem s_seq {st : Stmt} {r : List Stmt} (h1 : PS X st (tS B W fb)) (h2 : PSs X r (tS B W fc)) : PSs X (st :: r) (tS B W fun S => (fb S).bind fun S1 => fc S1) := by
  refine PSs.imp (pss_cons h1 h2) fun D σ H ⟨S, G, R, q⟩ => ⟨S, G, R, ?_⟩
  have q : SK B W D G ((fb S).bind fun S1 => fc S1) := q
  cases e : fb S with
  | nx S1 =>
    rw [e] at q
    exact fun σ' G' H' R' x => ⟨S1, G', R', SK.ext (show SK B W D G (fc S1) from q) x⟩
  | bk S1 => rw [e] at q; exact q
  | ct S1 => rw [e] at q; exact q
  | ret r S1 => rw [e] at q; exact q
  | exc c fs S1 => rw [e] at q; exact q
  | bad => rw [e] at q; exact q
theorem s_if {t : Expr} {a b : List Stmt} (ht : PT X t (tT B W tf)) (ha : PSs X a (tS B W fb)) (hb : PSs X b (tS B W fc)) : PS X (.If t a b pos) (tS B W fun S => (tf S).st fun k S1 => if k then fb S1 else fc S1) := by
  refine PS.imp (ps_if ht ha hb) fun D σ H ⟨S, G, R, q⟩ => tT.st R q fun k S1 G1 H1 R1 s1 q1 => ?_
  cases k with
  | true => rw [if_pos rfl] at q1 ⊢; exact ⟨S1, G1, R1, q1⟩
  | false => rw [if_neg (by decide)] at q1 ⊢; exact ⟨S1, G1, R1, q1⟩
/-! ### return -/
theorem ret_ok {v r : SV} {x : V} {S' : Sl} (R0 : Rel B S0 σ G00 H0) (R : Rel B S σ G H) (v1 : RV B S σ G H0 H v x) (e : retV (B.io.map (·.1)) S v = .ok r S') : S' = S ∧ ioOwn (B.io.map (·.1)) S = true ∧ RVr B G H r x := by
  unfold retV at e
  split at e
  · rename_i io
    -- the written list's own slot
    have ioS : ∀ k q, B.io = some (k, q) → ∃ xs, S[k]? = some (some (.own xs)) ∧ σ[k]? = some (some (.ref q)) := fun k q h => by
      rw [h] at io
      unfold ioOwn at io
      dsimp only [Option.map] at io
      split at io
      · rename_i xs h2; exact ⟨xs, h2, R.io k q h⟩
      · cases io
    cases v with
    | dat d => cases e; exact ⟨rfl, io, v1⟩
    | own xs =>
      cases e
      obtain ⟨p, ys, rfl, h1, h2, h3, h4, h5⟩ := v1
      refine ⟨rfl, io, p, ys, rfl, R0.bnone h1, fun i z => ?_, h3, h4, h5⟩
      obtain ⟨us, e1, e2⟩ := ioS i p z
      exact h2 ⟨i, us, e1, e2⟩
    | bor i =>
      dsimp only at e
      split at e
      · cases e
      · rename_i ni
        split at e
        · rename_i xs e1
          cases e
          obtain ⟨y, e2, p, ys, rfl, h2, h3, h4, h5⟩ := R.at_ i _ e1
          have v1 : σ[i]? = some (some x) := v1
          rw [e2] at v1
          cases v1
          refine ⟨rfl, io, p, ys, rfl, h3, fun k z => ?_, h2, h4, h5⟩
          obtain ⟨us, f1, f2⟩ := ioS k p z
          have := R.inj k i p us xs f1 e1 f2 e2
          subst this
          exact ni (by rw [z]; rfl)
        · cases e
    | exc c fs => cases e
    | thk a b d => cases e
  · cases e
theorem retV_nox {v : SV} {io : Option Nat} {k : Str} {fs : Fs} {S1 : Sl} : retV io S v ≠ .exc k fs S1 := by
  intro e
  unfold retV at e
  split at e
  · cases v <;> simp only at e <;> try cases e
    split at e
    · cases e
    · split at e <;> cases e
  · cases e
theorem s_ret (hio : c.io = B.io.map (·.1)) (he : PE X e (tE B W f)) : PS X (.Return (some e) pos) (tS B W fun S => ((f S).bind fun v S1 => retV c.io S1 v).st fun v S1 => .ret v S1) := by
  refine PS.imp (ps_ret he) fun D σ H ⟨S, G, R, q⟩ => ⟨S, G, R, ?_⟩
  cases e1 : f S with
  | exc k fs S1 =>
    have q : SK B W D G (((f S).bind fun v S1 => retV c.io S1 v).st fun v S1 => .ret v S1) := q
    rw [e1] at q
    exact fun C d vs G' H' R' z m x y => q C d vs σ G' H' R' z m x y
  | bad =>
    have q : SK B W D G (((f S).bind fun v S1 => retV c.io S1 v).st fun v S1 => .ret v S1) := q
    rw [e1] at q; exact q.elim
  | ok v S1 =>
    have q : SK B W D G (((f S).bind fun v S1 => retV c.io S1 v).st fun v S1 => .ret v S1) := q
    rw [e1] at q
    have q : SK B W D G ((retV c.io S1 v).st fun v S1 => .ret v S1) := q
    intro x G1 H1 R1 s1 v1
    cases e2 : retV c.io S1 v with
    | exc k fs S2 => exact absurd e2 retV_nox
    | bad => rw [e2] at q; exact q.elim
    | ok r S2 =>
      rw [e2] at q
      have q9 : SK B W D G (.ret r S2) := q
      rw [hio] at e2
      obtain ⟨es, io, rr⟩ := ret_ok R R1 v1 e2
      rw [es] at q9
      exact q9 x σ G1 H1 R1 io rr
theorem s_retN (hio : c.io = B.io.map (·.1)) : PS X (.Return none pos) (tS B W fun S => (retV c.io S (.dat .none)).st fun v S1 => .ret v S1) := by
  refine PS.imp ps_retN fun D σ H ⟨S, G, R, q⟩ => ?_
  have q : SK B W D G ((retV c.io S (.dat .none)).st fun v S1 => .ret v S1) := q
  cases e2 : retV c.io S (.dat .none) with
  | exc k fs S2 => exact absurd e2 retV_nox
  | bad => rw [e2] at q; exact q.elim
  | ok r S2 =>
    rw [e2] at q
    have q9 : SK B W D G (.ret r S2) := q
    rw [hio] at e2
    obtain ⟨es, io, rr⟩ := ret_ok (H0 := H) R R (show RV B S σ G H H (.dat .none) .non from .non) e2
    rw [es] at q9
    exact q9 .non σ G H R io rr
/-! ### stores -/
theorem stow_ok {v v' : SV} {x : V} (R0 : Rel B S0 σ G00 H0) (s : Stp S0 σ G00 H0 S G H) (R : Rel B S σ G H) (v1 : RV B S σ G H0 H v x) (e : stow S v = .ok v' S2) :
    ∃ G2, Rel B S2 σ G2 H ∧ Ex G G2 ∧ At B G2 H v' x ∧ (∀ ds p, v' = .own ds → x = .ref p → ¬ Ow S2 σ p) := by
  cases v with
  | own xs =>
    cases e
    obtain ⟨p, ys, rfl, h1, h2, h3, h4, h5⟩ := v1
    exact ⟨G, R, Ex.refl, ⟨p, ys, rfl, h3, R0.bnone h1, h4, h5⟩, fun ds q _ z => by cases z; exact h2⟩
  | exc c fs => cases e; exact ⟨G, R, Ex.refl, v1, fun ds q z _ => by cases z⟩
  | thk a b d => cases e
  | dat d =>
    obtain ⟨d', S3, e1, e2⟩ := O.bind_ok (show (settle S (.dat d)).bind (fun d S1 => O.ok (SV.dat d) S1) = .ok v' S2 from e)
    cases e2
    obtain ⟨G2, R2, s2, rp, b⟩ := settle_ok R0 s R v1 e1
    exact ⟨G2, R2, b.ext, rp, fun ds q z _ => by cases z⟩
  | bor i =>
    obtain ⟨d', S3, e1, e2⟩ := O.bind_ok (show (settle S (.bor i)).bind (fun d S1 => O.ok (SV.dat d) S1) = .ok v' S2 from e)
    cases e2
    obtain ⟨G2, R2, s2, rp, b⟩ := settle_ok R0 s R v1 e1
    exact ⟨G2, R2, b.ext, rp, fun ds q z _ => by cases z⟩
theorem stow_nox {v : SV} {k : Str} {fs : Fs} {S1 : Sl} : stow S v ≠ .exc k fs S1 := by
  intro e
  cases v with
  | own xs => cases e
  | exc c fs => cases e
  | thk a b d => cases e
  | dat d => cases e
  | bor i =>
    have e : (settle S (.bor i)).bind (fun d S1 => O.ok (SV.dat d) S1) = .exc k fs S1 := e
    cases e1 : settle S (.bor i) with
    | exc k fs S2 => exact settle_nox e1
    | bad => rw [e1] at e; cases e
    | ok d S2 => rw [e1] at e; cases e
/-- what a store of one name asks -/
theorem set_read (k : Nm X c B) {x : Str} {i : Nat} (ti : tgI c x = some i) {D : Ends} (ln : σ.length = X.N.length) (R : Rel B S σ G H) (q : SK B W D G (((f S).bind fun v S1 => stow S1 v).st (setA c x))) : tE B W f σ H fun y H1 => D.nx (σ.set i (some y)) H1 := by
  refine ⟨S, G, R, ?_⟩
  cases e1 : f S with
  | exc kk fs S1 =>
    rw [e1] at q
    exact fun C d vs G' H' R' z m x y => q C d vs σ G' H' R' z m x y
  | bad => rw [e1] at q; exact q.elim
  | ok v S1 =>
    rw [e1] at q
    have q : SK B W D G ((stow S1 v).st (setA c x)) := q
    intro y G1 H1 R1 s1 v1
    cases e2 : stow S1 v with
    | exc kk fs S2 => exact absurd e2 stow_nox
    | bad => rw [e2] at q; exact q.elim
    | ok r S2 =>
      rw [e2] at q
      have q : SK B W D G (setA c x r S2) := q
      obtain ⟨G2, R2, eg, at2, ow2⟩ := stow_ok R s1 R1 v1 e2
      unfold setA at q
      split at q
      · rename_i S3 e3
        obtain ⟨i', g1, rfl⟩ := setN_tg e3
        rw [ti] at g1
        cases g1
        obtain ⟨a1, a2, a3, a4, a5⟩ := tgI_ok k ti
        have lt : i < S2.length := by rw [R2.len, ln, k.N]; exact ix_lt a4
        exact q _ G2 H1 (R2.put lt a5 at2 fun ds p z1 z2 j nj es z3 z4 => ow2 ds p z1 z2 ⟨j, es, z3, z4⟩) (s1.ext.tr eg)
      · exact q.elim
theorem sw_notLoc {x : Str} {px : Pos} {e : Expr} {l : Nat} {env : PySem.Env} (h : env.scope.names.lookup x ≠ some .local) : swapsWith e (some (.Name x px)) l env = pure false := by
  have ky : (env.kindOf x == some .local) = false := by
    show (env.scope.names.lookup x == some .local) = false
    cases q : env.scope.names.lookup x with
    | none => rfl
    | some k => cases k <;> first | rfl | exact absurd q h
  cases e <;> first | rfl | (unfold swapsWith; simp only [ky, Bool.and_false, Bool.false_and] <;> first | done | rfl)
theorem s_set {x : Str} {px : Pos} {i : Nat} (k : Nm X c B) (ti : tgI c x = some i) (hn : (notComp e || notLoc c x) = true) (he : PE X e (tE B W f)) : PS X (.Assign [.Name x px] e pos) (tS B W fun S => ((f S).bind fun v S1 => stow S1 v).st (setA c x)) := by
  obtain ⟨a1, a2, a3, a4, a5⟩ := tgI_ok k ti
  have hs : swapsWith e (some (.Name x px)) pos.line X.env = pure false := by
    by_cases h : notComp e = true
    · cases e <;> first | rfl | (cases h; done)
    · rw [Bool.eq_false_iff.mpr h, Bool.false_or] at hn
      unfold notLoc at hn
      rw [Bool.not_eq_true', decide_eq_false_iff_not] at hn
      exact sw_notLoc (by rw [k.sc]; exact hn)
  exact PS.impL (ps_set k.nd a1 a2 he (hs := hs) (hf := a3)) fun D σ H ln ⟨S, G, R, q⟩ => set_read k ti ln R q
end
end Z

set_option maxHeartbeats 2000000
/-! More stores; loops. -/
namespace Z
open PySem PySem.Spec PyProof.Rows L2
section
variable {X : Cx} {B : Bx} {W : WX} {c : Ctx} {S S0 S1 S2 : Sl} {σ : Sg} {G G00 G0 G1 G2 G' H H0 H1 H' : Hp} {p pos : Pos} {D : Ends} {e tg it : Expr} {f : Sl → O SV} {tf : Sl → O Bool} {ga : Sl → O (List SV)} {fb fc : Sl → Fl} {fI : Sl → O (List Z.D)}
/-- a walk's next item, as data -/
theorem yl {J : It} {ds : List Z.D} {i : Nat} {x : V} {d : Z.D} (gv : Gives J G1 ds) (eg : Ex G1 G) (R : Rel B S σ G H) (hd : ds[i]? = some d) (y : J.yld i H x H') : ∃ G', Rel B S σ G' H' ∧ Rp G' x d ∧ Ex G G' := by
  rcases gv.yld i H x H' d hd (eg.tr R.sub) y with ⟨rfl, r⟩ | ⟨T, zs, es, rfl, hT, rfl, ed, rz⟩
  · exact ⟨G, R, r.mono eg, Ex.refl⟩
  · have en := Ex.new (o := HO.tup zs) (R.gnone hT)
    exact ⟨upd G T (.tup zs), R.lay hT (fun ps z => by cases z), by rw [ed]; exact .tup (.inl upd_same) (rz.mono (eg.tr en)), en⟩
theorem s_for {body : List Stmt} (k : Nm X c B) (hp : PassesOwn (model X.prog X.w) X.A X.env X.xe) (fo : forOk it = true) (hi : PI X tg it (tI B W fI)) (hb : PSs X body (tS B W fb)) :
    PS X (.For tg it body [] pos) (tS B W fun S => (fI S).st fun ds S1 => forL (fun d S2 => match asgD c tg d S2 with
      | some S3 => fb S3
      | none => .bad) ds S1) := by
  refine PS.imp (ps_for hp k.calm hi (pg_tg k tg) hb (hs := fun x => by cases it <;> first | rfl | (cases fo; done))) fun D σ H ⟨S, G, R, q⟩ => ?_
  refine tI.st R q fun ds S1 J G1 H1 R1 s1 gv q1 => ?_
  refine ⟨fun i m σ' H' => m = ds.length - i ∧ i ≤ ds.length ∧ ∃ Si Gi, Rel B Si σ' Gi H' ∧ Ex G1 Gi ∧ SK B W D Gi (forL (fun d S2 => match asgD c tg d S2 with
      | some S3 => fb S3
      | none => .bad) (ds.drop i) Si), ⟨ds.length, by simp, Nat.zero_le _, S1, G1, R1, Ex.refl, q1⟩, ?_⟩
  rintro i m σ' H' ⟨rfl, hi', Si, Gi, Ri, eg, qi⟩
  by_cases lt : i < ds.length
  · rw [List.drop_eq_getElem_cons lt] at qi
    unfold forL at qi
    refine .inr ⟨gv.go i H' lt (eg.tr Ri.sub), fun σ'' H'' => (ds.length - (i + 1) = ds.length - (i + 1) ∧ i + 1 ≤ ds.length ∧ ∃ Si Gi, Rel B Si σ'' Gi H'' ∧ Ex G1 Gi ∧ SK B W D Gi (forL (fun d S2 => match asgD c tg d S2 with
      | some S3 => fb S3
      | none => .bad) (ds.drop (i + 1)) Si)), fun σ'' H'' z => ⟨ds.length - (i + 1), by omega, z⟩, fun x H'' y => ?_⟩
    obtain ⟨Gj, Rj, rp, ej⟩ := yl gv eg Ri (List.getElem?_eq_getElem lt) y
    cases ea : asgD c tg ds[i] Si with
    | none =>
      rw [ea] at qi
      exact qi.elim
    | some S3 =>
      rw [ea] at qi
      dsimp only at qi
      refine ⟨Si, Gj, ds[i], S3, Rj, rp, ea, fun σ2 R3 _ _ => ⟨S3, Gj, R3, ?_⟩⟩
      cases eb : fb S3 with
      | nx S4 =>
        rw [eb] at qi
        exact fun σ4 G4 H4 R4 x4 => ⟨rfl, lt, S4, G4, R4, (eg.tr ej).tr x4, SK.ext qi (ej.tr x4)⟩
      | ct S4 =>
        rw [eb] at qi
        exact fun σ4 G4 H4 R4 x4 => ⟨rfl, lt, S4, G4, R4, (eg.tr ej).tr x4, SK.ext qi (ej.tr x4)⟩
      | bk S4 =>
        rw [eb] at qi
        exact fun σ4 G4 H4 R4 x4 => qi σ4 G4 H4 R4 (ej.tr x4)
      | ret r S4 => rw [eb] at qi; exact qi
      | exc k fs S4 => rw [eb] at qi; exact fun C dd vs σ4 G4 H4 R4 x4 => qi C dd vs σ4 G4 H4 R4 (ej.tr x4)
      | bad => rw [eb] at qi; exact qi.elim
  · have ei : i = ds.length := by omega
    subst ei
    rw [List.drop_length] at qi
    exact .inl ⟨gv.stop H' (eg.tr Ri.sub), qi σ' Gi H' Ri Ex.refl⟩
theorem s_while {t : Expr} {body : List Stmt} {n : Nat} (hp : PassesOwn (model X.prog X.w) X.A X.env X.xe) (ht : PT X t (tT B W tf)) (hb : PSs X body (tS B W fb)) : PS X (.While t body [] pos) (tS B W fun S => whL tf fb n S) := by
  refine PS.imp (ps_while hp ht hb) fun D σ H ⟨S, G, R, q⟩ => ?_
  refine ⟨fun m σ' H' => ∃ Si Gi, Rel B Si σ' Gi H' ∧ SK B W D Gi (whL tf fb m Si), ⟨n, S, G, R, q⟩, ?_⟩
  rintro m σ' H' ⟨Si, Gi, Ri, qi⟩
  cases m with
  | zero => exact qi.elim
  | succ m =>
    unfold whL at qi
    refine tT.st Ri qi fun b S1 G1 H1 R1 s1 q1 => ?_
    cases b with
    | false =>
      rw [if_neg (by decide)] at q1 ⊢
      exact q1 σ' G1 H1 R1 Ex.refl
    | true =>
      rw [if_pos rfl] at q1 ⊢
      refine ⟨fun σ'' H'' => ∃ Si Gi, Rel B Si σ'' Gi H'' ∧ SK B W D Gi (whL tf fb m Si), fun σ'' H'' z => ⟨m, Nat.lt_succ_self _, z⟩, S1, G1, R1, ?_⟩
      cases eb : fb S1 with
      | nx S4 =>
        rw [eb] at q1
        exact fun σ4 G4 H4 R4 x4 => ⟨S4, G4, R4, SK.ext q1 x4⟩
      | ct S4 =>
        rw [eb] at q1
        exact fun σ4 G4 H4 R4 x4 => ⟨S4, G4, R4, SK.ext q1 x4⟩
      | bk S4 => rw [eb] at q1; exact q1
      | ret r S4 => rw [eb] at q1; exact q1
      | exc k fs S4 => rw [eb] at q1; exact q1
      | bad => rw [eb] at q1; exact q1.elim
/-! ### stores -/
/-- x = [..] on one line -/
theorem s_setLc {x : Str} {px lp spos : Pos} {i : Nat} {elt : Expr} {ifs : List Expr} {scope : Scope} {fif : Sl → O Bool} {fe : Sl → O SV} (k : Nm X c B) (ti : tgI c x = some i) (hl : lcSet c x px scope lp = true) (lc : lcOk c tg scope = true) (fo : forOk it = true)
    (hi : PI X tg it (tI B W fI)) (ht : ∀ s H C cl fp, PTs (X.blk s H scope (compEnvC scope cl C X.env) fp) ifs (tT B W0 fif)) (he : ∀ s H C cl fp, PE (X.blk s H scope (compEnvC scope cl C X.env) fp) elt (tE B W0 fe)) :
    PS X (.Assign [.Name x px] (.ListComp elt [⟨tg, it, ifs, 0⟩] scope lp) spos) (tS B W fun S => (((fI S).bind fun ds S1 => (lcL (lcT c tg scope fif fe) ds [] S1).bind fun xs S2 => .ok (.own xs) S2).bind fun v S1 => stow S1 v).st (setA c x)) := by
  unfold lcSet at hl
  rw [Bool.and_eq_true, Bool.and_eq_true, decide_eq_true_eq, Bool.not_eq_true'] at hl
  obtain ⟨⟨h1, h2⟩, h3⟩ := hl
  obtain ⟨a1, a2, a3, a4, a5⟩ := tgI_ok k ti
  refine ⟨fun pins s σ H D I ⟨S, G, R, q⟩ => ?_⟩
  refine (ps_setLc k.calm k.nd a1 (by rw [k.sc]; exact h1) (sw_true I.ok.kind (by rw [k.sc]; exact h1) h2 h3) hi (lc_blk k lc) (fun s H C cl fp => pg_tg (k.blk s H scope C cl fp) tg) ht he (hs := fun x => by cases it <;> first | rfl | (cases fo; done))).run pins s σ H D I ?_
  exact lc_read (lc_io k.io lc) (set_read k ti I.len R q)
theorem stow_rv {v v' : SV} {x : V} (R0 : Rel B S0 σ G00 H0) (s : Stp S0 σ G00 H0 S G H) (R : Rel B S σ G H) (v1 : RV B S σ G H0 H v x) (e : stow S v = .ok v' S2) :
    ∃ G2, Rel B S2 σ G2 H ∧ Stp S0 σ G00 H0 S2 G2 H ∧ Ex G G2 ∧ RV B S2 σ G2 H0 H v' x ∧ (∀ i, v' ≠ .bor i) ∧ (∀ ds, v' = .own ds → v = .own ds) ∧ ∀ w y, RV B S σ G H0 H w y → RV B S2 σ G2 H0 H w y := by
  cases v with
  | own xs =>
    cases e
    exact ⟨G, R, s, Ex.refl, v1, fun i z => (by cases z), fun ds z => z, fun w y h => h⟩
  | exc c fs =>
    cases e
    exact ⟨G, R, s, Ex.refl, v1, fun i z => (by cases z), fun ds z => (by cases z), fun w y h => h⟩
  | thk a b d => cases e
  | dat d =>
    obtain ⟨d', S3, e1, e2⟩ := O.bind_ok (show (settle S (.dat d)).bind (fun d S1 => O.ok (SV.dat d) S1) = .ok v' S2 from e)
    cases e2
    obtain ⟨G2, R2, s2, rp, b⟩ := settle_ok R0 s R v1 e1
    exact ⟨G2, R2, s2, b.ext, rp, fun i z => (by cases z), fun ds z => (by cases z), fun w y h => h.beside b fun ds es z => (by cases z)⟩
  | bor i =>
    obtain ⟨d', S3, e1, e2⟩ := O.bind_ok (show (settle S (.bor i)).bind (fun d S1 => O.ok (SV.dat d) S1) = .ok v' S2 from e)
    cases e2
    obtain ⟨G2, R2, s2, rp, b⟩ := settle_ok R0 s R v1 e1
    exact ⟨G2, R2, s2, b.ext, rp, fun i z => (by cases z), fun ds z => (by cases z), fun w y h => h.beside b fun ds es z => (by cases z)⟩
theorem stowAll_nox {k : Str} {fs : Fs} {S1 : Sl} : ∀ {vs : List SV} {S : Sl}, stowAll vs S ≠ .exc k fs S1
  | [], S => by intro h; cases h
  | v :: vs, S => by
    intro h
    have h : (stow S v).bind (fun d S1 => (stowAll vs S1).bind fun ds S2 => O.ok (d :: ds) S2) = _ := h
    cases e : stow S v with
    | exc k fs S1 => exact stow_nox e
    | bad => rw [e] at h; cases h
    | ok d S2 =>
      rw [e] at h
      have h : (stowAll vs S2).bind (fun ds S2 => O.ok (d :: ds) S2) = _ := h
      cases e2 : stowAll vs S2 with
      | exc k fs S1 => exact stowAll_nox e2
      | bad => rw [e2] at h; cases h
      | ok ds S3 => rw [e2] at h; cases h
theorem rv_at {v : SV} {x : V} (R0 : Rel B S0 σ G00 H0) (h : RV B S σ G H0 H v x) (n : ∀ i, v ≠ .bor i) : At B G H v x ∧ ∀ ds p, v = .own ds → x = .ref p → ¬ Ow S σ p := by
  cases v with
  | own xs =>
    obtain ⟨p, ys, rfl, h1, h2, h3, h4, h5⟩ := h
    exact ⟨⟨p, ys, rfl, h3, R0.bnone h1, h4, h5⟩, fun ds q _ z => by cases z; exact h2⟩
  | bor i => exact absurd rfl (n i)
  | dat d => exact ⟨h, fun ds q z _ => by cases z⟩
  | exc c fs => exact ⟨h, fun ds q z _ => by cases z⟩
  | thk a b d => exact ⟨h, fun ds q z _ => by cases z⟩
theorem par_swap {x y : Str} {px py : Pos} {a b : Expr} {k1 k2 : Nat} {p1 p2 : Pos} (sc : X.env.scope = c.sc) (kd : X.env.scope.kind = .function) (h : parOk c x y px py a b = true) :
    swappedStores [.Tuple [.Name x px, .Name y py] k1 p1] (.Tuple [a, b] k2 p2) X.env = pure (some [x, y]) := by
  unfold parOk at h
  simp only [Bool.and_eq_true, decide_eq_true_eq, Bool.not_eq_true'] at h
  obtain ⟨⟨⟨⟨⟨⟨h1, h2⟩, h3⟩, h4⟩, h5⟩, h6⟩, h7⟩ := h
  have bk : (X.env.blockKind != .function) = false := by unfold Env.blockKind; rw [kd]; rfl
  have kx : X.env.kindOf x = some .local := by unfold Env.kindOf; rw [sc]; exact h1
  have ky : X.env.kindOf y = some .local := by unfold Env.kindOf; rw [sc]; exact h2
  have st : ([a, b].any fun | .Starred .. => true | _ => false) = false := by
    cases a <;> cases b <;> first | rfl | (cases h5; done)
  have nd : [x, y].eraseDups.length = 2 := by
    have h4' : (y == x) = false := by
      cases q : y == x with
      | false => rfl
      | true => rw [beq_iff_eq.mp q, beq_self_eq_true] at h4; cases h4
    simp [List.eraseDups_cons, h4']
  have ln : (py.line == px.line) = true := h3
  unfold swappedStores
  simp only [List.length_cons, List.length_nil, List.head?_cons, Option.map_some, Option.getD_some, List.filterMap_cons, List.filterMap_nil, kx, ky, bk, st, ln, h6, h7, beq_self_eq_true, Bool.and_self, Bool.and_true, Bool.true_and, if_true, Expr.pos]
  simp [nd, bk, st, h6, h7]
  intro hh
  simp only [List.any_cons, List.any_nil, Bool.or_false, Bool.or_eq_false_iff] at st
  rcases hh with z | z
  · exact absurd (st.1.symm.trans z) (by decide)
  · exact absurd (st.2.symm.trans z) (by decide)
theorem s_par {x y : Str} {px py : Pos} {a b : Expr} {k1 k2 : Nat} {p1 p2 : Pos} {i j : Nat} (k : Nm X c B) (kd : X.env.scope.kind = .function) (hx : tgI c x = some i) (hy : tgI c y = some j) (h : parOk c x y px py a b = true) (ha : PA X [a, b] (tA B W ga)) :
    PS X (.Assign [.Tuple [.Name x px, .Name y py] k1 p1] (.Tuple [a, b] k2 p2) pos) (tS B W fun S => ((ga S).bind fun vs S1 => stowAll vs S1).st (setB c x y)) := by
  have sw := par_swap (k1 := k1) (k2 := k2) (p1 := p1) (p2 := p2) k.sc kd h
  unfold parOk at h
  simp only [Bool.and_eq_true, decide_eq_true_eq, Bool.not_eq_true'] at h
  obtain ⟨⟨⟨⟨⟨⟨h1, h2⟩, h3⟩, h4⟩, h5⟩, h6⟩, h7⟩ := h
  obtain ⟨a1, a2, a3, a4, a5⟩ := tgI_ok k hx
  obtain ⟨b1, b2, b3, b4, b5⟩ := tgI_ok k hy
  have ij : i ≠ j := fun z => by
    subst z
    rw [a1] at b1
    cases b1
    simp at h4
  refine PS.impL (ps_par k.calm k.nd a1 b1 ij (by rw [k.sc]; exact h1) (by rw [k.sc]; exact h2) ha sw) fun D σ H ln ⟨S, G, R, q⟩ => ?_
  refine ⟨S, G, R, ?_⟩
  have q : SK B W D G (((ga S).bind fun vs S1 => stowAll vs S1).st (setB c x y)) := q
  cases e1 : ga S with
  | exc kk fs S1 =>
    rw [e1] at q
    exact fun C d vs G' H' R' z m x y => q C d vs σ G' H' R' z m x y
  | bad => rw [e1] at q; exact q.elim
  | ok vs S1 =>
    rw [e1] at q
    have q : SK B W D G ((stowAll vs S1).st (setB c x y)) := q
    intro ys G1 H1 R1 s1 v1
    cases e2 : stowAll vs S1 with
    | bad => rw [e2] at q; exact q.elim
    | exc kk fs S2 => exact absurd e2 stowAll_nox
    | ok ws S2 =>
      rw [e2] at q
      have q : SK B W D G (setB c x y ws S2) := q
      match vs, e2, v1 with
      | [], e2, v1 => cases e2; exact q.elim
      | [v], e2, v1 =>
        obtain ⟨v', S3, f1, f2⟩ := O.bind_ok (show (stow S1 v).bind (fun d S1 => (stowAll [] S1).bind fun ds S2 => O.ok (d :: ds) S2) = .ok ws S2 from e2)
        cases f2
        exact q.elim
      | v :: w :: u :: us, e2, v1 =>
        obtain ⟨v', S3, f1, f2⟩ := O.bind_ok (show (stow S1 v).bind (fun d S1 => (stowAll (w :: u :: us) S1).bind fun ds S2 => O.ok (d :: ds) S2) = .ok ws S2 from e2)
        obtain ⟨ds, S4, g1, g2⟩ := O.bind_ok f2
        cases g2
        obtain ⟨w', S5, f1, f2⟩ := O.bind_ok (show (stow S3 w).bind (fun d S1 => (stowAll (u :: us) S1).bind fun ds S2 => O.ok (d :: ds) S2) = .ok ds S2 from g1)
        obtain ⟨ds2, S6, g1, g2⟩ := O.bind_ok f2
        cases g2
        obtain ⟨u', S7, f1, f2⟩ := O.bind_ok (show (stow S5 u).bind (fun d S1 => (stowAll us S1).bind fun ds S2 => O.ok (d :: ds) S2) = .ok ds2 S2 from g1)
        obtain ⟨ds3, S8, g1, g2⟩ := O.bind_ok f2
        cases g2
        exact q.elim
      | [v, w], e2, v1 =>
        obtain ⟨v', S3, f1, f2⟩ := O.bind_ok (show (stow S1 v).bind (fun d S1 => (stowAll [w] S1).bind fun ds S2 => O.ok (d :: ds) S2) = .ok ws S2 from e2)
        obtain ⟨ds, S4, g1, g2⟩ := O.bind_ok f2
        cases g2
        obtain ⟨w', S5, f3, f4⟩ := O.bind_ok (show (stow S3 w).bind (fun d S1 => (stowAll [] S1).bind fun ds S2 => O.ok (d :: ds) S2) = .ok ds S2 from g1)
        cases f4
        cases v1 with
        | cons rv rr dj =>
          cases rr with
          | cons rw_ rn dj2 =>
            cases rn
            rename_i y1 y2
            obtain ⟨G3, R3, s3, eg3, rv3, nb, no, cy⟩ := stow_rv R s1 R1 rv f1
            obtain ⟨G4, R4, s4, eg4, rv4, nb4, no4, cy4⟩ := stow_rv R s3 R3 (cy _ _ rw_) f3
            have rv5 := cy4 _ _ rv3
            obtain ⟨at1, ow1⟩ := rv_at R rv5 nb
            obtain ⟨at2, ow2⟩ := rv_at R rv4 nb4
            refine ⟨y1, y2, rfl, ?_⟩
            unfold setB at q
            dsimp only at q
            split at q
            · rename_i S9 e9
              cases e8 : setN c x v' S2 with
              | none => rw [e8] at e9; cases e9
              | some S8 =>
                rw [e8] at e9
                obtain ⟨i', g1, rfl⟩ := setN_tg e8
                rw [hx] at g1
                cases g1
                obtain ⟨j', g2, rfl⟩ := setN_tg (show setN c y w' (put S2 i v') = some S9 from e9)
                rw [hy] at g2
                cases g2
                have lt : i < S2.length := by rw [R4.len, ln, k.N]; exact ix_lt a4
                have lt2 : j < (put S2 i v').length := by unfold put; rw [List.length_set, R4.len, ln, k.N]; exact ix_lt b4
                have P1 := R4.put lt a5 at1 fun ds p z1 z2 j nj es z3 z4 => ow1 ds p z1 z2 ⟨j, es, z3, z4⟩
                have P2 := P1.put lt2 b5 at2 fun ds p z1 z2 l nl es z3 z4 => by
                  rcases put_g2 z3 with ⟨rfl, z5⟩ | ⟨ne, z3⟩
                  · rw [List.getElem?_set_self (by rw [← R4.len]; exact lt)] at z4
                    have z4' : y1 = .ref p := by simpa using z4
                    exact dj es ds w y2 (no es z5.symm) (no4 ds z1) (by simp) (z2.trans z4'.symm)
                  · rw [List.getElem?_set_ne ne] at z4
                    exact ow2 ds p z1 z2 ⟨l, es, z3, z4⟩
                exact q _ G4 H1 P2 ((s1.ext.tr eg3).tr eg4)
            · exact q.elim
theorem noStar_any : ∀ {es : List Expr}, noStar es = true → (es.any fun | .Starred .. => true | _ => false) = false
  | [], _ => rfl
  | e :: r, h => by
    rw [List.any_cons]
    cases e <;> first | (cases h; done) | (rw [noStar_any (es := r) h]; rfl)
theorem par3_swap {x y z : Str} {px py pz : Pos} {a b d : Expr} {k1 k2 : Nat} {p1 p2 : Pos} (sc : X.env.scope = c.sc) (kd : X.env.scope.kind = .function) (h : par3Ok c x y z px py pz a b d = true) :
    swappedStores [.Tuple [.Name x px, .Name y py, .Name z pz] k1 p1] (.Tuple [a, b, d] k2 p2) X.env = pure (some [x, y, z]) := by
  unfold par3Ok at h
  simp only [Bool.and_eq_true, decide_eq_true_eq, Bool.not_eq_true'] at h
  obtain ⟨⟨⟨⟨⟨⟨⟨⟨⟨⟨h1, h2⟩, h3⟩, l1⟩, l2⟩, n1⟩, n2⟩, n3⟩, h5⟩, h6⟩, h7⟩ := h
  have bk : (X.env.blockKind != .function) = false := by unfold Env.blockKind; rw [kd]; rfl
  have kx : X.env.kindOf x = some .local := by unfold Env.kindOf; rw [sc]; exact h1
  have ky : X.env.kindOf y = some .local := by unfold Env.kindOf; rw [sc]; exact h2
  have kz : X.env.kindOf z = some .local := by unfold Env.kindOf; rw [sc]; exact h3
  have st : ([a, b, d].any fun | .Starred .. => true | _ => false) = false := by
    exact noStar_any h5
  have bsym : ∀ {u v : Str}, (u == v) = false → (v == u) = false := fun {u v} e => by
    cases q : v == u with
    | false => rfl
    | true => rw [beq_iff_eq.mp q, beq_self_eq_true] at e; cases e
  have nd : [x, y, z].eraseDups.length = 3 := by
    simp [List.eraseDups_cons, bsym n1, bsym n2, bsym n3]
  unfold swappedStores
  simp only [List.length_cons, List.length_nil, List.head?_cons, Option.map_some, Option.getD_some, List.filterMap_cons, List.filterMap_nil, kx, ky, kz, bk, st, l1, l2, h6, h7, beq_self_eq_true, Bool.and_self, Bool.and_true, Bool.true_and, if_true, Expr.pos]
  simp [nd, bk, st, h6, h7]
  intro hh
  simp only [List.any_cons, List.any_nil, Bool.or_false, Bool.or_eq_false_iff] at st
  rcases hh with z | z | z
  · exact absurd (st.1.symm.trans z) (by decide)
  · exact absurd (st.2.1.symm.trans z) (by decide)
  · exact absurd (st.2.2.symm.trans z) (by decide)
theorem stowAll_3 {vs ws : List SV} {S S2 : Sl} (e : stowAll vs S = .ok ws S2) (hl : ws.length = 3) : ∃ v1 v2 v3 w1 w2 w3 Sa Sb, vs = [v1, v2, v3] ∧ ws = [w1, w2, w3] ∧ stow S v1 = .ok w1 Sa ∧ stow Sa v2 = .ok w2 Sb ∧ stow Sb v3 = .ok w3 S2 := by
  match vs, e with
  | [], e => cases e; cases hl
  | v1 :: vs, e =>
    obtain ⟨w1, Sa, f1, e⟩ := O.bind_ok (show (stow S v1).bind (fun d S1 => (stowAll vs S1).bind fun ds S2 => O.ok (d :: ds) S2) = .ok ws S2 from e)
    obtain ⟨ws1, S1, g1, e⟩ := O.bind_ok e
    cases e
    match vs, g1 with
    | [], g1 => cases g1; cases hl
    | v2 :: vs, g1 =>
      obtain ⟨w2, Sb, f2, e⟩ := O.bind_ok (show (stow Sa v2).bind (fun d S1 => (stowAll vs S1).bind fun ds S2 => O.ok (d :: ds) S2) = .ok ws1 _ from g1)
      obtain ⟨ws2, S3, g2, e⟩ := O.bind_ok e
      cases e
      match vs, g2 with
      | [], g2 => cases g2; cases hl
      | v3 :: vs, g2 =>
        obtain ⟨w3, Sc, f3, e⟩ := O.bind_ok (show (stow Sb v3).bind (fun d S1 => (stowAll vs S1).bind fun ds S2 => O.ok (d :: ds) S2) = .ok ws2 _ from g2)
        obtain ⟨ws3, S4, g3, e⟩ := O.bind_ok e
        cases e
        match vs, g3 with
        | [], g3 => cases g3; exact ⟨v1, v2, v3, w1, w2, w3, Sa, Sb, rfl, rfl, f1, f2, f3⟩
        | v4 :: vs, g3 =>
          obtain ⟨w4, Sd, f4, e⟩ := O.bind_ok (show (stow Sc v4).bind (fun d S1 => (stowAll vs S1).bind fun ds S2 => O.ok (d :: ds) S2) = .ok ws3 _ from g3)
          obtain ⟨ws4, S5, g4, e⟩ := O.bind_ok e
          cases e
          simp at hl
theorem setB3_len {x y z : Str} {ws : List SV} {S : Sl} {o : Fl} (h : setB3 c x y z ws S = o) (hb : o ≠ .bad) : ws.length = 3 := by
  unfold setB3 at h
  split at h
  · rfl
  · exact absurd h.symm hb
theorem s_par3 {x y z : Str} {px py pz : Pos} {a b d : Expr} {k1 k2 : Nat} {p1 p2 : Pos} {i j l : Nat} (k : Nm X c B) (kd : X.env.scope.kind = .function) (hx : tgI c x = some i) (hy : tgI c y = some j) (hz : tgI c z = some l) (h : par3Ok c x y z px py pz a b d = true) (ha : PA X [a, b, d] (tA B W ga)) :
    PS X (.Assign [.Tuple [.Name x px, .Name y py, .Name z pz] k1 p1] (.Tuple [a, b, d] k2 p2) pos) (tS B W fun S => ((ga S).bind fun vs S1 => stowAll vs S1).st (setB3 c x y z)) := by
  have sw := par3_swap (k1 := k1) (k2 := k2) (p1 := p1) (p2 := p2) k.sc kd h
  unfold par3Ok at h
  simp only [Bool.and_eq_true, decide_eq_true_eq, Bool.not_eq_true'] at h
  obtain ⟨⟨⟨⟨⟨⟨⟨⟨⟨⟨h1, h2⟩, h3⟩, l1⟩, l2⟩, n1⟩, n2⟩, n3⟩, h5⟩, h6⟩, h7⟩ := h
  obtain ⟨a1, a2, a3, a4, a5⟩ := tgI_ok k hx
  obtain ⟨b1, b2, b3, b4, b5⟩ := tgI_ok k hy
  obtain ⟨c1, c2, c3, c4, c5⟩ := tgI_ok k hz
  have ij : i ≠ j := fun e => by subst e; rw [a1] at b1; cases b1; simp at n1
  have il : i ≠ l := fun e => by subst e; rw [a1] at c1; cases c1; simp at n2
  have jl : j ≠ l := fun e => by subst e; rw [b1] at c1; cases c1; simp at n3
  refine PS.impL (ps_par3 k.calm k.nd a1 b1 c1 ij il jl (by rw [k.sc]; exact h1) (by rw [k.sc]; exact h2) (by rw [k.sc]; exact h3) ha sw) fun D σ H ln ⟨S, G, R, q⟩ => ?_
  refine ⟨S, G, R, ?_⟩
  have q : SK B W D G (((ga S).bind fun vs S1 => stowAll vs S1).st (setB3 c x y z)) := q
  cases e1 : ga S with
  | exc kk fs S1 =>
    rw [e1] at q
    exact fun C d vs G' H' R' z m x y => q C d vs σ G' H' R' z m x y
  | bad => rw [e1] at q; exact q.elim
  | ok vs S1 =>
    rw [e1] at q
    have q : SK B W D G ((stowAll vs S1).st (setB3 c x y z)) := q
    intro ys G1 H1 R1 s1 v1
    cases e2 : stowAll vs S1 with
    | bad => rw [e2] at q; exact q.elim
    | exc kk fs S2 => exact absurd e2 stowAll_nox
    | ok ws S2 =>
      rw [e2] at q
      have q : SK B W D G (setB3 c x y z ws S2) := q
      have hl : ws.length = 3 := by
        cases e3 : setB3 c x y z ws S2 with
        | bad => rw [e3] at q; exact q.elim
        | _ => exact setB3_len e3 (by intro z; cases z)
      obtain ⟨u1, u2, u3, w1, w2, w3, Sa, Sb, rfl, rfl, f1, f2, f3⟩ := stowAll_3 e2 hl
      cases v1 with
      | cons rv1 rr dj1 =>
        cases rr with
        | cons rv2 rr dj2 =>
          cases rr with
          | cons rv3 rr dj3 =>
            cases rr
            rename_i y1 y2 y3
            obtain ⟨Ga, Ra, sa, ega, ra1, nb1, no1, cy1⟩ := stow_rv R s1 R1 rv1 f1
            obtain ⟨Gb, Rb, sb, egb, rb2, nb2, no2, cy2⟩ := stow_rv R sa Ra (cy1 _ _ rv2) f2
            obtain ⟨Gc, Rc, sc, egc, rc3, nb3, no3, cy3⟩ := stow_rv R sb Rb (cy2 _ _ (cy1 _ _ rv3)) f3
            obtain ⟨at1, ow1⟩ := rv_at R (cy3 _ _ (cy2 _ _ ra1)) nb1
            obtain ⟨at2, ow2⟩ := rv_at R (cy3 _ _ rb2) nb2
            obtain ⟨at3, ow3⟩ := rv_at R rc3 nb3
            refine ⟨y1, y2, y3, rfl, ?_⟩
            unfold setB3 at q
            dsimp only at q
            split at q
            · rename_i S9 e9
              cases e8 : setN c x w1 S2 with
              | none => rw [e8] at e9; cases e9
              | some S8 =>
                rw [e8] at e9
                have e9 : (setN c y w2 S8).bind (setN c z w3) = some S9 := e9
                cases e7 : setN c y w2 S8 with
                | none => rw [e7] at e9; cases e9
                | some S7 =>
                rw [e7] at e9
                obtain ⟨i', g1, rfl⟩ := setN_tg e8
                rw [hx] at g1
                cases g1
                obtain ⟨j', g2, rfl⟩ := setN_tg e7
                rw [hy] at g2
                cases g2
                obtain ⟨l', g3, rfl⟩ := setN_tg (show setN c z w3 (put (put S2 i w1) j w2) = some S9 from e9)
                rw [hz] at g3
                cases g3
                have ls : σ.length = S2.length := Rc.len.symm
                have lt : i < S2.length := by rw [Rc.len, ln, k.N]; exact ix_lt a4
                have lt2 : j < (put S2 i w1).length := by unfold put; rw [List.length_set, Rc.len, ln, k.N]; exact ix_lt b4
                have lt3 : l < (put (put S2 i w1) j w2).length := by unfold put; rw [List.length_set, List.length_set, Rc.len, ln, k.N]; exact ix_lt c4
                have P1 := Rc.put lt a5 at1 fun ds p z1 z2 j nj es z3 z4 => ow1 ds p z1 z2 ⟨j, es, z3, z4⟩
                have P2 := P1.put lt2 b5 at2 fun ds p z1 z2 l nl es z3 z4 => by
                  rcases put_g2 z3 with ⟨rfl, z5⟩ | ⟨ne, z3⟩
                  · rw [List.getElem?_set_self (by rw [ls]; exact lt)] at z4
                    have z4' : y1 = .ref p := by simpa using z4
                    exact dj1 es ds u2 y2 (no1 es z5.symm) (no2 ds z1) (by simp) (z2.trans z4'.symm)
                  · rw [List.getElem?_set_ne ne] at z4
                    exact ow2 ds p z1 z2 ⟨l, es, z3, z4⟩
                have P3 := P2.put lt3 c5 at3 fun ds p z1 z2 m nm es z3 z4 => by
                  rcases put_g2 z3 with ⟨rfl, z5⟩ | ⟨ne, z3⟩
                  · rw [List.getElem?_set_self (by rw [List.length_set, ls]; unfold put at lt2; rw [List.length_set] at lt2; exact lt2)] at z4
                    have z4' : y2 = .ref p := by simpa using z4
                    exact dj2 es ds u3 y3 (no2 es z5.symm) (no3 ds z1) (by simp) (z2.trans z4'.symm)
                  · rw [List.getElem?_set_ne ne] at z4
                    rcases put_g2 z3 with ⟨rfl, z5⟩ | ⟨ne2, z3⟩
                    · rw [List.getElem?_set_self (by rw [ls]; exact lt)] at z4
                      have z4' : y1 = .ref p := by simpa using z4
                      exact dj1 es ds u3 y3 (no1 es z5.symm) (no3 ds z1) (by simp) (z2.trans z4'.symm)
                    · rw [List.getElem?_set_ne ne2] at z4
                      exact ow3 ds p z1 z2 ⟨m, es, z3, z4⟩
                exact q _ Gc H1 P3 (((s1.ext.tr ega).tr egb).tr egc)
            · exact q.elim
theorem s_augI {x : Str} {px : Pos} {op : Operator} {i : Nat} {g : Int → Int → Int} (k : Nm X c B) (ti : tgI c x = some i) (he : PE X e (tE B W f)) (ip : PIp X op (ipI g)) (ho : augOk op = true) (hg : ∀ a b, augI op a b = some (g a b)) : PS X (.AugAssign (.Name x px) op e pos) (tS B W (augN i op f)) := by
  obtain ⟨a1, a2, a3, a4, a5⟩ := tgI_ok k ti
  refine PS.impL (ps_aug k.nd a1 a2 he ip (hf := a3)) fun D σ H ln ⟨S, G, R, q⟩ => ?_
  have q : SK B W D G (augN i op f S) := q
  unfold augN at q
  rw [if_pos ho] at q
  split at q
  · rename_i a h0
    obtain ⟨y, h1, at1⟩ := R.at_ i _ h0
    have ey : y = .int a := Rp.int_iff at1
    subst ey
    refine ⟨_, h1, ?_⟩
    refine tE.st R q fun v S1 y G1 H1 R1 s1 v1 q1 => ?_
    split at q1
    · rename_i b
      have ey : y = .int b := Rp.int_iff v1
      subst ey
      rw [hg a b] at q1
      have lt : i < S1.length := by rw [R1.len, ln, k.N]; exact ix_lt a4
      refine ⟨a, b, rfl, rfl, ?_⟩
      exact q1 _ G1 H1 (R1.put lt a5 (show At B G1 H1 (.dat (.int (g a b))) (.int (g a b)) from .int _) fun ds p z1 _ _ _ _ _ _ => by cases z1) Ex.refl
    · exact q1.elim
  · exact q.elim
theorem mulOk_fits {i j : Int} (h : mulOk i j = true) : IntMulOk i j := by
  unfold mulOk at h
  simp only [Bool.or_eq_true, decide_eq_true_eq] at h
  rcases h with (h | h) | h
  · exact CMul.ok (.inl (by omega))
  · exact CMul.ok (.inr (by omega))
  · exact CMulW.ok h
def ipM : TIp := fun x y H Q => ∃ i j, x = .int i ∧ y = .int j ∧ mulOk i j = true ∧ Q (.int (i * j)) H
theorem ip_mulG : PIp X .Mult ipM := by
  intro pins s σ H x y v u Q I r1 r2 ⟨i, j, e1, e2, hm, q⟩
  subst e1 e2
  obtain ⟨t, rfl⟩ := r1
  obtain ⟨t', rfl⟩ := r2
  exact imul_int ⟨.int _, H, I.tok _, ⟨_, rfl⟩, q⟩ (mulOk_fits hm)
theorem s_augM {x : Str} {px : Pos} {i : Nat} (k : Nm X c B) (ti : tgI c x = some i) (he : PE X e (tE B W f)) : PS X (.AugAssign (.Name x px) .Mult e pos) (tS B W (augN i .Mult f)) := by
  obtain ⟨a1, a2, a3, a4, a5⟩ := tgI_ok k ti
  refine PS.impL (ps_aug k.nd a1 a2 he ip_mulG (hf := a3)) fun D σ H ln ⟨S, G, R, q⟩ => ?_
  have q : SK B W D G (augN i .Mult f S) := q
  unfold augN at q
  rw [if_pos (show augOk .Mult = true from rfl)] at q
  split at q
  case h_2 => exact q.elim
  rename_i a h0
  obtain ⟨y, h1, at1⟩ := R.at_ i _ h0
  obtain rfl : y = .int a := Rp.int_iff at1
  refine ⟨_, h1, tE.st R q fun v S1 y G1 H1 R1 s1 v1 q1 => ?_⟩
  split at q1
  case h_2 => exact q1.elim
  rename_i b
  obtain rfl : y = .int b := Rp.int_iff v1
  by_cases hm : mulOk a b = true
  · rw [show augI .Mult a b = some (a * b) from if_pos hm] at q1
    have lt : i < S1.length := by rw [R1.len, ln, k.N]; exact ix_lt a4
    exact ⟨a, b, rfl, rfl, hm, q1 _ G1 H1 (R1.put lt a5 (show At B G1 H1 (.dat (.int (a * b))) (.int (a * b)) from .int _) fun ds p z1 _ _ _ _ _ _ => by cases z1) Ex.refl⟩
  · rw [show augI .Mult a b = none from if_neg hm] at q1
    exact q1.elim
theorem s_aug {x : Str} {px : Pos} {op : Operator} {i : Nat} (k : Nm X c B) (ti : tgI c x = some i) (he : PE X e (tE B W f)) : PS X (.AugAssign (.Name x px) op e pos) (tS B W (augN i op f)) := by
  cases op
  case Add => exact s_augI k ti he ip_add rfl fun _ _ => rfl
  case Sub => exact s_augI k ti he ip_sub rfl fun _ _ => rfl
  case Mult => exact s_augM k ti he
  all_goals exact PS.bad
def notTup : Expr → Bool
  | .Tuple _ _ _ => false
  | _ => true
theorem notTup_sw {es : List Expr} {kk : Nat} {env : Env} (h : notTup e = true) : swappedStores [.Tuple es kk p] e env = pure none := by cases e <;> first | rfl | (cases h; done)
def nmF (env : Env) (line : Nat) : Expr → Option Str
  | .Name id pos => if env.kindOf id == some .local && pos.line == line then some id else none
  | _ => none
theorem fm_lt {env : Env} {line : Nat} : ∀ {es : List Expr}, (es.any fun e => match e with
    | .Name x _ => !decide (c.sc.names.lookup x = some .local)
    | _ => true) = true → env.scope = c.sc → (es.filterMap (nmF env line)).length < es.length
  | [], h, _ => by cases h
  | e :: r, h, sc => by
    rw [List.any_cons, Bool.or_eq_true] at h
    rw [List.length_cons]
    rcases h with h | h
    · have q : nmF env line e = none := by
        cases e <;> try rfl
        rename_i x px
        have e1 : env.kindOf x = c.sc.names.lookup x := by unfold Env.kindOf; rw [sc]
        simp only [Bool.not_eq_true', decide_eq_false_iff_not] at h
        show (if (env.kindOf x == some .local && px.line == line) = true then some x else none) = none
        rw [e1, if_neg]
        simp [h]
      rw [List.filterMap_cons_none q]
      exact Nat.lt_succ_of_le (List.length_filterMap_le (nmF env line) r)
    · refine Nat.lt_of_le_of_lt ?_ (Nat.succ_lt_succ (fm_lt h sc (line := line)))
      cases q : nmF env line e with
      | none => rw [List.filterMap_cons_none q]; exact Nat.le_succ _
      | some b => rw [List.filterMap_cons_some q, List.length_cons]; exact Nat.le_refl _
theorem no_swap {es as : List Expr} {k1 k2 : Nat} {p1 p2 : Pos} {env : Env} (sc : env.scope = c.sc) (h : noSwp c es as = true) : swappedStores [.Tuple es k1 p1] (.Tuple as k2 p2) env = pure none := by
  unfold noSwp at h
  rw [Bool.or_eq_true] at h
  have hb : ∀ n : List Str, n.length < es.length → (n.length != es.length || n.eraseDups.length != n.length) = true := fun n l => by
    rw [bne_iff_ne.mpr (Nat.ne_of_lt l)]; rfl
  unfold swappedStores
  dsimp only
  split
  · rfl
  split
  · rfl
  split
  · rfl
  rename_i h3
  rcases h with h | h
  · have hn : ∀ f : Expr → Option Str, (∀ e, f e = nmF env ((es.head?.map (·.pos.line)).getD 0) e) → (es.filterMap f).length < es.length := fun f hf => by rw [funext hf]; exact fm_lt h sc
    exact (h3 (hb _ (hn _ fun e => by cases e <;> rfl))).elim
  · rw [if_pos h]
/-- a, b = value -/
theorem s_tupv {es : List Expr} {kk : Nat} (k : Nm X c B) (hn2 : swappedStores [.Tuple es kk p] e X.env = pure none) (he : PE X e (tE B W f)) : PS X (.Assign [.Tuple es kk p] e pos) (tS B W fun S => (f S).st fun v S1 => (settle S1 v).st (setD c (.Tuple es kk p))) := by
  refine PS.imp (ps_asg he (pg_tg k (.Tuple es kk p)) (hs := by cases e <;> rfl) (hw := hn2)) fun D σ H ⟨S, G, R, q⟩ => ?_
  refine tE.st R q fun v S1 x G1 H1 R1 s1 v1 q1 => ?_
  cases e2 : settle S1 v with
  | exc kk fs S2 => exact absurd e2 settle_nox
  | bad => rw [e2] at q1; exact q1.elim
  | ok d S2 =>
    rw [e2] at q1
    have q1 : SK B W D G1 (setD c (.Tuple es kk p) d S2) := q1
    obtain ⟨G2, R2, s2, rp, b⟩ := settle_ok R s1 R1 v1 e2
    unfold setD at q1
    split at q1
    · rename_i S3 e3
      exact ⟨S2, G2, d, S3, R2, rp, e3, fun σ2 R3 _ _ => q1 σ2 G2 H1 R3 b.ext⟩
    · exact q1.elim
/-- x[i] = e -/
theorem s_sub {x : Str} {i : Expr} {px pi : Pos} {fi : Sl → O SV} {j : Nat} (k : Nm X c B) (hj : slot c x = some j) (hn : notComp e = true) (hx : plainIx i = true) (he : PE X e (tE B W f)) (hi : PE X i (tE B W fi)) :
    PS X (.Assign [.Subscript (.Name x px) i pi] e pos) (tS B W fun S => (f S).st fun v S1 => (settle S1 v).st fun d S2 => own1 c x S2 ((fi S2).st (setI c x d))) := by
  have hj' := hj
  unfold slot at hj
  split at hj
  case isFalse => cases hj
  rename_i hv
  have hN : X.N[j]? = some x := by rw [k.N]; exact lookup_idx hj
  have hm : x ∈ c.N := by rw [← k.N]; exact List.mem_of_getElem? hN
  refine PS.imp (ps_asg he (pg_sub (pe_var hN (vis_ok k.sc hv) (k.okN x hm).1 (k.okN x hm).2) hi set_list (ha := fun v => by cases i <;> first | rfl | (cases hx; done))) (hs := by cases e <;> first | rfl | (cases hn; done)) (hw := by cases e <;> rfl)) fun D σ H ⟨S, G, R, q⟩ => ?_
  refine tE.st R q fun v S1 y G1 H1 R1 s1 v1 q1 => ?_
  cases e2 : settle S1 v with
  | exc kk fs S2 => exact absurd e2 settle_nox
  | bad => rw [e2] at q1; exact q1.elim
  | ok d S2 =>
    rw [e2] at q1
    have q1 : SK B W D G1 (own1 c x S2 ((fi S2).st (setI c x d))) := q1
    obtain ⟨G2, R2, s2, rp, b⟩ := settle_ok R s1 R1 v1 e2
    unfold own1 at q1
    rw [hj'] at q1
    dsimp only at q1
    split at q1
    · rename_i us e0
      obtain ⟨z, w1, pp, zs, rfl, w2, w3, w4, w5⟩ := R2.at_ j _ e0
      refine ⟨.ref pp, w1, tE.st R2 (q1.ext b.ext) fun iv S3 zi G3 H3 R3 s3 v3 q3 => ?_⟩
      unfold setI at q3
      rw [hj'] at q3
      split at q3
      · rename_i jj kk e5 e6
        cases e5
        split at q3
        · rename_i ds e7
          split at q3
          · rename_i l e8
            obtain ⟨ys, y1, y2⟩ := ow_slot R3 e7 w1
            obtain ⟨R4, _⟩ := R3.write e7 w1 (y2.set (rp.mono s3.ext) l)
            exact ⟨pp, ys, kk, l, rfl, v3.cint R3 e6, y1, by rw [y2.length]; exact e8, q3 σ G3 _ R4 Ex.refl⟩
          · exact q3.elim
        · exact q3.elim
      · exact q3.elim
    · exact q1.elim
def rGetL : V → V → Hp → VK → Prop := fun o i H Q => ∃ p xs k j v, o = .ref p ∧ i = .int k ∧ H p = some (.lst xs) ∧ L2.ixN xs.length k = some j ∧ xs[j]? = some v ∧ Q v H
theorem get_listZ : PGet X rGetL := by
  intro pins s σ H o i ov iv Q I ro ri h
  obtain ⟨p, xs, k, j, v, rfl, rfl, hp, hj, hv, q⟩ := h
  cases ro
  obtain ⟨t, rfl⟩ := ri
  obtain ⟨its, n, r, ho, hz⟩ := I.lst hp
  obtain ⟨h1, h2, h3, h4⟩ := ixN_seq hj
  obtain ⟨w, ew, rw'⟩ := r.get hv
  have hl := r.length
  have hn := line63
  have pl : s.heap.IsList p its.toArray := ⟨_, ho, rfl, n, rfl⟩
  have fin : EP X pins σ Q w s := ⟨v, H, I, rw', q⟩
  by_cases h0 : 0 ≤ k
  · have hk : k.toNat = j := by
      rw [seqIndex_of h0 h4] at h1
      exact Option.some.inj h1
    exact wpAny_getItem_list pl h0 (by omega) (by rw [hk]; simpa using ew) fin
  · have hk : (k + (its.toArray.size : Int)).toNat = j := by
      rw [seqIndex_neg (by omega) h3] at h1
      rw [List.size_toArray, ← hl]
      exact Option.some.inj h1
    exact wpAny_getItem_list_neg pl (by omega) (by rw [List.size_toArray] <;> omega) (by omega) (by rw [hk]; simpa using ew) fin
theorem s_augsI {x : Str} {i : Expr} {px pi : Pos} {op : Operator} {fi : Sl → O SV} {j : Nat} {g : Int → Int → Int} (k : Nm X c B) (hj : slot c x = some j) (hx : plainIx i = true) (he : PE X e (tE B W f)) (hi : PE X i (tE B W fi)) (ip : PIp X op (ipI g)) (ho : augOkS op = true) (hg : ∀ a b, augI op a b = some (g a b)) :
    PS X (.AugAssign (.Subscript (.Name x px) i pi) op e pos) (tS B W (subA j op fi f)) := by
  have hj' := hj
  unfold slot at hj
  split at hj
  case isFalse => cases hj
  rename_i hv
  have hN : X.N[j]? = some x := by rw [k.N]; exact lookup_idx hj
  have hm : x ∈ c.N := by rw [← k.N]; exact List.mem_of_getElem? hN
  refine PS.imp (ps_augS (pe_var hN (vis_ok k.sc hv) (k.okN x hm).1 (k.okN x hm).2) hi get_listZ he ip set_list (ha := fun ov iv new => by cases i <;> first | rfl | (cases hx; done))) fun D σ H ⟨S, G, R, q⟩ => ?_
  have q : SK B W D G (subA j op fi f S) := q
  unfold subA at q
  rw [if_pos ho] at q
  split at q
  · rename_i us e0
    obtain ⟨z, w1, pp, zs, rfl, w2, w3, w4, w5⟩ := R.at_ j _ e0
    refine ⟨.ref pp, w1, tE.st R q fun iv S1 zi G1 H1 R1 s1 v1 q1 => ?_⟩
    split at q1
    · rename_i kk xs e5 e6
      split at q1
      · rename_i a e7
        obtain ⟨ys, y1, y2⟩ := ow_slot R1 e6 w1
        obtain ⟨l, hl1, hl2⟩ := Option.bind_eq_some_iff.mp (show (ixN xs.length kk).bind (fun j => xs[j]?) = some (.int a) from e7)
        obtain ⟨va, e9, ra⟩ := y2.get hl2
        have eva : va = .int a := Rp.int_iff ra
        subst eva
        have ezi := v1.cint R1 e5
        refine ⟨pp, ys, kk, l, .int a, rfl, ezi, y1, by rw [y2.length]; exact hl1, e9, ?_⟩
        refine tE.st R1 q1 fun w S2 zw G2 H2 R2 s2 v2 q2 => ?_
        split at q2
        · rename_i b ys' e10
          have ezw : zw = .int b := Rp.int_iff v2
          subst ezw
          rw [hg a b] at q2
          split at q2
          · rename_i r l2 e11 e12
            cases e11
            refine ⟨a, b, rfl, rfl, ?_⟩
            obtain ⟨zs2, y3, y4⟩ := ow_slot R2 e10 w1
            obtain ⟨R4, _⟩ := R2.write e10 w1 (y4.set (.int (g a b)) l2)
            exact ⟨pp, zs2, kk, l2, rfl, ezi, y3, by rw [y4.length]; exact e12, q2 σ G2 _ R4 Ex.refl⟩
          · exact q2.elim
        · exact q2.elim
      · exact q1.elim
    · exact q1.elim
  · exact q.elim
theorem s_augs {x : Str} {i : Expr} {px pi : Pos} {op : Operator} {fi : Sl → O SV} {j : Nat} (k : Nm X c B) (hj : slot c x = some j) (hx : plainIx i = true) (he : PE X e (tE B W f)) (hi : PE X i (tE B W fi)) : PS X (.AugAssign (.Subscript (.Name x px) i pi) op e pos) (tS B W (subA j op fi f)) := by
  cases op
  case Add => exact s_augsI k hj hx he hi ip_add rfl fun _ _ => rfl
  case Sub => exact s_augsI k hj hx he hi ip_sub rfl fun _ _ => rfl
  all_goals exact PS.bad
end
end Z

set_option maxHeartbeats 2000000
/-! raise of own exceptions whose __init__ says Base.__init__(self, text); self.f = v. -/
namespace Z
open PySem PySem.Spec PyProof.Rows L2
/-! own exceptions over ValueError (false) or RuntimeError (true) -/
def tailN (re : Bool) : List Value := if re then [.type "RuntimeError", .type "Exception", .type "BaseException", .type "object"] else [.type "ValueError", .type "Exception", .type "BaseException", .type "object"]
def newN (re : Bool) : String := if re then "RuntimeError.__new__" else "ValueError.__new__"
def iniN (re : Bool) : String := if re then "RuntimeError.__init__" else "ValueError.__init__"
def nmN (re : Bool) : String := if re then "RuntimeError" else "ValueError"
theorem facB : ∀ re : Bool, ExcBaseFacts (nmN re) (newN re) (iniN re) (tailN re)
  | true => PySem.F.excBase_RuntimeError
  | false => PySem.F.excBase_ValueError
theorem pasB (self : Value) : ∀ re : Bool, PySem.refuseLoop self "__setattr__" (tailN re) = pure ()
  | true => PySem.F.store_RuntimeError.passes self
  | false => PySem.F.store_ValueError.passes self
/-- own classes, then the base's -/
def refsG (re : Bool) : List Value → Bool
  | .ref _ :: r => refsG re r
  | l => l == tailN re
theorem refsG_cases {re : Bool} (l : List Value) (e : refsG re l = true) : (∃ c r, l = .ref c :: r ∧ refsG re r = true) ∨ l = tailN re := by
  cases l with
  | nil => exact .inr (beq_iff_eq.mp e)
  | cons a r => cases a <;> first | exact .inl ⟨_, _, rfl, e⟩ | exact .inr (beq_iff_eq.mp e)
theorem refsG_ind {re : Bool} {M : List Value → Prop} (h0 : M (tailN re)) (h1 : ∀ c r, M r → M (.ref c :: r)) : ∀ l, refsG re l = true → M l
  | [], e => by
    rcases refsG_cases [] e with ⟨c, r, q, _⟩ | q
    · cases q
    · rw [q]; exact h0
  | a :: r, e => by
    rcases refsG_cases (a :: r) e with ⟨c, r', q, h⟩ | q
    · obtain ⟨rfl, rfl⟩ := List.cons.inj q
      exact h1 c r (refsG_ind h0 h1 r h)
    · rw [q]; exact h0
theorem refsG_pass {re : Bool} (self : Value) (l : List Value) (e : refsG re l = true) : PySem.refuseLoop self "__setattr__" l = pure () :=
  refsG_ind (M := fun l => PySem.refuseLoop self "__setattr__" l = pure ()) (pasB self re) (fun c r h => by rw [refuseLoop_ref]; exact h) l e
theorem refsG_has {re : Bool} (Y : String) (l : List Value) (e : refsG re l = true) : l.contains (.type Y) = (tailN re).contains (.type Y) :=
  refsG_ind (M := fun l => l.contains (.type Y) = (tailN re).contains (.type Y)) rfl (fun c r h => by rw [List.contains_cons, h]; rfl) l e
theorem refsG_ne {re : Bool} (l : List Value) (e : refsG re l = true) : l.isEmpty = false :=
  refsG_ind (M := fun l => l.isEmpty = false) (by cases re <;> rfl) (fun _ _ _ => rfl) l e
theorem tail_obj : ∀ re : Bool, (tailN re).contains (.type "object") = true
  | true => by decide +kernel
  | false => by decide +kernel
structure OexG (re : Bool) (K : PySem.W.Frag) (C : Addr) : Prop where
  cls : ∃ nm q N bs bm sn sub ab col dd k0 k1 k2 k3 k5, K.lookup C = some (excClassObj nm q C N bs bm true sn sub ab col dd k0 k1 k2 k3 k5 (newN re)) ∧ refsG re bm = true
  sa : PySem.W.findIn K (.ref C) "__setattr__" = some (some (.builtin "object.__setattr__"))
  exC : PySem.W.subIn K (.ref C) (.type "BaseException") = some true
  tyC : PySem.W.typeIn K (.ref C) = some (.type "type")
  kC : PySem.W.keepIn K (.ref C) = true
/-- the first field of such an exception is stored -/
theorem osaG {prog : Program} {w : World} {A : Around} {R : Result → Shared → Prop} {hp : Heap} {g : Array GenState} {d : Drawn} {t : Nat} {os : OsState} {re : Bool} {K : PySem.W.Frag} {name : Str} {tk : Tok} {v : Value} {x C : Addr} {fv : Array Value} {cd : ClassData}
    (X : K.In hp) (hx : hp.get? x = some { cls := .ref C, data := .fields fv }) (hcd : PySem.W.clsIn K C = some cd) (hm : refsG re cd.mro = true) (hh : cd.hasDict = true) (ha : PySem.W.findIn K (.ref C) name = some none)
    (hq : ∀ h' tk' dx, (∀ b o, b ≠ x → hp.get? b = some o → h'.get? b = some o) → hp.objs.size ≤ dx → dx ≠ x → h'.get? x = some { cls := .ref C, dict := some dx, data := .fields fv } →
      h'.Ns1 dx (fun y => if y = name then some v else none) → R (.ok (.ret .none)) ⟨h', g, d, tk', os⟩) :
    codeAny (model prog w) A (.call (.builtin "object.__setattr__") ⟨[.ref x, .str name tk, v], []⟩) R ⟨hp, g, d, t, os⟩ := by
  have at0 : PySem.W.InstAt hp x { cls := .ref C, data := .fields fv } C none := ⟨hx, rfl, rfl, trivial⟩
  have fresh : x ≠ hp.objs.size := Nat.ne_of_lt (Heap.lt_size hx)
  have isObj : cd.mro.contains (.type "object") = true := (refsG_has "object" _ hm).trans (tail_obj re)
  have sub : PySem.W.Looks (model prog w) hp (isInstance (.ref x) (.type "object")) true :=
    at0.type.andThen (PySem.W.looks_mroIn X (by unfold PySem.W.mroIn; rw [hcd, Option.bind_some, if_neg (by rw [refsG_ne _ hm]; decide), isObj]))
  have look1 : PySem.W.Looks (model prog w) hp (mroOf (.ref C)) cd.mro := (PySem.W.looks_clsIn X hcd).andThen .now
  have look2 : PySem.W.Looks (model prog w) hp (Builtin.ObjectAttr.storeTaker? none) none := .now
  have look3 : PySem.W.Looks (model prog w) hp (classData C) cd := PySem.W.looks_clsIn X hcd
  have so := PySem.F.store_object
  refine codeAny_call_builtin so.slot.plain so.entry (@PySem.W.check_slot (model prog w) _ _ ⟨hp, g, d, t, os⟩ "object.__setattr__" "object" "__setattr__" (.ref x) [.str name tk, v] [] _ so.kind so.split sub (so.args (.ref x) (.str name tk) v) ?_)
  rw [PySem.W.osa_eq, refuse_eq]
  refine wpAny_bind (wpAny_bind (at0.type.at (wpAny_bind (look1.at ?_))))
  rw [refsG_pass _ _ hm]
  refine wpAny_pure (wpAny_bind (at0.type.at (wpAny_bind ((PySem.W.looks_findIn X ha).at (wpAny_bind (look2.at ?_))))))
  show wpAny _ _ (Builtin.ObjectAttr.storeInOwnDict (.ref x) (.ref C) (.str name tk) name v false) _ _ _
  obtain ⟨nm, bs, mro, ns, qn, hd, sn, sb, ab, col, del⟩ := cd
  dsimp only at hh
  subst hh
  unfold Builtin.ObjectAttr.storeInOwnDict Builtin.ObjectAttr.ownDictForStores
  repeat (first | with_reducible refine PySem.HandSPX.store_in_new ?_ ?_ | with_reducible refine wpAny_loadPart_at hx ?_ | with_reducible refine look3.at ?_ | wp_step)
  · exact ⟨_, #[], _, (Heap.get?_update_ne _ _ _ _ fresh.symm).trans (Heap.get?_push_at rfl rfl), rfl, fun e he => absurd he (by simp), fun _ => rfl⟩
  · intro h' tk' hn' hs
    have hx2 : (hp.push { cls := .type "dict", data := .dict #[] }).get? x = some { cls := .ref C, data := .fields fv } := Heap.get?_push_of_some _ hx
    exact hq h' tk' hp.objs.size (fun b o hb ho => (hs.2 b (Nat.ne_of_lt (Heap.lt_size ho))).trans ((Heap.get?_update_ne _ _ _ _ hb).trans (Heap.get?_push_of_some _ ho))) (Nat.le_refl _) fresh.symm ((hs.2 x fresh).trans (Heap.get?_update_self _ hx2 rfl)) hn'
section
variable {X : Cx} {pins : List (Addr × Obj)} {σ : L2.St} {H : Hp} {s : Shared} {a C : Addr} {f : Str} {y : V} {u : Value} {re : Bool}
theorem ost_newG {Q : Unit → Shared → Prop} {E : Value → Shared → Prop} {A : Around} (T : OexG re X.K C) (I : Inv X pins σ H s) (e : H a = some (exo a C none)) (hno : PySem.W.findIn X.K (.ref C) f = some none) (ry : RelV y u)
    (h : ∀ dx s', H dx = none → dx ≠ a → Inv X pins σ (upd (upd H dx (exd dx [(f, y)])) a (exo a C (some dx))) s' → Q () s') : wpAny (model X.prog X.w) A (setAttr (.ref a) f u) Q E s := by
  obtain ⟨nm, q, N, bs, bm, sn, sub, ab, col, dd, k0, k1, k2, k3, k5, hC, hbm⟩ := T.cls
  have hcl : PySem.W.clsIn X.K C = some { name := nm, bases := bs, mro := .ref C :: bm, ns := N, qualname := q, hasDict := true, slotNames := sn, subclasses := sub, abstract := ab, collection := col, hasDel := false } := by
    unfold PySem.W.clsIn
    rw [hC] <;> rfl
  obtain ⟨t1, ho⟩ := exo_at I.hok e
  obtain ⟨hp, g, d, t, os⟩ := s
  refine PySem.W.set_plain I.kIn (ox := { cls := .ref C, dict := none, data := .fields #[.ref t1, .none, .none, .none, .bool false, .none] }) (od := none) ⟨ho, rfl, rfl, trivial⟩ T.sa (osaG I.kIn ho hcl (show refsG re (.ref C :: bm) = true from hbm) rfl hno fun h' tk' dx k dn dne hx hn => ?_)
  have hnd : H dx = none := I.hok.fresh dn
  have nd : ∀ {b : Addr} {o : Obj}, hp.get? b = some o → b ≠ dx := fun {b o} q => Nat.ne_of_lt (Nat.lt_of_lt_of_le (Heap.lt_size q) dn)
  have na : ∀ {b : Addr}, H b = none → b ≠ a := fun {b} n z => by rw [z, e] at n; cases n
  have U : Un X.fs [] H (upd (upd H dx (exd dx [(f, y)])) a (exo a C (some dx))) hp h' := by
    refine { keep := fun b o q n _ _ => k b o (na n) q, slot := fun b o q n _ _ => ⟨o.slots, k b o (na n) q⟩, free := ?_, there := ?_, tups := ?_, frzs := ?_, tbls := ?_ }
    · exact fun b o q n _ => by rw [upd_ne (na n), upd_ne (nd q)]; exact n
    · intro b o q _
      by_cases hb : b = a
      · exact ⟨_, hb ▸ hx⟩
      · exact ⟨o, k b o hb q⟩
    · exact fun b xs q => by rw [upd_ne (at_ne e q exo_tup), upd_ne (ne_of_none q hnd)]; exact q
    · exact fun b o v q => by rw [upd_ne (at_ne e q exo_frz), upd_ne (ne_of_none q hnd)]; exact q
    · exact fun b ps q => ⟨#[], by rw [upd_ne (at_ne e q exo_tbl), upd_ne (ne_of_none q hnd), q]; simp⟩
  refine h dx _ hnd dne (I.un (t' := tk') U fun b o q => ?_)
  by_cases hb : b = a
  · subst hb
    rw [upd_same] at q
    cases q; exact exo_ok hx
  rw [upd_ne hb] at q
  by_cases hd : b = dx
  · subst hd
    rw [upd_same] at q
    cases q; exact exd_ok hn (relO_put (fs := []) ry fun g => True.intro)
  rw [upd_ne hd] at q
  refine (I.hok b o q).stay (fun c v hc z => k c v ?_ z) (fun c hc => ?_) fun c xs hc => ?_
  · rcases hc with hc | hc
    · rw [hc]; exact hb
    · exact at_ne e hc exo_own
  · rw [upd_ne (at_ne e hc exo_own), upd_ne (ne_of_none hc hnd)]; exact hc
  · rw [upd_ne (at_ne e hc exo_tup), upd_ne (ne_of_none hc hnd)]; exact hc
theorem oinit_okG {us : List Value} {Q : Value → Shared → Prop} {E : Value → Shared → Prop} {A : Around} (T : OexG re X.K C) (I : Inv X pins σ H s) (e : H a = some (exo a C none)) (hl : us.length ≤ sizeLine) (h : ∀ s', Inv X pins σ H s' → Q .none s') :
    wpAny (model X.prog X.w) A (call (.builtin (iniN re)) (.ref a :: us)) Q E s := by
  obtain ⟨nm, q, N, bs, bm, sn, sub, ab, col, dd, k0, k1, k2, k3, k5, hC, hbm⟩ := T.cls
  obtain ⟨t1, ho⟩ := exo_at I.hok e
  obtain ⟨hp, g, d, t, os⟩ := s
  refine wpAny_call (PySem.HandSPX.init_base (facB re) (fun Y => refsG_has Y bm hbm) (I.kIn _ _ hC) ho hl fun h' t2 k hx => ?_)
  have J := I.write (t' := t) (x := a) (e := a) (o := exo a C none) (by rw [e]; exact True.intro) (.inl rfl) k ⟨_, hx⟩ (exo_ok hx)
  rw [show upd H a (exo a C none) = H by
    funext b
    by_cases hb : b = a
    · rw [hb, upd_same, e]
    · exact upd_ne hb] at J
  exact h _ J
end
def tVeG (re : Bool) (K : PySem.W.Frag) (ta : TA) : TE := fun σ H Q => ta σ H fun vs H1 => ∃ (a C : Addr) (ws : List V), vs = .ref a :: ws ∧ ws.length ≤ 1000 ∧ OexG re K C ∧ H1 a = some (exo a C none) ∧ Q .non H1
def tOsG (re : Bool) (K : PySem.W.Frag) (f : Str) (to te : TE) : TS := fun D σ H => te σ H fun y H1 => to σ H1 fun x H2 => ∃ a C : Addr, x = .ref a ∧ OexG re K C ∧ PySem.W.findIn K (.ref C) f = some none ∧ H2 a = some (exo a C none) ∧ ∀ dx, H2 dx = none → dx ≠ a → D.nx σ (upd (upd H2 dx (exd dx [(f, y)])) a (exo a C (some dx)))
theorem ps_ostG {X : Cx} {re : Bool} {o e : Expr} {to te : TE} {f : Str} {p' pos : Pos} (ho : PE X o to) (he : PE X e te) (hs : swapsWith e (some (.Attribute o f p')) pos.line X.env = pure false := by rfl) : PS X (.Assign [.Attribute o f p'] e pos) (tOsG re X.K f to te) := by
  refine ⟨fun pins s σ H D I h => plainObj_wpAny_Assign_Attribute (thn (he.run pins s σ H _ I h) fun v s1 z1 => ?_) hs⟩
  obtain ⟨y, H1, I1, r1, q1⟩ := z1
  refine thn (ho.run pins s1 σ H1 _ I1 q1) fun u s2 z2 => ?_
  obtain ⟨x, H2, I2, r2, a, C, rfl, T, hno, ea, q⟩ := z2
  cases r2
  exact ost_newG T I2 ea hno r1 fun dx s' n ne J => ⟨σ, _, J, q dx n ne⟩
/-- what __init__ promises -/
def spI (re : Bool) (K : PySem.W.Frag) (C : Addr) (fl : Str) : Sp := fun vs H Q _ => ∃ a y, vs = [.ref a, y] ∧ OexG re K C ∧ PySem.W.findIn K (.ref C) fl = some none ∧ H a = some (exo a C none) ∧
  ∀ dx, H dx = none → dx ≠ a → Q .non (upd (upd H dx (exd dx [(fl, y)])) a (exo a C (some dx)))
/-- an own exception class -/
structure OwnX (X : Cx) (l : Nat) (x : Str) (xc : XC) : Prop where
  ex : ∃ re C fI fd ps, X.mg x = some (.ref C) ∧ OexG re X.K C ∧ PySem.W.findIn X.K (.ref C) "__init__" = some (some (.ref fI)) ∧ PySem.W.typeIn X.K (.ref fI) = some (.type "function") ∧ FnOk X.prog X.w X.K X.mg X.base C8.CX0 l fI fd ps (spI re X.K C xc.fld) ∧
    Binds X.K fd ps [] ∧ (∀ d, xc.dfl = some d → ∃ v ds, vD d = some v ∧ Binds X.K fd ps ds ∧ Vals [v] ds) ∧ PySem.W.findIn X.K (.ref C) xc.fld = some none
  nd : (x == ("__debug__" : Str)) = false
section
variable {X : Cx} {B : Bx} {W : WX} {c : Ctx} {S S0 S1 S2 : Sl} {σ : Sg} {G G00 G0 G1 G2 G' H H0 H1 H' : Hp} {p pos p2 : Pos} {D : Ends} {a e : Expr} {es : List Expr} {f : Sl → O SV} {ga : Sl → O (List SV)} {x : Str}
theorem del_eq {H1 : Hp} {a d : Addr} {o1 o2 o3 o4 : HO} (ha : H1 a = none) (hd : d ≠ a) : upd (del (upd (upd (upd H1 a o1) d o2) a o3) a) d o4 = upd H1 d o4 := by
  funext b
  by_cases h1 : b = d
  · subst h1; rw [upd_same, upd_same]
  · rw [upd_ne h1, upd_ne h1]
    by_cases h2 : b = a
    · subst h2; rw [del_same, ha]
    · rw [del_ne h2, upd_ne h2, upd_ne h1, upd_ne h2]
/-- the reading of the making: v the field's value -/
theorem mk_read {re : Bool} {C a' : Addr} {fl : Str} {y : V} {Q : XK} (T : OexG re X.K C) (hno : PySem.W.findIn X.K (.ref C) fl = some none) (n : H a' = none)
    (q : ∀ dx, H dx = none → Q (.ref C) (some dx) (upd H dx (.xd [(fl, y)]))) : spI re X.K C fl [.ref a', y] (upd H a' (exo a' C none)) (fun v H2 => v = .non ∧ ∃ (d : Addr) (fs : List (Str × V)), H2 a' = some (exo a' C (some d)) ∧ H2 d = some (exd d fs) ∧ H d = none ∧ Q (.ref C) (some d) (upd (del H2 a') d (.xd fs))) (fun _ _ _ => False) := by
  refine ⟨a', y, rfl, T, hno, upd_same, fun dx h1 h2 => ⟨rfl, dx, [(fl, y)], upd_same, ?_, ?_, ?_⟩⟩
  · rw [upd_ne h2, upd_same]
  · rw [upd_ne h2] at h1; exact h1
  · rw [del_eq n h2]
    rw [upd_ne h2] at h1
    exact q dx h1
/-- C(us), C's own __init__ keeping sp -/
theorem run_mk {pins : List (Addr × Obj)} {Q : XK} {s : Shared} {C fI : Addr} {l : Nat} {fd : FuncData} {ps : List Str} {sp : Sp} {us ds : List Value} {vs dvs : List V} {re : Bool} (T : OexG re X.K C) (hi : PySem.W.findIn X.K (.ref C) "__init__" = some (some (.ref fI))) (ht : PySem.W.typeIn X.K (.ref fI) = some (.type "function"))
    (F : FnOk X.prog X.w X.K X.mg X.base C8.CX0 l fI fd ps sp) (hr : Room (l + 1) X.A) (hb : Binds X.K fd ps ds) (hd : Vals dvs ds) (I : Inv X pins σ H s) (r : Vals vs us) (hz : vs.length ≤ 1000)
    (q : ∀ a, H a = none → sp (.ref a :: (vs ++ dvs)) (upd H a (exo a C none)) (fun v H2 => v = .non ∧ ∃ (d : Addr) (fs : List (Str × V)), H2 a = some (exo a C (some d)) ∧ H2 d = some (exd d fs) ∧ H d = none ∧ Q (.ref C) (some d) (upd (del H2 a) d (.xd fs))) (fun _ _ _ => False)) :
    wpAny (model X.prog X.w) X.A (call (.ref C) us) (MkP X pins σ Q) X.xe s := by
  obtain ⟨c1, c2, c3, c4, c5, c6, c7, c8, c9, c10, c11, c12, c13, c14, c15, hC, hm⟩ := T.cls
  obtain ⟨h0, g0, d0, t0, os0⟩ := s
  have le : h0.objs.size ≤ h0.objs.size + 1 := Nat.le_succ _
  have fr : H (h0.objs.size + 1) = none := I.hok.fresh le
  have q1 := q (h0.objs.size + 1) fr
  have kp : ∀ b o, h0.get? b = some o → ((h0.push (PySem.W.kdv_tup us)).push (PySem.HandSPX.excO C h0.objs.size)).get? b = some o := fun b o e => Heap.get?_push_of_some _ (Heap.get?_push_of_some _ e)
  have at1 : ((h0.push (PySem.W.kdv_tup us)).push (PySem.HandSPX.excO C h0.objs.size)).get? (h0.objs.size + 1) = some (PySem.HandSPX.excO C h0.objs.size) := by heap_get
  have I2 := I.laid (t' := t0) (a := h0.objs.size + 1) (o := exo (h0.objs.size + 1) C none) (h' := (h0.push (PySem.W.kdv_tup us)).push (PySem.HandSPX.excO C h0.objs.size)) kp le (exo_ok at1)
  have r2 : Vals (V.ref (h0.objs.size + 1) :: (vs ++ dvs)) (Value.ref (h0.objs.size + 1) :: (us ++ ds)) := .cons rfl (r.append hd)
  have ln : (Value.ref (h0.objs.size + 1) :: us ++ ds).length = ps.length := by
    have z := r2.length
    rw [F.len _ _ _ _ q1] at z
    exact z.symm
  have lu : us.length ≤ sizeLine := by
    rw [← r.length, sizeLine_eq]
    omega
  refine wpAny_call (PySem.HandSPX.call_own (facB re) (fun Y => refsG_has Y c5 hm) (I.kIn _ _ hC) (PySem.W.looks_findIn I.kIn hi) (fun self => PySem.W.bind_fn I.kIn self ht) lu (codeAny_mono (F.run _ X.stack _ _ ⟨Value.ref (h0.objs.size + 1) :: us, []⟩ _ _ _ (fun _ _ _ => False) (hr.make C us []) (I2.env0.make C us []) (hb _ _ I2.kIn ln) r2 q1) fun rr s' z => ?_))
  cases rr with
  | error er => exact (show False from z).elim
  | ok fl =>
    cases fl with
    | ret u =>
      obtain ⟨v, H2, o2, b2, u2, k2, rv, ev, d, fs, ea, ed, hd1, q2⟩ := z
      subst ev
      obtain ⟨h2, g2, d2, t2, os'⟩ := s'
      exact ⟨rv, mk_end (raises_own T.exC T.tyC) I le kp u2 k2 o2 b2 ea ed hd1 q2⟩
    | next => exact False.elim z
    | brk => exact False.elim z
    | cont => exact False.elim z
/-- what is raised, as a reading -/
def tX (B : Bx) (W : WX) (f : Sl → O (Str × Fs)) : L2.St → Hp → XK → Prop := fun σ H Q => ∃ S G, Rel B S σ G H ∧ K1 B W σ G (f S) fun r S' => ∀ C d vs G' H', Rel B S' σ G' H' → Ex G G' → B.mg r.1 = some (.ref C) → G' d = some (.xd vs) → FsR G' vs r.2 → Q (.ref C) (some d) H'
theorem nt_xd {fs : List (Str × V)} : NoT (.xd fs) := fun ps z => by cases z
theorem mkx_read {xc : XC} {C : Addr} {Q : XK} {svs : List SV} {vs : List V} {G00 : Hp} (R0 : Rel B S0 σ G00 H0) (s : Stp S0 σ G00 H0 S G H) (R : Rel B S σ G H) (v : RVs B S σ G H0 H svs vs) (hm : B.mg x = some (.ref C)) {re : Bool} (T : OexG re X.K C) (hno : PySem.W.findIn X.K (.ref C) xc.fld = some none)
    (q : K1 B W σ G (mkX x xc svs S) fun r S' => ∀ C d vs G' H', Rel B S' σ G' H' → Ex G00 G' → B.mg r.1 = some (.ref C) → G' d = some (.xd vs) → FsR G' vs r.2 → Q (.ref C) (some d) H') :
    (∃ d, vs = [] ∧ xc.dfl = some d ∧ ∀ y, vD d = some y → ∀ dx, H dx = none → Q (.ref C) (some dx) (upd H dx (.xd [(xc.fld, y)]))) ∨ ∃ y, vs = [y] ∧ ∀ dx, H dx = none → Q (.ref C) (some dx) (upd H dx (.xd [(xc.fld, y)])) := by
  unfold mkX at q
  split at q
  · split at q
    · rename_i d e
      cases v
      refine .inl ⟨d, rfl, e, fun y hy dx hd => ?_⟩
      exact q C dx _ _ _ (R.lay hd nt_xd) (s.ext.tr (Ex.new (R.gnone hd))) hm upd_same ⟨rfl, vD_rp hy, trivial⟩
    · exact q.elim
  · rename_i w
    obtain ⟨y, rfl, rv⟩ := rvs1 v
    obtain ⟨d, S2, e, q2⟩ := q.settle
    obtain ⟨G2, R2, s2, rp, b⟩ := settle_ok R0 s R rv e
    refine .inr ⟨y, rfl, fun dx hd => ?_⟩
    exact q2 C dx _ _ _ (R2.lay hd nt_xd) (s2.ext.tr (Ex.new (R2.gnone hd))) hm upd_same ⟨rfl, rp.mono (Ex.new (R2.gnone hd)), trivial⟩
  · exact q.elim
theorem x_mk {xc : XC} (k : Nm X c B) (hx : OwnX X 1 x xc) (hg : glo c x = true) (hl : 2 ≤ c.lvl) (hs : noStar es = true) (ha : PA X es (tA B W ga)) (h0 : es = [] → ∀ S, ga S = .ok [] S ∨ ga S = .bad) : PMk X (.Call (.Name x p) es [] pos) (tX B W fun S => (ga S).bind (mkX x xc)) := by
  obtain ⟨re, C, fI, fd, ps, m1, T, m2, m3, F, b1, b2, hno⟩ := hx.ex
  have hr : Room 2 X.A := k.room.mono hl
  have mB : B.mg x = some (.ref C) := by rw [← k.mg]; exact m1
  intro pins s σ H Q I ⟨S, G, R, q⟩
  have q : K1 B W σ G ((ga S).bind (mkX x xc)) fun r S' => ∀ C d vs G' H', Rel B S' σ G' H' → Ex G G' → B.mg r.1 = some (.ref C) → G' d = some (.xd vs) → FsR G' vs r.2 → Q (.ref C) (some d) H' := q
  refine wpAny_Call_Name_kw (ld_glob I (glo_ok k.sc hg) m1 ?_ hx.nd)
  -- the call itself
  have fin : ∀ {s1 : Shared} {H1 : Hp} {us : List Value} {vs : List V}, Inv X pins σ H1 s1 → Vals vs us → ((∃ d, vs = [] ∧ xc.dfl = some d ∧ ∀ y, vD d = some y → ∀ dx, H1 dx = none → Q (.ref C) (some dx) (upd H1 dx (.xd [(xc.fld, y)]))) ∨ ∃ y, vs = [y] ∧ ∀ dx, H1 dx = none → Q (.ref C) (some dx) (upd H1 dx (.xd [(xc.fld, y)]))) →
      wpAny (model X.prog X.w) X.A (call (.ref C) us) (MkP X pins σ Q) X.xe s1 := fun {s1 H1 us vs} I1 r z => by
    rcases z with ⟨d, rfl, e, z⟩ | ⟨y, rfl, z⟩
    · obtain ⟨v, ds, e1, e2, e3⟩ := b2 d e
      exact run_mk T m2 m3 F hr e2 e3 I1 r (by simp) fun a n => mk_read T hno n (z v e1)
    · exact run_mk T m2 m3 F hr b1 .nil I1 r (by simp) fun a n => mk_read T hno n z
  cases es with
  | nil =>
    have e0 : ga S = .ok [] S := by
      rcases h0 rfl S with e | e
      · exact e
      · rw [e] at q; exact q.elim
    rw [e0] at q
    have q : K1 B W σ G (mkX x xc [] S) _ := q
    exact PySem.W.callWith_K0 I.kIn T.kC (fin (us := []) I .nil (mkx_read (W := W) (H0 := H) R Stp.refl R .nil mB T hno q))
  | cons e es =>
    refine PySem.W.callWith_K (h₀ := X.base) I.ok.mod.kin T.kC (thn (ha.run pos pins s σ H (fun vs H1 => (∃ d, vs = [] ∧ xc.dfl = some d ∧ ∀ y, vD d = some y → ∀ dx, H1 dx = none → Q (.ref C) (some dx) (upd H1 dx (.xd [(xc.fld, y)]))) ∨ ∃ y, vs = [y] ∧ ∀ dx, H1 dx = none → Q (.ref C) (some dx) (upd H1 dx (.xd [(xc.fld, y)]))) I
      (tA.then R q fun svs S1 vs G1 H1 R1 s1 v1 q1 => mkx_read (W := W) R s1 R1 v1 mB T hno q1)) fun us s1 ⟨vs, H1, I1, r1, z⟩ => ⟨I1.kIn, fin I1 r1 z⟩) (star_one hs) (star_any (star_tail hs))
theorem s_raise {fx : Sl → O (Str × Fs)} (k : Nm X c B) (tk : Takes X W) (hx : PMk X e (tX B W fx)) : PS X (.Raise (some e) none pos) (tS B W fun S => (fx S).st fun x S1 => .exc x.1 x.2 S1) := by
  refine PS.imp (ps_raise k.calm tk hx) fun D σ H ⟨S, G, R, q⟩ => ⟨S, G, R, ?_⟩
  rcases st_exc (σ := σ) q with ⟨r, S1, e, h1⟩ | ⟨c, fs, S1, e, h1⟩
  · rw [e]; exact fun C d vs G' H' R' z m x y => h1 C d vs σ G' H' R' z m x y
  · rw [e]; exact h1
end
end Z

set_option maxHeartbeats 2000000
/-! try: .. except (A, B) as e: y = e. -/
namespace Z
open PySem PySem.Spec PyProof.Rows L2
section
variable {X : Cx} {pins : List (Addr × Obj)} {σ : Sg} {H : Hp} {s : Shared} {a C d : Addr}
theorem excO_ok {P : Program} {w : World} {h : Heap} (e : ∃ (oe : Obj) (vs : Array Value), h.get? a = some oe ∧ oe.cls = .ref C ∧ oe.dict = some d ∧ oe.data = .fields vs) : ObjOk P w H h a (ExcO a C d) := by
  obtain ⟨oe, vs, e1, e2, e3, e4⟩ := e
  exact ⟨⟨oe, vs, e1, e2, e3, e4⟩, ⟨oe, e1⟩, fun h1 h2 ⟨oe, vs, a1, a2, a3, a4⟩ k => ⟨oe, vs, k _ a1, a2, a3, a4⟩⟩
/-- an object that nobody tracked is tracked from now on -/
theorem Inv.track (I : Inv X pins σ H s) (n : H a = none) (n0 : X.s_0.heap.get? a = none) (nl : a ≠ X.env.locals) (np : ∀ p ∈ X.pn ++ pins, p.1 ≠ a) (e : ∃ (oe : Obj) (vs : Array Value), s.heap.get? a = some oe ∧ oe.cls = .ref C ∧ oe.dict = some d ∧ oe.data = .fields vs) :
    Inv X pins σ (upd H a (ExcO a C d)) s := by
  have ne : ∀ b u, H b = some u → b ≠ a := fun b u h => ne_of_none h n
  refine ⟨I.ok, I.os, I.bare, ⟨I.base.keep, I.base.slot, fun b o e' n' hx => ?_, I.base.there, fun b xs e' => ?_, fun b o x e' => ?_, fun b ps e' => ?_⟩, I.loc, I.cell, ?_, fun x c hc => ?_, fun p hp => ?_, fun b u e' => ?_, I.len⟩
  · have z : b ≠ a := fun z => by rw [z, n0] at e'; cases e'
    rw [upd_ne z]; exact I.base.free b o e' n' hx
  · have q := I.base.tups b xs e'
    rw [upd_ne (ne _ _ q)]; exact q
  · have q := I.base.frzs b o x e'
    rw [upd_ne (ne _ _ q)]; exact q
  · obtain ⟨m, q⟩ := I.base.tbls b ps e'
    exact ⟨m, by rw [upd_ne (ne _ _ q)]; exact q⟩
  · rw [upd_ne (Ne.symm nl)]; exact I.free
  · have z : c ≠ a := fun z => by
      obtain ⟨v, o, h1, h2⟩ := I.cell x c hc
      obtain ⟨oe, vs, e1, _, _, e4⟩ := e
      rw [z, e1] at h1
      cases h1
      rw [e4] at h2
      cases h2
    rw [upd_ne z]; exact I.freeC x c hc
  · obtain ⟨p1, p2, p3⟩ := I.pin p hp
    exact ⟨p1, by rw [upd_ne (np p hp)]; exact p2, p3⟩
  · by_cases z : b = a
    · subst z
      rw [upd_same] at e'
      cases e'
      exact excO_ok e
    · rw [upd_ne z] at e'
      exact (I.hok b u e').stay (fun c v _ q => q) (fun c q => by rw [upd_ne (ne _ _ q)]; exact q) fun c xs q => by rw [upd_ne (ne _ _ q)]; exact q
end
theorem flyZ_up {B h h' : Heap} {l : List Env} {e : Addr} {Zp : Obj → Prop} (f : HandSPX.FlyingZ B l e Zp h) (up : ∀ b o, h.get? b = some o → h'.get? b = some o) : HandSPX.FlyingZ B l e Zp h' := by
  obtain ⟨a1, a2, a3, oe, vs, T, oT, ts, a4, a5, a6, a7, a8, a9, a10, a11, a12⟩ := f
  exact ⟨fun b o q => up b o (a1 b o q), a2, a3.of_keeps fun b o q _ => ⟨o, up b o q, rfl⟩, oe, vs, T, oT, ts, up _ _ a4, a5, a6, a7, a8, a9, up _ _ a10, a11, a12⟩
/-- a name that stands for a class, as the layer's clauses ask it -/
theorem Named.names {X : Cx} {t : Str} {cv : V} {u : Value} (n : Named X t cv u) (g : Gl X t) : Names X t u := ⟨g, n.nd, n.ok⟩
section
variable {X : Cx} {B : Bx} {W : WX} {c : Ctx} {S S1 : Sl} {σ : Sg} {G G' H H' : Hp} {pos : Pos} {D : Ends} {fb : Sl → Fl} {body : List Stmt} {a b x y : Str}
/-- what the clause wishes of an exception of the body -/
def wTry (K : PySem.W.Frag) (ca cb : Value) (n i j : Nat) (W : WX) (D : Ends) : WX := fun cls d σ H => ∃ C d' r, cls = .ref C ∧ d = some d' ∧ PySem.W.exmAny K cls [ca, cb] = some r ∧
  (r = true → ∀ a0, H a0 = none → σ.length = n → D.nx (((σ.set i (some (.ref a0))).set j (some (.ref a0))).set i none) (upd H a0 (ExcO a0 C d'))) ∧ (r = false → W cls d σ H)
/-- the reading of the clause -/
theorem try_read (k : Nm X c B) (kx : NmX X c) {i j : Nat} {ua ub : Value} {cva cvb : V} (na : Named X a cva ua) (nb : Named X b cvb ub) (hi : ix c x = some i) (tj : tgI c y = some j) (ti : tgI c x = some i) (ne : i ≠ j)
    (q : SK B W D G (tryH c a b x y (fb S))) : SK B (wTry X.K ua ub X.N.length i j W D) D G (fb S) := by
  cases e : fb S with
  | nx S1 => rw [e] at q; exact q
  | bk S1 => rw [e] at q; exact q
  | ct S1 => rw [e] at q; exact q
  | ret r S1 => rw [e] at q; exact q
  | bad => rw [e] at q; exact q
  | exc kk fs S1 =>
    rw [e] at q
    have q : SK B W D G (tryX c a b x y kk fs S1) := q
    intro C d vs σ' G' H' R z m dv fr
    unfold tryX at q
    split at q
    · rename_i p1 p2 i' e1 e2 e3
      rw [hi] at e3
      cases e3
      obtain ⟨_, C1, cv1, u1, m1, _, n1, _, x1⟩ := kx.isx kk a p1 e1
      obtain ⟨_, C2, cv2, u2, m2, _, n2, _, x2⟩ := kx.isx kk b p2 e2
      rw [k.mg] at m1 m2
      rw [m] at m1 m2
      cases m1
      cases m2
      have w1 := na.uniq n1
      have w2 := nb.uniq n2
      subst w1 w2
      refine ⟨C, d, p1 || p2, rfl, rfl, ?_, fun hr => ?_, fun hr => ?_⟩
      · unfold PySem.W.exmAny PySem.W.exmAny PySem.W.exmAny
        rw [x1, x2]
        simp
      · intro a0 h0 ln
        rw [if_pos hr] at q
        split at q
        · rename_i S3 e4
          obtain ⟨j', g1, rfl⟩ := setN_tg e4
          rw [tj] at g1
          cases g1
          obtain ⟨_, _, _, i4, i5⟩ := tgI_ok k ti
          obtain ⟨_, _, _, j4, j5⟩ := tgI_ok k tj
          have nt : NoT (ExcO a0 C d) := fun ps z => by cases z
          have hg := R.gnone h0
          have R1 := R.lay h0 nt
          have at0 : ExcAt B (upd G' a0 (ExcO a0 C d)) kk fs (.ref a0) := ⟨a0, C, d, vs, rfl, m, upd_same, by rw [upd_ne (ne_of_none dv hg)]; exact dv, fr.mono (Ex.new hg)⟩
          have lN : S1.length = c.N.length := by rw [R.len, ln, k.N]
          have R2 := R1.put (i := i) (v := .exc kk fs) (x := .ref a0) (by rw [lN]; exact ix_lt i4) i5 at0 (fun ds p z => by cases z)
          have R3 := R2.put (i := j) (v := .exc kk fs) (x := .ref a0) (by unfold put; rw [List.length_set, lN]; exact ix_lt j4) j5 at0 (fun ds p z => by cases z)
          have R4 := R3.wipe (is := [i]) (fun l hl => by rw [List.mem_singleton.mp hl]; exact i5)
          refine q _ (upd G' a0 (ExcO a0 C d)) _ ?_ (z.tr (Ex.new hg))
          have es : wp (put (put S1 i (.exc kk fs)) j (.exc kk fs)) [i] = (put S1 j (.exc kk fs)).set i none := by
            show ((S1.set i _).set j _).set i none = (S1.set j _).set i none
            rw [List.set_comm _ _ ne, List.set_set]
          rw [← es]
          exact R4
        · exact q.elim
      · rw [if_neg (by rw [hr]; decide)] at q
        exact q C d vs σ' G' H' R z m dv fr
    · exact q.elim

theorem s_try {kk : Nat} {pa pb tp px py ap hp : Pos} (k : Nm X c B) (kx : NmX X c) (tk : Takes X W) (hs : X.stack = X.env :: X.outer) (hf : X.env.frame = some X.env.locals) (hex : X.ex = []) (ok1 : tryOk c a b x y x = true)
    (hb : ∀ (W : WX) (pn : List (Addr × Obj)) (xe : Value → Shared → Prop), Takes (X.tr pn xe) W → PassesOwn (model X.prog X.w) X.A X.env xe → PSs (X.tr pn xe) body (tS B W fb)) :
    PS X (.Try body [.ExceptHandler (some (.Tuple [.Name a pa, .Name b pb] kk tp)) (some x) [.Assign [.Name y py] (.Name x px) ap] hp] [] [] pos) (tS B W fun S => tryH c a b x y (fb S)) := by
  unfold tryOk at ok1
  simp only [Bool.and_eq_true, decide_eq_true_eq] at ok1
  obtain ⟨⟨⟨⟨⟨⟨⟨⟨⟨_, oa⟩, ob⟩, ta⟩, tb⟩, lx⟩, sx⟩, tx⟩, ty⟩, dxy⟩ := ok1
  obtain ⟨i, hi⟩ := Option.isSome_iff_exists.mp sx
  obtain ⟨i', ti⟩ := Option.isSome_iff_exists.mp tx
  obtain ⟨j, tj⟩ := Option.isSome_iff_exists.mp ty
  obtain ⟨iN, iL, iF, i4, i5⟩ := tgI_ok k ti
  rw [hi] at i4
  cases i4
  obtain ⟨jN, jL, jF, j4, j5⟩ := tgI_ok k tj
  have ne : i ≠ j := fun z => dxy (by rw [hi, j4, z])
  unfold isOk at oa ob
  simp only [Bool.and_eq_true] at oa ob
  have ga := glo_ok k.sc oa.1.1
  have gb := glo_ok k.sc ob.1.1
  obtain ⟨cva, ua, na⟩ := kx.named a ta
  obtain ⟨cvb, ub, nb⟩ := kx.named b tb
  have xv : Vis X.env.scope x := .inl (by rw [k.sc]; exact lx)
  have lx' : X.env.kindOf x = some .local := by unfold Env.kindOf; rw [k.sc]; exact lx
  have dbx := k.okN x (by rw [← k.N]; exact List.mem_of_getElem? iN)
  refine ⟨fun pins s σ H D I ⟨S, G, R, q⟩ => ?_⟩
  have ok := I.ok
  have hfr : X.A.frames = some (X.env :: X.outer) := by rw [ok.frames, hs]
  have q1 := try_read k kx na nb hi tj ti ne q
  refine wpAny_Try_except ?_
  have cat : Takes (X.tr (X.pn ++ pins) (fun e s₁ => wpAny (model X.prog X.w) X.A (noteFrame e X.env) (fun _ s₂ => wpAny (model X.prog X.w) X.A (setFlight e none) (fun _ s₃ =>
      wpAny (model X.prog X.w) X.A (handleBy e X.env [.ExceptHandler (some (.Tuple [.Name a pa, .Name b pb] kk tp)) (some x) [.Assign [.Name y py] (.Name x px) ap] hp]) (SP X pins D) X.xe s₃) X.xe s₂) X.xe s₁)) (wTry X.K ua ub X.N.length i j W D) := by
    rintro u s' ⟨e, Bg, sI, pins', σ', H', cls, d, rfl, J', nbg, up, sky, nh, os, ag, C, d', r, rfl, rfl, hx, hyes, hno⟩
    have J : Inv X pins σ' H' sI := J'.ofTry ok
    rw [show (X.tr (X.pn ++ pins) _).stack = X.env :: X.outer from hs] at sky
    refine Sky.land Zc.steady hfr hf sky fun h3 fl up3 => ?_
    have U3 := up.trans up3
    have J3 : Inv X pins σ' H' { s' with heap := h3 } := J.landed nbg fl.1 U3 os ag
    obtain ⟨o3, v3, at3, z3, d3⟩ := fl.there
    have nfr : ∀ {h : Heap} {o : Obj} {vs : Array Value}, h.FunFrames Bg (X.env :: X.outer) → h.get? e = some o → o.data = .fields vs → e ∉ frs (X.env :: X.outer) := fun ff e1 e2 hm => by
      obtain ⟨_, o', e', hnf⟩ := ff.mem hm
      rw [e1] at e'
      cases e'
      exact hnf _ e2
    have n3 := nfr fl.2.2.1 at3 d3
    have nL : e ≠ X.env.locals := fun z => n3 (List.mem_filterMap.mpr ⟨X.env, List.mem_cons_self, by rw [hf, z]⟩)
    have nF : e ∉ X.fs := fun hm => by
      obtain ⟨f, hf1, hf2⟩ := List.mem_filterMap.mp hm
      exact n3 (List.mem_filterMap.mpr ⟨f, List.mem_cons_of_mem _ hf1, hf2⟩)
    have S3 := J3.suite at3 d3 nh nL nF
    have nB : Bg.get? e = none := fl.2.1
    have nfs : ∀ {o : Obj}, sI.heap.get? e = some o → False := fun {o} e1 => by
      have := nbg e o e1 (by rw [hs]; exact n3)
      rw [nB] at this
      cases this
    have npin : ∀ p ∈ X.pn ++ pins, p.1 ≠ e := fun p hp z => nfs (by rw [← z]; exact (J.pin p hp).1)
    have n0 : X.s_0.heap.get? e = none := by
      cases e0 : X.s_0.heap.get? e with
      | none => rfl
      | some o =>
        obtain ⟨o', e1⟩ := J.base.there e o e0 (by rw [hex]; simp)
        exact (nfs e1).elim
    refine wpAny_handleBy_cons (codeAny_handlers_test ?_) (by intro z; cases z)
    have ev1 : ∀ {t : Str} {u : Value} {p : Pos} {Q : Value → Shared → Prop} {E : Value → Shared → Prop}, Names X t u → Q u { s' with heap := h3 } → wpAny (model X.prog X.w) (X.A.mark (some (.ref e))) (eval (.Name t p) X.env) Q E { s' with heap := h3 } := fun {t u p Q E} hc q => by
      obtain ⟨hg, hdbg, hm | ⟨hm, hv, hnn⟩⟩ := hc
      · exact ld_glob (X := X.suite e ((e, o3) :: (X.pn ++ pins))) S3 hg hm q hdbg
      · exact ld_blt (X := X.suite e ((e, o3) :: (X.pn ++ pins))) S3 hg hm hv q hnn hdbg
    refine wpAny_Tuple (wpAny_items_cons (ev1 (na.names ga) (wpAny_items_cons (ev1 (nb.names gb) (wpAny_items_nil ⟨by size_fits, ?_⟩)))))
    have kp : ∀ b o, h3.get? b = some o → (h3.push { cls := .type "tuple", data := .seq [ua, ub].toArray }).get? b = some o := fun _ _ z => Heap.get?_push_of_some _ z
    have LT : PySem.W.Looks (model X.prog X.w) h3 (typeOf (.ref e)) (.ref C) := fun A Q E s k q => wpAny_typeOf_ref (k _ _ at3) (by rw [z3.1]; exact q)
    refine (PySem.W.exm_tup2 ((J3.kIn).keeps kp) (LT.keeps kp) (Heap.get?_push_size h3 rfl) hx).here ?_
    have fl5 := flyZ_up fl kp
    have U5 := U3.trans (Heap.UpToSlots.of_keeps kp)
    cases r with
    | true =>
      refine codeAny_handlers_suite_as (HandSPX.lands_againZ fl5 fun h4 fl4 up4 => ?_)
      have J4 : Inv X pins σ' H' { s' with heap := h4 } := J.landed nbg fl4.1 (U5.trans up4) os ag
      obtain ⟨o4, v4, at4, z4, d4⟩ := fl4.there
      have S4 := J4.suite at4 d4 nh nL nF
      refine store_ok (X := X.suite e ((e, o4) :: (X.pn ++ pins))) (v := .ref e) S4 k.nd iN (.inl (by rw [k.sc]; exact lx)) rfl (fun s5 S5 => ?_) (.inr (by rw [k.sc]; exact lx))
      have st : PS (X.suite e ((e, o4) :: (X.pn ++ pins))) (.Assign [.Name y py] (.Name x px) ap) _ := ps_set (X := X.suite e ((e, o4) :: (X.pn ++ pins))) k.nd jN jL (pe_var (X := X.suite e ((e, o4) :: (X.pn ++ pins))) iN xv dbx.1 dbx.2) (hf := jF)
      have lσ := J.len
      have gx := hyes rfl e nh lσ
      refine wpAny_mono ((pss_one st).run [] s5 _ H' { nx := fun σ6 H6 => D.nx (σ6.set i none) (upd H6 e (ExcO e C d')), rt := fun _ _ => False, bk := fun _ _ => False, ct := fun _ _ => False } S5 ?_) (fun f s6 hsp => ?_) (fun _ _ z => False.elim z)
      · exact ⟨.ref e, by rw [List.getElem?_set_self (by rw [lσ]; exact (List.getElem?_eq_some_iff.mp iN).1)], gx⟩
      · have fin : ∀ {σ6 : Sg} {H6 : Hp} {Q : Shared → Prop}, Inv (X.suite e ((e, o4) :: (X.pn ++ pins))) [] σ6 H6 s6 → (∀ s7, Inv X pins (σ6.set i none) (upd H6 e (ExcO e C d')) s7 → Q s7) →
            wpAny (model X.prog X.w) X.A (do bindName X.env x .none; unbindBehindTheSuite X.env x hp) (fun _ s7 => Q s7) X.xe s6 := fun {σ6 H6 Q} S6 hq => by
          have J6 : Inv X ((e, o4) :: pins) σ6 H6 s6 := ⟨ok, S6.os, S6.bare, S6.base, S6.loc, S6.cell, S6.free, S6.freeC, fun p hp => S6.pin p (by
            simp only [List.mem_append, List.mem_cons, List.append_nil] at hp ⊢
            rcases hp with z | z | z
            · exact .inr (.inl z)
            · exact .inl z
            · exact .inr (.inr z)), S6.hok, S6.len⟩
          refine gone_ok J6 k.nd iN lx' fun s7 J7 => hq s7 ?_
          obtain ⟨p1, p2, p3, p4, p5⟩ := J7.pin (e, o4) (List.mem_append_right _ List.mem_cons_self)
          have J8 : Inv X pins (σ6.set i none) H6 s7 := ⟨ok, J7.os, J7.bare, J7.base, J7.loc, J7.cell, J7.free, J7.freeC, fun p hp => J7.pin p (by
            rcases List.mem_append.mp hp with z | z
            · exact List.mem_append_left _ z
            · exact List.mem_append_right _ (List.mem_cons_of_mem _ z)), J7.hok, J7.len⟩
          exact Inv.track J8 p2 n0 nL npin ⟨o4, v4, p1, z4.1, z4.2, d4⟩
        cases f with
        | next =>
          obtain ⟨σ6, H6, S6, q6⟩ := hsp
          exact fin S6 fun s7 J7 => ⟨_, _, J7, q6⟩
        | brk =>
          obtain ⟨σ6, H6, S6, q6⟩ := hsp
          exact q6.elim
        | cont =>
          obtain ⟨σ6, H6, S6, q6⟩ := hsp
          exact q6.elim
        | ret u =>
          obtain ⟨v6, σ6, H6, S6, r6, q6⟩ := hsp
          exact q6.elim
    | false =>
      refine wpAny_handleBy_nil ?_
      obtain ⟨_, _, _, oe, vs, T, oT, ts', a1, a2, a3, a4, _⟩ := id fl5
      unfold PySem.passOn
      refine wpAny_bind (wpAny_field a1 a3 a4 ?_)
      rw [if_neg (show ¬ ((Value.ref T == Value.none) = true) from by simp)]
      have out : wpAny (model X.prog X.w) X.A (setFlight (.ref e) X.env.frame) (fun _ s4 => wpAny (model X.prog X.w) X.A (throw (.ref e) : Sem Flow) (SP X pins D) X.xe s4) X.xe { s' with heap := h3.push { cls := .type "tuple", data := .seq [ua, ub].toArray } } := by
        rw [hf]
        exact HandSPX.setFlight_upZ fl5 fun h4 hh4 up4 => wpAny_throw (tk _ _ ⟨e, Bg, sI, pins, σ', H', _, _, rfl, J, nbg, U5.trans up4, .inr (.inr (by rw [hs]; exact hh4)), nh, os, ag, hno rfl⟩)
      first
        | exact wpAny_bind (wpAny_pure (wpAny_bind out))
        | exact wpAny_bind out
  refine wpAny_mono ((hb _ (X.pn ++ pins) _ cat PassesOwn.looking).run [] s σ H D (I.toTry _) ⟨S, G, R, q1⟩) (fun f s1 hsp => ?_) (fun e s1 he => he)
  cases f with
  | next =>
    obtain ⟨σ', H', J', z⟩ := hsp
    exact wpAny_execs_nil ⟨σ', H', J'.ofTry ok, z⟩
  | brk =>
    obtain ⟨σ', H', J', z⟩ := hsp
    exact ⟨σ', H', J'.ofTry ok, z⟩
  | cont =>
    obtain ⟨σ', H', J', z⟩ := hsp
    exact ⟨σ', H', J'.ofTry ok, z⟩
  | ret u =>
    obtain ⟨v, σ', H', J', r, z⟩ := hsp
    exact ⟨v, σ', H', J'.ofTry ok, r, z⟩
end
end Z

set_option maxHeartbeats 2000000
/-! __init__ of an own exception class: Base.__init__(self, text); self.f = v. -/
namespace Z
open PySem PySem.Spec PyProof.Rows L2
/-- what the written part says of the class whose __init__ is named -/
structure InitC (re : Bool) (K : PySem.W.Frag) (Cb : Addr) : Prop where
  ga : PySem.W.specialIn K (.ref Cb) "__getattribute__" = some (some (.builtin "type.__getattribute__"))
  rd : PySem.W.readsIn K Cb (.type "type") = true
  fd : PySem.W.findCls K (.ref Cb) (.type "type") "__init__" = some (.val (.builtin (iniN re)))
section
variable {X : Cx} {e : Expr} {es : List Expr} {ta : TA} {p1 p2 pos : Pos} {b : Str} {Cb : Addr}
theorem pe_basei {re : Bool} {pl : Sem Bool} (hg : Gl X b) (hm : X.mg b = some (.ref Cb)) (nd : (b == ("__debug__" : Str)) = false) (T : InitC re X.K Cb) (ha : PA X (e :: es) ta)
    (hc : eval (.Call (.Attribute (.Name b p1) "__init__" p2) (e :: es) [] pos) X.env = (do
      let ov ← eval (.Name b p1) X.env
      standAt p2.atName
      let (f, first) ← holding [ov] (getMethod ov "__init__" pl)
      callWith pos f first (backTo pos (starEach (e :: es) X.env)) (backToKw pos (keywordEach [] X.env))))
    (he : starEach (e :: es) X.env = (false, eval e X.env) :: starEach es X.env) (hpl : (backTo pos (starEach es X.env)).any (·.1) = false) :
    PE X (.Call (.Attribute (.Name b p1) "__init__" p2) (e :: es) [] pos) (tVeG re X.K ta) := by
  refine ⟨fun pins s σ H Q I h => PySem.W.methodCall_KW (ld_glob I hg hm ?_ nd) hc⟩
  refine PySem.W.method_cls I.kIn T.ga (PySem.W.cls_value I.kIn T.rd T.fd (by cases re <;> rfl) ?_)
  refine PyProof.Rows.callWith_method1 (thn (ha.run pos pins _ σ H _ (I.tok _) h) fun us s1 hq => ?_) he hpl
  obtain ⟨vs, H1, I1, r1, a, C, ws, rfl, hl, T1, ea, q⟩ := hq
  cases r1 with
  | @cons _ u0 _ ur ra rw' =>
    obtain rfl : u0 = Value.ref a := ra
    exact oinit_okG T1 I1 ea (by rw [← Paired.length rw', sizeLine_eq]; omega) fun s' J => ⟨.non, H1, J, rfl, q⟩
theorem mc_eq {env : PySem.Env} {o : Expr} {nm : Str} {args : List Expr} (hb : attributeBase o nm env (eval o env) = eval o env) (hf : methodCallForm (args.length + ([] : List Keyword).length) (backTo pos (starEach args env)) (backToKw pos (keywordEach [] env)) = true) (hl : (p2.endLine == pos.line) = true) :
    eval (.Call (.Attribute o nm p2) args [] pos) env = (do
      let ov ← eval o env
      standAt p2.atName
      let (f, first) ← holding [ov] (getMethod ov nm (do return (← importBound o env).getD true))
      callWith pos f first (backTo pos (starEach args env)) (backToKw pos (keywordEach [] env))) := by
  have h1 : methodCallPos true o env p2 pos = pure pos := by unfold methodCallPos; rw [hl]; rfl
  have h2 : eval (.Call (.Attribute o nm p2) args [] pos) env = (do
      let ov ← attributeBase o nm env (eval o env)
      standAt p2.atName
      methodCall o nm p2 pos env ov (args.length + ([] : List Keyword).length) (backTo pos (starEach args env)) (backToKw pos (keywordEach [] env))) := by
    simp only [eval]
  rw [h2, hb]
  unfold methodCall
  rw [hf, h1]
  simp only [pure_bind, calleeOf, if_pos]
/-- an __init__'s text -/
def initB (b : Str) (fl : Str) (tx : Str) (kk : Nat) (q1 q2 q3 q4 q5 q6 q7 q8 q9 q10 : Pos) : List Stmt :=
  [.Expr (.Call (.Attribute (.Name b q1) "__init__" q2) [.Name "self" q3, .Constant (.str tx) kk q4] [] q5) q6, .Assign [.Attribute (.Name "self" q7) fl q8] (.Name fl q9) q10]
def initS (b fl : Str) (sc : Scope) : Bool := decide (sc.kind = .function) && !sc.isCoroutine && !sc.isGenerator && sc.names.all (fun y => !decide (y.2 = .free)) && decide (sc.names.lookup ("self" : Str) = some .local) && decide (sc.names.lookup fl = some .local) &&
  decide (sc.names.lookup b = some .globalImplicit) && !decide (fl = ("self" : Str)) && !(b == ("__debug__" : Str)) && !(fl == ("__debug__" : Str)) && !(fl == ("__classdict__" : Str))
theorem init_fn {re : Bool} {P : Program} {w : World} {K : PySem.W.Frag} {mg : Str → Option Value} {base : Heap} {f C : Addr} {fd : FuncData} {nm qual fl tx : Str} {params : Arguments} {scope : Scope} {dvs : List V} {kws : List (Str × V)} {kk : Nat} {q1 q2 q3 q4 q5 q6 q7 q8 q9 q10 : Pos}
    (F : FunD K nm qual params (initB b fl tx kk q1 q2 q3 q4 q5 q6 q7 q8 q9 q10) scope dvs kws f fd) (hs : initS b fl scope = true) (hln : (q2.endLine == q5.line) = true) (hm : mg b = some (.ref Cb)) (T : InitC re K Cb) : FnOk P w K mg base C8.CX0 1 f fd ["self", fl] (spI re K C fl) := by
  unfold initS at hs
  simp only [Bool.and_eq_true, decide_eq_true_eq, Bool.not_eq_true', decide_eq_false_iff_not, List.all_eq_true] at hs
  obtain ⟨⟨⟨⟨⟨⟨⟨⟨⟨⟨h1, h2⟩, h3⟩, h4⟩, h5⟩, h6⟩, h7⟩, h8⟩, h9⟩, h10⟩, h11⟩ := hs
  have sc : FnScope ["self", fl] ["self", fl] scope := ⟨h1, h2, h3, by simp [Ne.symm h8], rfl, fun x hx => by
    rcases List.mem_cons.mp hx with rfl | hx
    · exact .inl h5
    · obtain rfl := List.mem_singleton.mp hx
      exact .inl h6, h4⟩
  refine F.ok sc (fun vs H Q E h => ?_) (fun cdv A outer s H vs Q E hr h => ?_)
  · obtain ⟨a, y, rfl, _⟩ := h
    rfl
  · obtain ⟨a, y, rfl, T1, hno, ea, q⟩ := h
    have hv : ∀ {x : Str}, scope.names.lookup x = some .local → Vis (cxOf C8.CX0 P w K mg base ["self", fl] qual scope f cdv A outer s H E).nox.env.scope x := fun e => .inl e
    refine ⟨_, PSs.nox (pss_cons (ps_expr (pe_basei (X := (cxOf C8.CX0 P w K mg base ["self", fl] qual scope f cdv A outer s H E).nox) h7 hm h9 T (pa_cons (pe_var (i := 0) rfl (hv h5) (by decide) (by decide)) (pa_cons pe_str pa_nil)) (mc_eq rfl rfl hln) (by rfl) (by rfl)))
      (pss_one (ps_ostG (re := re) (pe_var (i := 0) rfl (hv h5) (by decide) (by decide)) (pe_var (i := 1) rfl (hv h6) h10 h11)))), ?_⟩
    refine ⟨_, rfl, a, C, [.str tx], rfl, by simp, T1, ea, _, rfl, _, rfl, a, C, rfl, T1, hno, ea, fun dx n1 n2 => q dx n1 n2⟩
end
end Z

set_option maxHeartbeats 2000000
/-! A lambda handed to an own def: the making, the call by the def that got it. -/
namespace Z
open PySem PySem.Spec PyProof.Rows L2
/-! ### what lies behind a stretch of a body -/
section
variable {B : Bx} {S S1 S2 : Sl} {σ : Sg} {G G1 G2 G' H H0 H1 H2 H' : Hp}
theorem Rel.post {iop : Option Addr} (R : Rel B S σ G H) (b : B.base = cutB B.h0 iop) (hp : ∀ p, iop = some p → G p = none) : Post (cutB B.h0 iop) B.tabs B.g0 B.h0 G H where
  ext := R.gx
  sub := R.sub
  gt := R.gt
  bas := by rw [← b]; exact R.bas
  tab := R.tab
  dm := R.dm
  new := fun a o e => by
    rcases R.gn a o e with z | z
    · exact .inl z
    · rw [b] at z
      unfold cutB at z
      split at z
      · rename_i w
        rw [hp a w] at e
        cases e
      · cases w : B.h0 a with
        | none => exact .inr rfl
        | some u =>
          rw [w] at z
          cases u <;> first | (cases z; done) | skip
          obtain ⟨u', h1, h2⟩ := R.dm a _ w
          rw [R.sub a o e] at h1
          cases h1
          rcases h2 with h2 | h2
          · exact absurd rfl (h2 _)
          · exact absurd (R.gt a o e) h2
theorem frzAll_rel : ∀ (is : List Nat) {S : Sl} {G : Hp}, Rel B S σ G H → ∃ G2, Rel B (frzAll S is) σ G2 H ∧ Stp S σ G H (frzAll S is) G2 H
  | [], S, G, R => ⟨G, R, Stp.refl⟩
  | i :: is, S, G, R => by
    have one : ∃ G2, Rel B (frz S i) σ G2 H ∧ Stp S σ G H (frz S i) G2 H := by
      unfold frz
      split
      · rename_i ds h
        obtain ⟨p, xs, h1, h2, h3, h4, h5⟩ := R.frz h
        refine ⟨_, h4, Ex.new h3, fun a o e _ _ => e, fun a o e => ?_, fun a w => ow_put w, fun a e => e⟩
        by_cases z : a = p
        · subst z; exact .inr (.inr ⟨i, ds, h, h1⟩)
        · rw [upd_ne z] at e; exact .inl e
      · exact ⟨G, R, Stp.refl⟩
    obtain ⟨G2, R2, s2⟩ := one
    obtain ⟨G3, R3, s3⟩ := frzAll_rel is R2
    exact ⟨G3, R3, s2.tr s3⟩
theorem hide_at {S : Sl} {i : Nat} {v : SV} (h : (hide S)[i]? = some (some v)) : S[i]? = some (some v) ∧ (∀ ds, v ≠ .own ds) ∧ (∀ a b d, v ≠ .thk a b d) ∧ ∀ i, v ≠ .bor i := by
  unfold hide at h
  rw [List.getElem?_map] at h
  cases e : S[i]? with
  | none => rw [e] at h; cases h
  | some o =>
    rw [e] at h
    cases o with
    | none => cases h
    | some w =>
      cases w <;> first | (cases h; done) | skip
      · cases h; exact ⟨rfl, fun _ z => by (cases z), fun _ _ _ z => by (cases z), fun _ z => by (cases z)⟩
      · cases h; exact ⟨rfl, fun _ z => by (cases z), fun _ _ _ z => by (cases z), fun _ z => by (cases z)⟩
theorem noOwn_at : ∀ {S : Sl} {i : Nat} {ds : List D}, noOwn S = true → S[i]? ≠ some (some (.own ds))
  | [], i, ds, _ => by simp
  | none :: r, 0, ds, h => by simp
  | none :: r, i + 1, ds, h => by rw [List.getElem?_cons_succ]; exact noOwn_at (S := r) h
  | some v :: r, 0, ds, h => by
    intro z
    have z' : v = .own ds := by simpa using z
    subst z'
    cases h
  | some v :: r, i + 1, ds, h => by
    rw [List.getElem?_cons_succ]
    refine noOwn_at (S := r) ?_
    cases v <;> first | exact h | cases h
/-- the lambda's own view -/
def lamB (B : Bx) (G H : Hp) : Bx := ⟨B.mg, fun _ _ _ _ => False, cutB H none, none, B.tabs, G, H⟩
theorem ek_cut {io : Option Addr} : Ek (cutB H io) H := fun a o e _ => (cutB_some e).1
theorem lam_rel (R : Rel B S σ G H) (P : Post (cutB H none) B.tabs G H G' H') : Rel (lamB B G' H') (hide S) σ G' H' where
  len := by unfold hide; rw [List.length_map]; exact R.len
  sub := P.sub
  bas := show Ek (cutB H' none) H' from ek_cut
  bt := fun a ps (e : cutB H' none a = some (.tbl ps)) => (cutB_some e).2.2 ps rfl
  gt := P.gt
  tab := P.tab
  at_ := fun i v e => by
    obtain ⟨e, n1, n2, n3⟩ := hide_at e
    obtain ⟨x, h1, h2⟩ := R.at_ i v e
    refine ⟨x, h1, ?_⟩
    cases v with
    | dat d => exact Rp.mono P.ext h2
    | exc c fs => exact ExcAt.mono P.ext h2
    | own ds => exact absurd rfl (n1 ds)
    | thk a b d => exact absurd rfl (n2 a b d)
    | bor i => exact absurd rfl (n3 i)
  inj := fun i j p xs ys e => absurd rfl ((hide_at e).2.1 xs)
  io := fun i p z => by cases z
  gx := Ex.refl
  gn := fun a o e => .inl e
  dm := Dm.ex Ex.refl
end
/-! ### the promise of a def that gets a lambda -/
/-- tl: the lambda called; r: what it gives, k, fs: what it raises -/
def ThkR (mg : Str → Option Value) (tabs : List (Addr × Str)) (H0 G0 : Hp) (r : Option D) (k : Str) (fs : Fs) (tl : XK → Hp → VK → Prop) : Prop :=
  ∀ (E : XK) (H G : Hp) (Q : VK), Post (cutB H0 none) tabs G0 H0 G H →
    (match r with
      | some d => ∀ x G' H', Post (cutB H none) tabs G H G' H' → Rp G' x d → Q x H'
      | none => ∀ C dd us G' H', Post (cutB H none) tabs G H G' H' → mg k = some (.ref C) → G' dd = some (.xd us) → FsR G' us fs → E (.ref C) (some dd) H') → tl E H Q
def TTz (mg : Str → Option Value) (tabs : List (Addr × Str)) (F : Fn) : (XK → Hp → VK → Prop) → Hp → VK → Prop := fun tl H Q => ∃ G r k fs, Ex G H ∧ (∀ a o, G a = some o → NoT o) ∧ LamX.Tabs tabs H ∧ ThkR mg tabs H G r k fs tl ∧
  match F.run [.thk r k fs] with
  | .ok v _ => ∀ x G' H', Post (cutB H none) tabs G H G' H' → RVc H G' H' v x → Q x H'
  | _ => False
structure FnT (X : Cx) (tabs : List (Addr × Str)) (x : Str) (F : Fn) : Prop where
  ex : ∃ (g : Addr) (Ng : List Str) (a : Str) (pg : Arguments) (bg : List Stmt) (sg : Scope) (dV kV doc pm cdv ct oc : Value) (an od : Option Addr) (osl : Array (Option Value)),
    X.mg x = some (.ref g) ∧ PySem.W.keepIn X.K (.ref g) = true ∧ X.K.lookup g = some ⟨oc, od, .func (PySem.W.fnOf x x pg bg sg dV kV doc pm an cdv ct), osl⟩ ∧ PySem.W.codeIn X.K cdv x = true ∧
    L2.Binds X.K (PySem.W.fnOf x x pg bg sg dV kV doc pm an cdv ct) [a] [] ∧ FnScope Ng [a] sg ∧ Ng[0]? = some a ∧ Vis sg a ∧ (a == ("__debug__" : Str)) = false ∧ (a == ("__classdict__" : Str)) = false ∧
    ∀ (A : Around) (outer : List Env) (s : Shared) (H : Hp) (Q : VK) (tl : XK → Hp → VK → Prop) (f c' : Addr) (q : Str), Room (F.lvl - 1) (A.deeper (envOfC x sg s.heap.objs.size g cdv)) → A.guards = some [] →
      (∀ (W : WX) (pn : List (Addr × Obj)) (xe : Value → Shared → Prop) (p1 p2 : Pos), Takes ((cxOf C8.CX0 X.prog X.w X.K X.mg X.base Ng x sg g cdv A outer s H C8.E0).tr pn xe) W →
        PE ((cxOf C8.CX0 X.prog X.w X.K X.mg X.base Ng x sg g cdv A outer s H C8.E0).tr pn xe) (.Call (.Name a p1) [] [] p2) (fun σZ HZ Q => σZ[0]? = some (some (.ref f)) ∧ HZ c' = some (LamX.CodeO c' q) ∧ tl (fun cls d H' => W cls d σZ H') HZ Q)) →
      H c' = some (LamX.CodeO c' q) → TTz X.mg tabs F tl H Q → ∃ t, PSs (cxOf C8.CX0 X.prog X.w X.K X.mg X.base Ng x sg g cdv A outer s H C8.E0) bg t ∧ t { nx := fun _ H' => Q .non H', rt := Q } (L2.start Ng [.ref f]) H
  nd : (x == ("__debug__" : Str)) = false
/-- what the context says where lambdas are made -/
structure LamI (X : Cx) (tabs : List (Addr × Str)) : Prop where
  ex : ∃ c P, LamX.TabB X.base X.mg c P ∧ X.env.code = .ref c ∧ (P, X.env.qual ++ "<lambda>") ∈ tabs ∧ ∀ p ∈ tabs, p.1 = P → p.2 = X.env.qual ++ "<lambda>"
section
variable {X : Cx} {pins : List (Addr × Obj)} {σ : Sg} {H : Hp} {s : Shared}
/-- the lambda is made; tables stay tables -/
theorem lam_mk {T : List (Addr × Str)} {prm : Arguments} {body : Expr} {scope : Scope} {pos : Pos} {E : Value → Shared → Prop} {Q : Value → Shared → Prop} (I : Inv X pins σ H s) (L : LamI X T) (hT : LamX.Tabs T H) (hd : defaultsOf prm X.env = ([], []))
    (hf : ∀ y ∈ scope.names, y.2 = .free → ∃ c, X.env.cells.lookup y.1 = some c)
    (h : ∀ (f c' : Addr) (pm ctv : Value) (H1 : Hp) (s' : Shared), Inv X pins σ H1 s' → Ek H H1 → Dm H H1 → LamX.Tabs T H1 → s'.heap.get? f = some (PySem.W.kla_obj "<lambda>" (X.env.qual ++ "<lambda>") prm body scope (cloFrom X.env.cells scope.names []) pm c' ctv) →
      H1 f = none → f ∉ frs X.stack → H1 c' = some (LamX.CodeO c' (X.env.qual ++ "<lambda>")) → Q (.ref f) s') :
    wpAny (model X.prog X.w) X.A (eval (.Lambda prm body scope pos) X.env) Q E s := by
  obtain ⟨c, P, TB, ec, hm, hu⟩ := L.ex
  obtain ⟨tb, tP, tO, tA⟩ := hT _ hm
  have at0 : s.heap.get? P = some { cls := .none, data := .fields tb } := I.hok P _ tP
  have out : ∀ f, s.heap.objs.size ≤ f → f ∉ frs X.stack := fun f le z => by
    rcases List.mem_cons.mp (I.stkSub _ z) with e | e
    · rw [e] at le
      exact absurd I.lt (Nat.not_lt.mpr le)
    · exact I.nofs le e
  refine PySem.W.kla_eval hd ?_
  cases hc : codeAmong pos tb.toList with
  | some cv =>
    obtain ⟨c1, rfl, co⟩ := tA pos cv hc
    refine PySem.W.kla_makeFunctionHit (mg := X.mg) (c := c) (P := P) (ps := tb) (closure_ok hf) I.ok.glob (I.mod.glob.keeps I.bk) ec (TB.code.keeps I.bk) at0 tO hc (TB.bm.keeps I.bk) fun ctv h1 tk up sz => ?_
    refine h _ c1 _ ctv H _ ?_ (fun _ _ e _ => e) (Dm.ex Ex.refl) hT (Heap.get?_push_size _ rfl) (I.hok.fresh sz) (out _ sz) co
    exact I.kept (h' := h1.push _) (t' := tk) fun b o e => Heap.get?_push_of_some _ (up b o e)
  | none =>
    refine PySem.W.kla_makeFunction (mg := X.mg) (c := c) (P := P) (ps := tb) (closure_ok hf) I.ok.glob (I.mod.glob.keeps I.bk) ec (TB.code.keeps I.bk) at0 tO hc TB.gP (TB.bm.keeps I.bk) fun c1 ctv h1 tk eb ge lt rc tab1 => ?_
    obtain ⟨c2, oc, vs, t, e2, g1, g2, g3⟩ := rc
    cases e2
    have nC : H c1 = none := I.hok.fresh ge
    have sz : s.heap.objs.size ≤ h1.objs.size := by omega
    have nPc : P ≠ c1 := ne_of_none tP nC
    have J := LamX.inv_table (t' := tk) (more := #[rawInt pos.line, rawInt pos.col, .ref c1]) (h' := h1.push (PySem.W.kla_obj "<lambda>" (X.env.qual ++ "<lambda>") prm body scope (cloFrom X.env.cells scope.names []) ((X.mg "__name__").getD .none) c1 ctv)) I tP
      (fun b o n e => Heap.get?_push_of_some _ (eb b o n e)) (Heap.get?_push_of_some _ tab1) ge ⟨oc, vs, t, Heap.get?_push_of_some _ g1, g2, g3⟩
    have up : Ek H (upd (upd H P (.tbl (tb ++ #[rawInt pos.line, rawInt pos.col, .ref c1]))) c1 (LamX.CodeO c1 (X.env.qual ++ "<lambda>"))) := fun b o e n => by
      rw [upd_ne (ne_of_none e nC)]
      by_cases z : b = P
      · subst z
        rw [tP] at e
        exact absurd (Option.some.inj e).symm (n tb)
      · rw [upd_ne z]; exact e
    have dm : Dm H (upd (upd H P (.tbl (tb ++ #[rawInt pos.line, rawInt pos.col, .ref c1]))) c1 (LamX.CodeO c1 (X.env.qual ++ "<lambda>"))) := fun b o e => by
      rw [upd_ne (ne_of_none e nC)]
      by_cases z : b = P
      · subst z
        exact ⟨_, upd_same, .inr fun n => n _ rfl⟩
      · exact ⟨o, by rw [upd_ne z]; exact e, Classical.em _⟩
    refine h h1.objs.size c1 ((X.mg "__name__").getD .none) ctv _ _ J up dm (fun p hp => ?_) (Heap.get?_push_size _ rfl) ?_ (out _ sz) upd_same
    · by_cases z : p.1 = P
      · rw [z, hu p hp z]
        refine ⟨_, by rw [upd_ne nPc, upd_same], by rw [Array.toList_append]; exact PySem.TriplesOk_snoc _ _ _ _ tO, fun p' cv q => ?_⟩
        rw [Array.toList_append] at q
        rcases LamX.among_app _ tO q with q | q
        · obtain ⟨c0, e1, e2⟩ := tA p' cv q
          exact ⟨c0, e1, up _ _ e2 LamX.codeO_ne⟩
        · exact ⟨c1, q, upd_same⟩
      · obtain ⟨tb2, a1, a2, a3⟩ := hT p hp
        refine ⟨tb2, by rw [upd_ne (ne_of_none a1 nC), upd_ne z]; exact a1, a2, fun p' cv q => ?_⟩
        obtain ⟨c0, e1, e2⟩ := a3 p' cv q
        exact ⟨c0, e1, up _ _ e2 LamX.codeO_ne⟩
    · have sP := Heap.lt_size at0
      rw [upd_ne (Nat.ne_of_gt lt), upd_ne (Nat.ne_of_gt (Nat.lt_of_lt_of_le sP sz))]
      exact I.hok.fresh sz
end
end Z

set_option maxHeartbeats 2000000
/-! A lambda handed to an own def: the rule. -/
namespace Z
open PySem PySem.Spec PyProof.Rows L2
section
variable {X : Cx} {pins : List (Addr × Obj)} {σ : Sg} {H : Hp} {s : Shared}
/-- the lambda called by the def that got it -/
theorem act_z {Ng : List Str} {qg : Str} {sg : Scope} {g f c' : Addr} {cdg pm ctv : Value} {prm : Arguments} {body : Expr} {scope : Scope} {k : Nat} {a : Str} {pn : List (Addr × Obj)} {xe : Value → Shared → Prop} {W : WX} {tb : XK → TE} {p1 p2 : Pos}
    (I : Inv X pins σ H s) (L : LamX.LamS X.env.scope scope) (hf : s.heap.get? f = some (PySem.W.kla_obj "<lambda>" (X.env.qual ++ "<lambda>") prm body scope (cloFrom X.env.cells scope.names []) pm c' ctv)) (hfn : H f = none) (hfr : f ∉ frs X.stack)
    (hbd : bindArgs (PySem.W.kla_fn "<lambda>" (X.env.qual ++ "<lambda>") prm body scope (cloFrom X.env.cells scope.names []) pm (.ref c') ctv) ⟨[], []⟩ = pure [])
    (tk : Takes ((cxOf C8.CX0 X.prog X.w X.K X.mg X.base Ng qg sg g cdg X.A X.stack s H C8.E0).tr pn xe) W) (hr : Room (k + 1) (X.A.deeper (envOfC qg sg s.heap.objs.size g cdg))) (hgd : X.A.guards = some [])
    (hb : ∀ (A : Around) (outer : List Env) (s : Shared) (H : Hp) (E : XK), Room k (A.deeper (LamX.lamEnv X scope s.heap.objs.size f c')) → A.guards = some [] → PE (LamX.lamCx X A outer s H E scope f c') body (tb E))
    (hN : Ng[0]? = some a) (hv : Vis sg a) (hd : (a == ("__debug__" : Str)) = false) (hcd : (a == ("__classdict__" : Str)) = false) :
    PE ((cxOf C8.CX0 X.prog X.w X.K X.mg X.base Ng qg sg g cdg X.A X.stack s H C8.E0).tr pn xe) (.Call (.Name a p1) [] [] p2)
      (fun σZ HZ Q => σZ[0]? = some (some (.ref f)) ∧ HZ c' = some (LamX.CodeO c' (X.env.qual ++ "<lambda>")) ∧ tb (fun cls d H' => W cls d σZ H') σ HZ Q) := by
  refine ⟨fun pz sz σz Hz Q Iz ⟨h0, hc, ht⟩ => wpAny_Call_Name_kw (thn ((pe_var (pos := p1) (i := 0) hN hv hd hcd).run pz sz σz Hz (fun v H1 => v = .ref f ∧ H1 = Hz) Iz ⟨.ref f, h0, rfl, rfl⟩) fun u s1 hq => ?_)⟩
  obtain ⟨v, H1, I1, r1, rfl, rfl⟩ := hq
  obtain rfl : u = Value.ref f := r1
  have atf := I1.base.keep f _ hf hfn hfr (fun z => nomatch (show f ∈ ([] : List Addr) from z))
  obtain ⟨⟨oc, vs, t, o1, o2, o3⟩, _, _⟩ := I1.hok c' _ hc
  refine PySem.W.callWith_F0 ⟨_, _, _, _, atf⟩ (wpAny_call (codeAny_mono (?_ : codeAny (model X.prog X.w) (X.A.deeper (envOfC qg sg s.heap.objs.size g cdg)) (.call (.ref f) ⟨[], []⟩)
    (CR (L2.CX X.prog X.w) (envOfC qg sg s.heap.objs.size g cdg :: X.stack) X.prog X.w H1 s1 Q fun cls d H' => W cls d σz H') s1) fun r s' hq => ?_))
  · refine PySem.W.kla_callFunE hr.depth atf rfl L.co L.gen rfl ⟨c', oc, vs, t, rfl, o1, o2, o3⟩ ?_
    rw [hbd]
    refine wpAny_pure (wpAny_newFunctionEnv (fun y hy => (L.own y hy).2) (fun y hy => nomatch hy) (fun h2 hns hsb => ⟨I1.nolimit.fresh _ hsb, ?_⟩) L.kind)
    have up : ∀ b o, s1.heap.get? b = some o → h2.get? b = some o := fun b o e => hsb.extBut b o (Nat.ne_of_lt (Heap.lt_size e)) (Heap.get?_push_of_some _ e)
    have un : Un (frs X.stack) [] H H1 s.heap s1.heap := I1.base
    have J := LamX.lam_start2 (E := fun cls d H' => W cls d σz H') (f := f) (c' := c') (tk := s1.toks + ([] : List (Str × Value)).length) I L I1.env0 hr.hd un hns up
    show codeAny _ _ (.expr body (LamX.lamEnv X scope s1.heap.objs.size f c')) _ _
    refine PySem.W.kla_codeExpr (wpAny_mono ((hb _ _ s1 H1 _ (hr.deeper _) hgd).run [] _ _ H1 Q J ht) (fun v s' hq => ?_) fun e s' hq => hq)
    obtain ⟨w', H', J', rv, q⟩ := hq
    exact ⟨w', H', J'.os, J'.bare, J'.base, J'.hok, rv, q⟩
  · cases r with
    | error e => exact tk e s' (XE.of_call I1 (fun cls d H' h => h) hq)
    | ok fl =>
      cases fl with
      | ret u => exact I1.after hq
      | next => exact False.elim hq
      | brk => exact False.elim hq
      | cont => exact False.elim hq
end
section
variable {X : Cx} {B : Bx} {W : WX} {c : Ctx} {S S0 S1 S2 : Sl} {σ : Sg} {G G00 G0 G1 G2 G' H H0 H1 H' : Hp} {p lpos pos : Pos} {fl : Sl → O SV}
/-- the lambda's body, read -/
def tLm (B : Bx) (fl : Sl → O SV) : XK → TE := fun E σ H Q => ∃ (Bl : Bx) (S : Sl) (G : Hp), Bl.mg = B.mg ∧ Bl.tabs = B.tabs ∧ Bl.io = none ∧ Rel Bl S σ G H ∧ K1 Bl (fun cls d _ H' => E cls d H') σ G (fl S) fun r S' => ∀ x G' H', Rel Bl S' σ G' H' → Stp S σ G H S' G' H' → RV Bl S' σ G' H H' r x → Q x H'
/-- what evLm makes of its body's value -/
def lmK (F : Fn) (S : Sl) (o : O SV) : O SV := match o with
  | .ok v S1 => (match settle S1 v with
    | .ok d _ => if noOwn S1 then callT F (.thk (some d) "" []) S else .bad
    | _ => .bad)
  | .exc k fs _ => callT F (.thk none k fs) S
  | .bad => .bad
theorem post_one {p : Addr} {o : HO} {H00 : Hp} {mgt : List (Addr × Str)} (P : Post (cutB H none) mgt G H G' H') (hp : H p = none) (h : H' p = some o) (hg : G' p = none) (nt : NoT o) : Post (cutB H none) mgt G H (upd G' p o) H' where
  ext := P.ext.tr (Ex.new hg)
  sub := fun a u e => by
    by_cases z : a = p
    · subst z; rw [upd_same] at e; cases e; exact h
    · rw [upd_ne z] at e; exact P.sub a u e
  gt := gt_upd P.gt nt
  bas := P.bas
  tab := P.tab
  dm := P.dm
  new := fun a u e => by
    by_cases z : a = p
    · subst z; exact .inr hp
    · rw [upd_ne z] at e; exact P.new a u e
/-- the lambda's promise, of its body's value -/
theorem thk_ok (R : Rel B S σ G H) (hm : B.mg = mg') {r : Option D} {k : Str} {fs : Fs} (h : (∃ d v S1 S2, r = some d ∧ fl (hide S) = .ok v S1 ∧ settle S1 v = .ok d S2 ∧ noOwn S1 = true) ∨ (r = none ∧ ∃ S1, fl (hide S) = .exc k fs S1)) :
    ThkR B.mg B.tabs H G r k fs (fun E H' Q' => tLm B fl E σ H' Q') := by
  intro E H' G' Q P cl
  refine ⟨lamB B G' H', hide S, G', rfl, rfl, rfl, lam_rel R P, ?_⟩
  rcases h with ⟨d, v, S1, S2, rfl, e1, e2, e3⟩ | ⟨rfl, S1, e1⟩
  · rw [e1]
    intro x G2 H2 R2 s2 rv
    have P2 : Post (cutB H' none) B.tabs G' H' G2 H2 := R2.post (iop := none) rfl fun p z => by cases z
    cases v with
    | dat d' =>
      cases e2
      exact cl x G2 H2 P2 rv
    | own xs =>
      cases e2
      obtain ⟨q, ys, rfl, h1, h2, h3, h4, h5⟩ := rv
      exact cl (.ref q) _ H2 (post_one (H00 := H) P2 h1 h4 h3 nt_lst) (.lst (.inl upd_same) (h5.mono (Ex.new h3)))
    | bor i =>
      unfold settle at e2
      dsimp only at e2
      split at e2
      · rename_i ds ed
        exact absurd ed (noOwn_at e3)
      · cases e2
    | exc a b => cases e2
    | thk a b cc => cases e2
  · rw [e1]
    intro C dd us G2 H2 R2 _ m1 m2 m3
    exact cl C dd us G2 H2 (R2.post (iop := none) rfl fun p z => by cases z) m1 m2 m3
theorem e_lm {F : Fn} {x : Str} {prm : Arguments} {body : Expr} {scope : Scope} {kk : Nat} (k : Nm X c B) (hx : isNm c x = some (.fn F)) (hF : FnT X B.tabs x F) (hl : F.lvl = kk + 2) (hl2 : F.lvl ≤ c.lvl) (L : LamI X B.tabs) (lo : lamOk c prm scope = true)
    (hb : ∀ (A : Around) (outer : List Env) (s : Shared) (H : Hp) (E : XK) (f c' : Addr), Room kk (A.deeper (LamX.lamEnv X scope s.heap.objs.size f c')) → A.guards = some [] → PE (LamX.lamCx X A outer s H E scope f c') body (tLm B fl E)) {is : List Nat} :
    PE X (.Call (.Name x p) [.Lambda prm body scope lpos] [] pos) (tE B W fun S => lmK F (frzAll S is) (fl (hide (frzAll S is)))) := by
  obtain ⟨h1, h2⟩ := isNm_ok hx
  obtain ⟨g, Ng, a, pg, bg, sg, dV, kV, doc, pm, cdv, ct, oc, an, od, osl, m1, m2, m3, m4, m5, m6, m7, m8, m9, m10, m11⟩ := hF.ex
  have hp : prm = ⟨[], [], none, [], [], none, []⟩ ∧ LamX.LamS X.env.scope scope := by
    unfold lamOk at lo
    simp only [Bool.and_eq_true] at lo
    obtain ⟨⟨⟨⟨z1, z2⟩, z3⟩, z4⟩, z5⟩ := lo
    refine ⟨by (split at z1 <;> first | rfl | (cases z1; done)), LamX.lamS_by ?_⟩
    unfold LamX.lamSB
    rw [k.sc]
    simp only [Bool.and_eq_true]
    exact ⟨⟨⟨z2, z3⟩, z4⟩, z5⟩
  obtain ⟨rfl, LS⟩ := hp
  refine ⟨fun pins s σ H Q I ⟨S, G, R, q⟩ => ?_⟩
  obtain ⟨G2, R2, s2⟩ := frzAll_rel is R
  have q : K1 B W σ G (lmK F (frzAll S is) (fl (hide (frzAll S is)))) fun r S' => ∀ x G' H', Rel B S' σ G' H' → Stp S σ G H S' G' H' → RV B S' σ G' H H' r x → Q x H' := q
  refine wpAny_Call_Name_kw (ld_glob I (glo_ok k.sc h1) m1 ?_ hF.nd)
  refine PySem.W.callWith_K (h₀ := X.base) I.ok.mod.kin m2 ?_ (by rfl) (by rfl)
  show wpAny _ _ (spliced ((false, eval (.Lambda ⟨[], [], none, [], [], none, []⟩ body scope lpos) X.env) :: backTo pos (starEach [] X.env))) _ _ s
  refine Calls.spliced_cons (lam_mk I L R.tab rfl (LS.has I.ok) fun f c' pm' ctv H1 s' I1 ek dm T1 hf hfn hfr hco => ?_)
  refine Calls.spliced_nil ⟨I1.kIn, ?_⟩
  -- the state behind the making
  have R3 : Rel B (frzAll S is) σ G2 H1 := R2.grow Ex.refl (fun a o e => ek a o (R2.sub a o e) (R2.gt a o e)) (R2.bas.trans ek) R2.gt T1 (fun a w => by
    obtain ⟨e1, e2, ys, e3⟩ := R2.ownH w
    exact ⟨e1, by rw [e3]; exact ek _ _ e3 nt_lst⟩) (fun a o e => .inl e) dm
  have s3 : Stp S σ G H (frzAll S is) G2 H1 := s2.tr ⟨Ex.refl, fun a o e n _ => ek a o e n, fun a o e => .inl e, fun a w => w, fun a e z => e (dm.no z)⟩
  have hr0 : Room (kk + 2) X.A := k.room.mono (by omega)
  -- what comes back
  have fin : ∀ (r : Option D) (kx : Str) (fs : Fs), ((∃ d v S1 S2, r = some d ∧ fl (hide (frzAll S is)) = .ok v S1 ∧ settle S1 v = .ok d S2 ∧ noOwn S1 = true) ∨ (r = none ∧ ∃ S1, fl (hide (frzAll S is)) = .exc kx fs S1)) →
      K1 B W σ G (callT F (.thk r kx fs) (frzAll S is)) (fun r S' => ∀ x G' H', Rel B S' σ G' H' → Stp S σ G H S' G' H' → RV B S' σ G' H H' r x → Q x H') → TTz X.mg B.tabs F (fun E H' Q' => tLm B fl E σ H' Q') H1 Q := fun r kx fs hh qq => by
    refine ⟨G2, r, kx, fs, R3.sub, R3.gt, T1, by rw [k.mg]; exact thk_ok (mg' := B.mg) R3 rfl hh, ?_⟩
    unfold callT at qq
    split at qq
    · exact qq.elim
    · split at qq
      · rename_i v ys ev
        try rw [ev]
        intro x G' H' P rc
        have P' : Post (cutB H1 none) B.tabs G2 H1 G' H' := P
        obtain ⟨R4, s4⟩ := after_gen (S2 := frzAll S is) (G2 := G') (fz := fun _ => False) R s3 R3 P' rfl P'.ext Ex.refl (fun a o e => (P'.new a o e).elim .inl fun z => .inr (.inl z)) (fun j w e => .inl ⟨e, fun ds _ => ⟨fun z => z, fun p _ z => by cases z⟩⟩) fun p z => by cases z
        refine qq x G' H' R4 s4 ?_
        cases v with
        | dat d => exact rc
        | own zs =>
          obtain ⟨pp, us, rfl, c1, c2, c3, c4⟩ := rc
          exact ⟨pp, us, rfl, dm.no c1, R3.now c1, c2, c3, c4⟩
        | bor i => exact rc.elim
        | exc k fs => exact rc.elim
        | thk a b d => exact rc.elim
      · exact qq.elim
  have tt : TTz X.mg B.tabs F (fun E H' Q' => tLm B fl E σ H' Q') H1 Q := by
    unfold lmK at q
    split at q
    · rename_i v S1 e1
      split at q
      · rename_i d S4 e2
        split at q
        · rename_i e3
          exact fin (some d) "" [] (.inl ⟨d, v, S1, S4, rfl, e1, e2, e3⟩) q
        · exact q.elim
      · exact q.elim
    · rename_i kx fs S1 e1
      exact fin none kx fs (.inr ⟨rfl, S1, e1⟩) q
    · exact q.elim
  have rc : codeAny (model X.prog X.w) X.A (.call (.ref g) ⟨[.ref f], []⟩) (CR C8.CX0 X.stack X.prog X.w H1 s' Q C8.E0) s' := by
    refine LamX.run_ofS (N := Ng) (ps := [a]) (us := [.ref f]) (vs := [.ref f]) (k := kk + 1) m3 m4 m6 hr0 I1.env0 (m5 s' [.ref f] I1.kIn rfl) (.cons rfl .nil) rfl fun hr' => ?_
    refine m11 X.A X.stack s' H1 Q _ f c' (X.env.qual ++ "<lambda>") (by rw [hl]; exact hr') k.grd (fun W pn xe p1 p2 tk => ?_) hco tt
    exact act_z (tb := tLm B fl) I1 LS hf hfn hfr rfl tk hr' k.grd (fun A outer s H E hr2 hg2 => hb A outer s H E f c' hr2 hg2) m7 m8 m9 m10
  refine wpAny_call (codeAny_mono rc fun r s2 hq => ?_)
  cases r with
  | error e => exact (show False from hq).elim
  | ok fl =>
    cases fl with
    | ret u => exact I1.after hq
    | next => exact False.elim hq
    | brk => exact False.elim hq
    | cont => exact False.elim hq
end
end Z

set_option maxHeartbeats 4000000
/-! The interpreter is sound. -/
namespace Z
open PySem PySem.Spec PyProof.Rows L2
def thkE : Sl → O SV := fun S => match S[0]? with
  | some (some (SV.thk (some d) _ _)) => .ok (.dat d) S
  | some (some (SV.thk none k fs)) => .exc k fs S
  | _ => .bad
structure Good (X : Cx) (c : Ctx) (B : Bx) (W : WX) : Prop where
  nm : Nm X c B
  nx : NmX X c
  tk : Takes X W
  sys : ∃ o, X.base.get? sysModules = some o
  fns : ∀ x F, c.G x = some (.fn F) → F.thk = false → FunZ X B.tabs x F
  fnt : ∀ x F, c.G x = some (.fn F) → F.thk = true → FnT X B.tabs x F
  xcs : ∀ x xc, c.xcl x = some xc → OwnX X 1 x xc
  lam : c.lam = true → LamI X B.tabs
  thk : c.hasT = true → ∀ a p1 p2, ix c a = some 0 → vis c a = true → PE X (.Call (.Name a p1) [] [] p2) (tE B W thkE)
section
variable {X : Cx} {B : Bx} {W : WX} {c : Ctx}
theorem Good.blk (g : Good X c B W) (s : Shared) (H : Hp) (scope : Scope) (C : Addr) (cl : List (Str × Addr)) (fp : List Addr) : Good (X.blk s H scope (compEnvC scope cl C X.env) fp) (c.blk scope) B W0 where
  nm := g.nm.blk s H scope C cl fp
  nx := g.nx.blk s H scope C cl fp
  tk := LamX.takes0
  sys := g.sys
  fns := fun x F h1 h2 => ⟨(g.fns x F h1 h2).ex, (g.fns x F h1 h2).nd⟩
  fnt := fun x F h1 h2 => ⟨(g.fnt x F h1 h2).ex, (g.fnt x F h1 h2).nd⟩
  xcs := fun x xc h => ⟨(g.xcs x xc h).ex, (g.xcs x xc h).nd⟩
  lam := fun z => by cases z
  thk := fun z => by cases z
theorem Named.to {X' : Cx} {t : Str} {cv : V} {u : Value} (n : Named X t cv u) (e : X'.mg = X.mg) : Named X' t cv u := ⟨by rw [e]; exact n.ok, n.rel, n.cls, n.nd⟩
theorem Good.lamC (g : Good X c B W) {A : Around} {outer : List Env} {s : Shared} {H : Hp} {E : XK} {scope : Scope} {f c' : Addr} {kk : Nat} (hr : Room kk (A.deeper (LamX.lamEnv X scope s.heap.objs.size f c'))) (hg : A.guards = some []) {Bl : Bx} (h1 : Bl.mg = B.mg) (h2 : Bl.tabs = B.tabs) (h3 : Bl.io = none) :
    Good (LamX.lamCx X A outer s H E scope f c') (c.lamC scope kk) Bl (fun cls d _ H' => E cls d H') where
  nm := ⟨g.nm.N, g.nm.nd, rfl, g.nm.mg.trans h1.symm, rfl, hg, hr, by rw [h3]; rfl, g.nm.okN, g.nm.okG, g.nm.val, g.nm.bi, fun x h => by cases h⟩
  nx := ⟨g.nx.own, fun t h => by
    obtain ⟨cv, u, n⟩ := g.nx.named t h
    exact ⟨cv, u, n.to rfl⟩, fun kk t b h => by
    obtain ⟨h1, C, cv, u, h2, h3, n, h4⟩ := g.nx.isx kk t b h
    exact ⟨h1, C, cv, u, h2, h3, n.to rfl, h4⟩⟩
  tk := takes_of rfl rfl rfl rfl
  sys := g.sys
  fns := fun x F h4 h5 => by rw [h2]; exact ⟨(g.fns x F h4 h5).ex, (g.fns x F h4 h5).nd⟩
  fnt := fun x F h4 h5 => by rw [h2]; exact ⟨(g.fnt x F h4 h5).ex, (g.fnt x F h4 h5).nd⟩
  xcs := fun x xc h => ⟨(g.xcs x xc h).ex, (g.xcs x xc h).nd⟩
  lam := fun z => by cases z
  thk := fun z => by cases z
structure Snd (n : Nat) : Prop where
  ev : ∀ {X c B W}, Good X c B W → ∀ e, PE X e (tE B W (Z.ev n c e))
  lc : ∀ {X c B W}, Good X c B W → ∀ elt tg it ifs scope pos, PE X (.ListComp elt [⟨tg, it, ifs, 0⟩] scope pos) (tE B W (evLC n c elt tg it ifs scope))
  cf : ∀ {X c B W}, Good X c B W → ∀ x F args kws p pos, isNm c x = some (.fn F) → PE X (.Call (.Name x p) args kws pos) (tE B W (evCF n c F args kws))
  cb : ∀ {X c B W}, Good X c B W → ∀ f args p pos, isNm c f = some .bi → noStar args = true → PE X (.Call (.Name f p) args [] pos) (tE B W (evCB n c f args))
  cm : ∀ {X c B W}, Good X c B W → ∀ y m args p ap pos, noStar args = true → (ap.endLine == pos.line) = true → args.length < 30 → PE X (.Call (.Attribute (.Name y p) m ap) args [] pos) (tE B W (evCM n c y m args))
  lm : ∀ {X c B W}, Good X c B W → ∀ x F body scope prm lpos p pos, isNm c x = some (.fn F) → F.thk = true → c.lam = true → lamOk c prm scope = true → F.lvl ≤ c.lvl → 2 ≤ F.lvl →
    PE X (.Call (.Name x p) [.Lambda prm body scope lpos] [] pos) (tE B W fun S => evLm n c F body scope (frzAll S (lamIx c scope)))
  b : ∀ {X c B W}, Good X c B W → ∀ op vs pos, PE X (.BoolOp op vs pos) (tE B W (evB n c op vs))
  t : ∀ {X c B W}, Good X c B W → ∀ e, PT X e (tT B W (evT n c e))
  l : ∀ {X c B W}, Good X c B W → ∀ op vs pos, PW X (.BoolOp op vs pos) (tT B W (evL n c op vs))
  ifs : ∀ {X c B W}, Good X c B W → ∀ fs, PTs X fs (tT B W (evIf n c fs))
  a : ∀ {X c B W}, Good X c B W → ∀ es, PA X es (tA B W (evA n c es))
  ln : ∀ {X c B W}, Good X c B W → ∀ e p, ∃ f, PE X e (tE B W f) ∧ ∀ S, evA n c [.Starred e p] S = (f S).bind fun x S1 => stA x S1 (.ok [] S1)
  k : ∀ {X c B W}, Good X c B W → ∀ ks, PK X ks (tA B W (evK n c ks))
  o : ∀ {X c B W}, Good X c B W → ∀ e, PO X e (tOI B W (evO n c e))
  i : ∀ {X c B W}, Good X c B W → ∀ tg it, PI X tg it (tI B W (evI n c tg it))
  x : ∀ {X c B W}, Good X c B W → ∀ e, PMk X e (tX B W (evX n c e))
theorem PTs.bad {fs : List Expr} : PTs X fs (tT B W fun _ => .bad) := ⟨fun _ _ _ _ _ _ ⟨_, _, _, h⟩ => h.elim⟩
theorem PO.bad {e : Option Expr} : PO X e (tOI B W fun _ => .bad) := ⟨fun _ _ _ _ _ _ ⟨_, _, _, h⟩ => h.elim⟩
theorem PMk.bad {e : Expr} : PMk X e (tX B W fun _ => .bad) := fun _ _ _ _ _ _ ⟨_, _, _, h⟩ => h.elim
theorem PE.ite {e : Expr} {b : Bool} {f : Sl → O SV} (h : b = true → PE X e (tE B W f)) : PE X e (tE B W fun S => if b then f S else .bad) := by
  cases b with
  | true => exact h rfl
  | false => exact PE.bad
theorem PT.ite {e : Expr} {b : Bool} {f : Sl → O Bool} (h : b = true → PT X e (tT B W f)) : PT X e (tT B W fun S => if b then f S else .bad) := by
  cases b with
  | true => exact h rfl
  | false => exact PT.bad
theorem snd0 : Snd 0 where
  ev := fun _ _ => PE.bad
  lc := fun _ _ _ _ _ _ _ => PE.bad
  cf := fun _ _ _ _ _ _ _ _ => PE.bad
  cb := fun _ _ _ _ _ _ _ => PE.bad
  cm := fun _ _ _ _ _ _ _ _ _ _ => PE.bad
  lm := fun _ _ _ _ _ _ _ _ _ _ _ _ _ _ _ => PE.bad
  b := fun _ _ _ _ => PE.bad
  t := fun _ _ => PT.bad
  l := fun _ _ _ _ => PW.bad
  ifs := fun _ _ => PTs.bad
  a := fun _ _ => PA.bad
  ln := fun _ _ _ => ⟨fun _ => .bad, PE.bad, fun _ => rfl⟩
  k := fun _ _ => PK.bad
  o := fun _ _ => PO.bad
  i := fun _ _ _ => PI.bad
  x := fun _ _ => PMk.bad
theorem evA_cons {n : Nat} {c : Ctx} {e : Expr} {r : List Expr} (h : noStar [e] = true) (S : Sl) : evA (n + 1) c (e :: r) S = (ev n c e S).bind fun x S1 => (evA n c r S1).bind fun xs S2 => .ok (x :: xs) S2 := by
  cases e <;> first | rfl | cases h
theorem PA.of {es : List Expr} {f g : Sl → O (List SV)} (h : PA X es (tA B W f)) (q : ∀ S, f S = g S) : PA X es (tA B W g) := by
  have z : f = g := funext q
  rw [← z]; exact h
theorem snd_a {n : Nat} (h : Snd n) {X c B W} (g : Good X c B W) : ∀ es, PA X es (tA B W (evA (n + 1) c es))
  | [] => a_nil
  | e :: r => by
    by_cases hs : noStar [e] = true
    · exact PA.of (a_cons hs (h.ev g e) (h.a g r)) fun S => (evA_cons hs S).symm
    · cases e <;> first | exact absurd rfl hs | skip
      exact a_star (h.ev g _) (h.a g r)
theorem snd_ln {n : Nat} (h : Snd n) {X c B W} (g : Good X c B W) : ∀ e p, ∃ f, PE X e (tE B W f) ∧ ∀ S, evA (n + 1) c [.Starred e p] S = (f S).bind fun x S1 => stA x S1 (.ok [] S1) := fun e p => by
  cases n with
  | zero => exact ⟨fun _ => .bad, PE.bad, fun _ => rfl⟩
  | succ m => exact ⟨_, h.ev g e, fun _ => rfl⟩
theorem snd_k {n : Nat} (h : Snd n) {X c B W} (g : Good X c B W) : ∀ ks, PK X ks (tA B W (evK (n + 1) c ks))
  | [] => k_nil
  | k :: r => k_cons (h.ev g k.value) (h.k g r)
theorem snd_o {n : Nat} (h : Snd n) {X c B W} (g : Good X c B W) : ∀ e, PO X e (tOI B W (evO (n + 1) c e))
  | none => o_none
  | some e => o_some (h.ev g e)
theorem snd_ifs {n : Nat} (h : Snd n) {X c B W} (g : Good X c B W) : ∀ fs, PTs X fs (tT B W (evIf (n + 1) c fs))
  | [] => ⟨fun pins s σ H Q I ⟨S, G, R, q⟩ => pts_nil.run pins s σ H Q I (q G H R Stp.refl)⟩
  | [t] => pts_one (h.t g t)
  | _ :: _ :: _ => PTs.bad
theorem PE.of {e : Expr} {f g : Sl → O SV} (h : PE X e (tE B W f)) (q : ∀ S, f S = g S) : PE X e (tE B W g) := by
  have z : f = g := funext q
  rw [← z]; exact h
theorem PT.of {e : Expr} {f g : Sl → O Bool} (h : PT X e (tT B W f)) (q : ∀ S, f S = g S) : PT X e (tT B W g) := by
  have z : f = g := funext q
  rw [← z]; exact h
theorem PW.of {e : Expr} {f g : Sl → O Bool} (h : PW X e (tT B W f)) (q : ∀ S, f S = g S) : PW X e (tT B W g) := by
  have z : f = g := funext q
  rw [← z]; exact h
theorem PMk.of {e : Expr} {f g : Sl → O (Str × Fs)} (h : PMk X e (tX B W f)) (q : ∀ S, f S = g S) : PMk X e (tX B W g) := by
  have z : f = g := funext q
  rw [← z]; exact h
theorem PI.of {tg it : Expr} {f g : Sl → O (List D)} (h : PI X tg it (tI B W f)) (q : ∀ S, f S = g S) : PI X tg it (tI B W g) := by
  have z : f = g := funext q
  rw [← z]; exact h
theorem O.bind_nil {α β : Type} {o : O α} {k : α → Sl → O β} (h : o = .bad) : o.bind k = .bad := by rw [h]; rfl
theorem evA0 {n : Nat} {c : Ctx} : ∀ S, evA n c [] S = .ok [] S ∨ evA n c [] S = .bad := fun S => by
  cases n with
  | zero => exact .inr rfl
  | succ n => exact .inl rfl
theorem evA_len {c : Ctx} : ∀ {n : Nat} {es : List Expr} {S S' : Sl} {vs : List SV}, noStar es = true → evA n c es S = .ok vs S' → vs.length = es.length
  | 0, es, S, S', vs, _, h => by cases h
  | n + 1, [], S, S', vs, _, h => by cases h; rfl
  | n + 1, e :: r, S, S', vs, hs, h => by
    have h1 : noStar [e] = true := by cases e <;> first | rfl | cases hs
    rw [evA_cons h1] at h
    obtain ⟨x, S1, h1, h2⟩ := O.bind_ok h
    obtain ⟨xs, S2, h3, h4⟩ := O.bind_ok h2
    cases h4
    rw [List.length_cons, List.length_cons, evA_len (star_tail hs) h3]
theorem evK0 {n : Nat} {c : Ctx} : ∀ S, evK n c [] S = .ok [] S ∨ evK n c [] S = .bad := fun S => by
  cases n with
  | zero => exact .inr rfl
  | succ n => exact .inl rfl
theorem evK_len {c : Ctx} : ∀ {n : Nat} {es : List Keyword} {S S' : Sl} {vs : List SV}, evK n c es S = .ok vs S' → vs.length = es.length
  | 0, es, S, S', vs, h => by cases h
  | n + 1, [], S, S', vs, h => by cases h; rfl
  | n + 1, e :: r, S, S', vs, h => by
    obtain ⟨x, S1, h1, h2⟩ := O.bind_ok (show (ev n c e.value S).bind (fun x S1 => (evK n c r S1).bind fun xs S2 => .ok (x :: xs) S2) = .ok vs S' from h)
    obtain ⟨xs, S2, h3, h4⟩ := O.bind_ok h2
    cases h4
    rw [List.length_cons, List.length_cons, evK_len h3]
theorem snd_x {n : Nat} (h : Snd n) {X c B W} (g : Good X c B W) : ∀ e, PMk X e (tX B W (evX (n + 1) c e)) := by
  intro e
  cases e <;> try exact PMk.bad
  rename_i f args kws pos
  cases f <;> try exact PMk.bad
  rename_i x p
  cases kws <;> try exact PMk.bad
  by_cases hg : (glo c x && (ix c x).isNone && decide (2 ≤ c.lvl) && noStar args) = true
  · cases hx : c.xcl x with
    | none => exact PMk.of PMk.bad fun S => by simp only [evX, hg, hx, if_true]
    | some xc =>
      have hg2 := hg
      simp only [Bool.and_eq_true, decide_eq_true_eq] at hg2
      exact PMk.of (x_mk (xc := xc) g.nm (g.xcs x xc hx) hg2.1.1.1 hg2.1.2 hg2.2 (h.a g args) fun e S => by rw [e]; exact evA0 S) fun S => by simp only [evX, hg, hx, if_true]
  · exact PMk.of PMk.bad fun S => by simp only [evX, hg] <;> rfl
theorem snd_b {n : Nat} (h : Snd n) {X c B W} (g : Good X c B W) : ∀ op vs pos, PE X (.BoolOp op vs pos) (tE B W (evB (n + 1) c op vs))
  | op, [], pos => PE.bad
  | .And, [a], pos => ⟨fun pins s σ H Q I q => (h.ev g a).run pins s σ H Q I q⟩
  | .Or, [a], pos => ⟨fun pins s σ H Q I q => (h.ev g a).run pins s σ H Q I q⟩
  | .And, a :: b :: r, pos => PE.of (e_and (h.ev g a) (h.b g .And (b :: r) pos)) fun S => rfl
  | .Or, a :: b :: r, pos => PE.of (e_or (h.ev g a) (h.b g .Or (b :: r) pos)) fun S => rfl
theorem snd_l {n : Nat} (h : Snd n) {X c B W} (g : Good X c B W) : ∀ op vs pos, PW X (.BoolOp op vs pos) (tT B W (evL (n + 1) c op vs))
  | op, [], pos => PW.bad
  | .And, [a], pos => pw_and1 (h.t g a)
  | .Or, [a], pos => pw_or1 (h.t g a)
  | .And, a :: b :: r, pos => PW.of (t_and (h.t g a) (h.l g .And (b :: r) pos)) fun S => rfl
  | .Or, a :: b :: r, pos => PW.of (t_or (h.t g a) (h.l g .Or (b :: r) pos)) fun S => rfl
theorem snd_t {n : Nat} (h : Snd n) {X c B W} (g : Good X c B W) : ∀ e, PT X e (tT B W (evT (n + 1) c e)) := by
  intro e
  have hu := g.nm.room.units
  cases e
  case BoolOp op vs pos => exact (h.l g op vs pos).pt
  case UnaryOp op a pos =>
    cases op
    case Not => exact t_not (h.t g a)
    all_goals exact PT.bad
  case Compare a ops bs pos =>
    match ops, bs with
    | [], _ => exact PT.bad
    | [op], [] => exact PT.bad
    | [op], [b] =>
      by_cases ho : plainC op b = true
      · exact PT.of (t_cmp hu (h.ev g a) (h.ev g b) ho) fun S => by simp only [evT, ho, if_true]
      · exact PT.of PT.bad fun S => by simp only [evT, ho] <;> rfl
    | [op], _ :: _ :: _ => exact PT.bad
    | [op, op2], [] => exact PT.bad
    | [op, op2], [b] => exact PT.bad
    | [op, op2], [b, d] =>
      by_cases ho : (plainOp op && plainOp op2) = true
      · have ho2 := ho
        rw [Bool.and_eq_true] at ho2
        exact PT.of (t_chain hu (h.ev g a) (h.ev g b) (h.ev g d) ho2.1 ho2.2) fun S => by simp only [evT, ho, if_true] <;> rfl
      · exact PT.of PT.bad fun S => by simp only [evT, ho] <;> rfl
    | [op, op2], _ :: _ :: _ :: _ => exact PT.bad
    | _ :: _ :: _ :: _, _ => exact PT.bad
  case Name x p => exact PT.of (t_truth (h.ev g _) rfl) fun S => rfl
  case Call f args kws p => exact PT.of (t_truth (h.ev g _) rfl) fun S => rfl
  case Subscript o i p => exact PT.of (t_truth (h.ev g _) rfl) fun S => rfl
  case Constant k j p => exact PT.of (t_truth (h.ev g _) rfl) fun S => rfl
  case Attribute o f p => exact PT.of (t_truth (h.ev g _) rfl) fun S => rfl
  all_goals exact PT.bad
theorem snd_lc {n : Nat} (h : Snd n) {X c B W} (g : Good X c B W) : ∀ elt tg it ifs scope pos, PE X (.ListComp elt [⟨tg, it, ifs, 0⟩] scope pos) (tE B W (evLC (n + 1) c elt tg it ifs scope)) := by
  intro elt tg it ifs scope pos
  by_cases hb : (lcOk c tg scope && forOk it) = true
  · have hb2 := hb
    rw [Bool.and_eq_true] at hb2
    exact PE.of (e_lc g.nm hb2.1 hb2.2 (h.i g tg it) (fun s H C cl fp => h.ifs (g.blk s H scope C cl fp) ifs) (fun s H C cl fp => h.ev (g.blk s H scope C cl fp) elt)) fun S => by simp only [evLC, hb, if_true]
  · exact PE.of PE.bad fun S => by simp only [evLC, hb] <;> rfl
theorem isTup_ex {tg : Expr} (h : isTup tg = true) : ∃ es k p, tg = .Tuple es k p := by
  unfold isTup at h
  split at h
  · exact ⟨_, _, _, rfl⟩
  · cases h
theorem snd_i {n : Nat} (h : Snd n) {X c B W} (g : Good X c B W) : ∀ tg it, PI X tg it (tI B W (evI (n + 1) c tg it)) := by
  intro tg it
  have seq : PI X tg it (tI B W fun S => (ev n c it S).bind fun x S1 => (settle S1 x).bind fun d S2 => O.of (itemsOf d) S2) := i_seq (h.ev g it)
  cases it
  case Call f args kws pos =>
    cases f
    case Name x p =>
      cases kws
      case nil =>
        have eq : ∀ S, evI (n + 1) c tg (.Call (.Name x p) args [] pos) S = if (decide (x = "range") && biG c x) = true then rngA args (evA n c args S)
          else if (decide (x = "enumerate") && biG c x) = true then enumA tg args (evA n c args S)
          else if (decide (x = "zip") && biG c x) = true then zipA tg args (evA n c args S)
          else (ev n c (.Call (.Name x p) args [] pos) S).bind fun x S1 => (settle S1 x).bind fun d S2 => O.of (itemsOf d) S2 := fun S => rfl
        by_cases h1 : (decide (x = "range") && biG c x) = true
        · have h1' := h1
          simp only [Bool.and_eq_true, decide_eq_true_eq] at h1'
          obtain ⟨rfl, hb⟩ := h1'
          refine PI.of (f := fun S => rngA args (evA n c args S)) ?_ fun S => by rw [eq, if_pos h1]
          match args with
          | [] => exact PI.bad
          | [a] =>
            by_cases hn : noStar [a] = true
            · exact PI.of (i_rng1 g.nm hb hn (h.a g _)) fun S => by simp only [rngA, hn, if_true]
            · exact PI.of PI.bad fun S => by simp only [rngA, hn] <;> rfl
          | [a, b] =>
            by_cases hn : noStar [a, b] = true
            · exact PI.of (i_rng2 g.nm hb hn (h.a g _)) fun S => by simp only [rngA, hn, if_true]
            · exact PI.of PI.bad fun S => by simp only [rngA, hn] <;> rfl
          | [a, b, d] =>
            by_cases hn : noStar [a, b, d] = true
            · exact PI.of (i_rng3 g.nm hb hn (h.a g _)) fun S => by simp only [rngA, hn, if_true]
            · exact PI.of PI.bad fun S => by simp only [rngA, hn] <;> rfl
          | _ :: _ :: _ :: _ :: _ => exact PI.bad
        · by_cases h2 : (decide (x = "enumerate") && biG c x) = true
          · have h2' := h2
            simp only [Bool.and_eq_true, decide_eq_true_eq] at h2'
            obtain ⟨rfl, hb⟩ := h2'
            refine PI.of (f := fun S => enumA tg args (evA n c args S)) ?_ fun S => by rw [eq, if_neg h1, if_pos h2]
            match args with
            | [] => exact PI.bad
            | [a] =>
              by_cases hn : (isTup tg && noStar [a]) = true
              · have hn' := hn
                rw [Bool.and_eq_true] at hn'
                obtain ⟨es, k, tp, rfl⟩ := isTup_ex hn'.1
                exact PI.of (i_enum g.nm hb hn'.2 (h.a g _)) fun S => by simp only [enumA, hn, if_true]
              · exact PI.of PI.bad fun S => by simp only [enumA, hn] <;> rfl
            | _ :: _ :: _ => exact PI.bad
          · by_cases h3 : (decide (x = "zip") && biG c x) = true
            · have h3' := h3
              simp only [Bool.and_eq_true, decide_eq_true_eq] at h3'
              obtain ⟨rfl, hb⟩ := h3'
              refine PI.of (f := fun S => zipA tg args (evA n c args S)) ?_ fun S => by rw [eq, if_neg h1, if_neg h2, if_pos h3]
              match args with
              | [] => exact PI.bad
              | [a] => exact PI.bad
              | [a, b] =>
                by_cases hn : (isTup tg && noStar [a, b]) = true
                · have hn' := hn
                  rw [Bool.and_eq_true] at hn'
                  obtain ⟨es, k, tp, rfl⟩ := isTup_ex hn'.1
                  exact PI.of (i_zip g.nm hb hn'.2 (h.a g _)) fun S => by simp only [zipA, hn, if_true]
                · exact PI.of PI.bad fun S => by simp only [zipA, hn] <;> rfl
              | _ :: _ :: _ :: _ => exact PI.bad
            · exact PI.of seq fun S => by rw [eq, if_neg h1, if_neg h2, if_neg h3]
      all_goals exact PI.of seq fun S => rfl
    all_goals exact PI.of seq fun S => rfl
  all_goals exact PI.of seq fun S => rfl
theorem snd_cb {n : Nat} (h : Snd n) {X c B W} (g : Good X c B W) : ∀ f args p pos, isNm c f = some .bi → noStar args = true → PE X (.Call (.Name f p) args [] pos) (tE B W (evCB (n + 1) c f args)) := by
  intro f args p pos hf hn
  by_cases h1 : f = "isinstance"
  · subst h1
    match args with
    | [] => exact PE.of PE.bad fun S => by simp only [evCB, if_true]
    | [a] => exact PE.of PE.bad fun S => by simp only [evCB, if_true]
    | [a, t] =>
      cases t
      case Name t tp =>
        by_cases hb : (isOk c t && noStar [a]) = true
        · have hb2 := hb
          rw [Bool.and_eq_true] at hb2
          exact PE.of (e_isi g.nm g.nx hf hb2.1 hb2.2 (h.ev g a)) fun S => by simp only [evCB, hb, if_true]
        · exact PE.of PE.bad fun S => by simp only [evCB, hb, if_true] <;> rfl
      all_goals exact PE.of PE.bad fun S => by simp only [evCB, if_true]
    | _ :: _ :: _ :: _ => exact PE.of PE.bad fun S => by simp only [evCB, if_true]
  · by_cases hrg : (decide (f = "tuple") && isRg c args) = true
    · have hrg2 := hrg
      rw [Bool.and_eq_true, decide_eq_true_eq] at hrg2
      obtain ⟨rfl, hr⟩ := hrg2
      have hr0 := hr
      unfold isRg at hr
      split at hr
      · rename_i r pr a q2
        simp only [Bool.and_eq_true, decide_eq_true_eq] at hr
        obtain ⟨⟨rfl, hb⟩, hn1⟩ := hr
        have hb' : isNm c "range" = some .bi := by
          unfold biG at hb
          split at hb
          · assumption
          · cases hb
        exact PE.of (e_tupR g.nm hf hb' hn1 (h.ev g a)) fun S => by simp only [evCB, h1, hr0, eq_self, decide_true, Bool.and_self, if_true, if_false]
      · cases hr
    match args with
    | [] => exact PE.of PE.bad fun S => by simp only [evCB, h1, hrg, List.isEmpty_nil, Bool.not_true, Bool.and_false] <;> rfl
    | e :: es =>
      by_cases hk : biKnown f = true
      · exact PE.of (e_bi g.nm g.sys hf hk hn (h.a g _)) fun S => by simp only [evCB, h1, hk, hrg, Bool.false_eq_true, List.isEmpty_cons, Bool.not_false, Bool.and_true, if_true, if_false]
      · exact PE.of PE.bad fun S => by simp only [evCB, h1, hk, hrg] <;> rfl
theorem snd_cm {n : Nat} (h : Snd n) {X c B W} (g : Good X c B W) : ∀ y m args p ap pos, noStar args = true → (ap.endLine == pos.line) = true → args.length < 30 → PE X (.Call (.Attribute (.Name y p) m ap) args [] pos) (tE B W (evCM (n + 1) c y m args)) := by
  intro y m args p ap pos hn hl h30
  have hu := g.nm.room.un
  cases hi : slot c y with
  | none => exact PE.of PE.bad fun S => by simp only [evCM, hi]
  | some i =>
    refine PE.of (f := fun S => cmA i m args (evA n c args S) S) ?_ fun S => by simp only [evCM, hi]
    have blank : (∀ S o, cmA i m args o S = .bad) → PE X (.Call (.Attribute (.Name y p) m ap) args [] pos) (tE B W fun S => cmA i m args (evA n c args S) S) := fun hf => PE.of PE.bad fun S => (hf S _).symm
    by_cases h1 : m = "append"
    · subst h1
      cases args with
      | nil => exact blank fun S o => by unfold cmA; split <;> rfl
      | cons e es => exact PE.of (e_meth (M := fun vs S2 => mAppend i vs S2) g.nm PySem.F.slot_list_append PySem.F.type_list_append mt_append hi hn h30 hl (h.a g _) fun R0 s R v ha q => m_append R0 s R v ha q) fun S => (by unfold cmA; cases S[i]? with | none => rfl | some v => (cases v with | none => rfl | some w => cases w <;> rfl))
    · by_cases h2 : m = "pop"
      · subst h2
        cases args with
        | nil => exact PE.of (e_pop g.nm hi hl) fun S => by unfold cmA mPop; split <;> (rename_i hh; simp only [hh]) <;> rfl
        | cons e es => exact PE.of (e_meth (M := fun vs S2 => mPopAt i vs S2) g.nm PySem.F.slot_list_pop PySem.F.type_list_pop mt_popAt hi hn h30 hl (h.a g _) fun R0 s R v ha q => m_popAt R0 s R v ha q) fun S => (by unfold cmA; cases S[i]? with
            | none => rfl
            | some o => cases o with
              | none => rfl
              | some v => cases v <;> rfl)
      · by_cases h3 : m = "index"
        · subst h3
          cases args with
          | nil => exact blank fun S o => by unfold cmA; split <;> rfl
          | cons e es => exact PE.of (e_meth (M := fun vs S2 => mIndex i vs S2) g.nm PySem.F.slot_list_index PySem.F.type_list_index (mt_indexD (by omega)) hi hn h30 hl (h.a g _) fun R0 s R v ha q => m_index R0 s R v ha q) fun S => (by unfold cmA; cases S[i]? with | none => rfl | some v => (cases v with | none => rfl | some w => cases w <;> rfl))
        · by_cases h4 : m = "count"
          · subst h4
            cases args with
            | nil => exact blank fun S o => by unfold cmA; split <;> rfl
            | cons e es => exact PE.of (e_meth (M := fun vs S2 => mCount i vs S2) g.nm PySem.F.slot_list_count PySem.F.type_list_count (mt_countD (by omega)) hi hn h30 hl (h.a g _) fun R0 s R v ha q => m_count R0 s R v ha q) fun S => (by unfold cmA; cases S[i]? with | none => rfl | some v => (cases v with | none => rfl | some w => cases w <;> rfl))
          · by_cases h5 : m = "insert"
            · subst h5
              cases args with
              | nil => exact blank fun S o => by unfold cmA; split <;> rfl
              | cons e es => exact PE.of (e_meth (M := fun vs S2 => mInsert i vs S2) g.nm PySem.F.slot_list_insert PySem.F.type_list_insert mt_insert hi hn h30 hl (h.a g _) fun R0 s R v ha q => m_insert R0 s R v ha q) fun S => (by unfold cmA; cases S[i]? with
                | none => rfl
                | some o => cases o with
                  | none => rfl
                  | some v => cases v <;> rfl)
            · exact blank fun S o => by
                unfold cmA
                split
                · rw [if_neg h1, if_neg h2, if_neg h3, if_neg h4, if_neg h5]
                · rfl
theorem snd_lm {n : Nat} (h : Snd n) {X c B W} (g : Good X c B W) : ∀ x F body scope prm lpos p pos, isNm c x = some (.fn F) → F.thk = true → c.lam = true → lamOk c prm scope = true → F.lvl ≤ c.lvl → 2 ≤ F.lvl →
    PE X (.Call (.Name x p) [.Lambda prm body scope lpos] [] pos) (tE B W fun S => evLm (n + 1) c F body scope (frzAll S (lamIx c scope))) := by
  intro x F body scope prm lpos p pos hx ht hl ho l1 l2
  refine PE.of (e_lm (kk := F.lvl - 2) (fl := ev n (c.lamC scope (F.lvl - 2)) body) (is := lamIx c scope) g.nm hx (g.fnt x F (isNm_ok hx).2 ht) (by omega) l1 (g.lam hl) ho fun A outer s H E f c' hr hg => ?_) fun S => rfl
  exact ⟨fun pins s' σ H' Q I ⟨Bl, S, G, h1, h2, h3, R, q⟩ => (h.ev (g.lamC hr hg h1 h2 h3) body).run pins s' σ H' Q I ⟨S, G, R, q⟩⟩
theorem snd_cf {n : Nat} (h : Snd n) {X c B W} (g : Good X c B W) : ∀ x F args kws p pos, isNm c x = some (.fn F) → PE X (.Call (.Name x p) args kws pos) (tE B W (evCF (n + 1) c F args kws)) := by
  intro x F args kws p pos hx
  obtain ⟨hg, hG⟩ := isNm_ok hx
  by_cases ht : F.thk = true
  · have no : (∀ S, evCF (n + 1) c F args kws S = .bad) → PE X (.Call (.Name x p) args kws pos) (tE B W (evCF (n + 1) c F args kws)) := fun hf => PE.of PE.bad fun S => (hf S).symm
    match args, kws with
    | [], _ => exact no fun S => by simp only [evCF, ht, if_true]
    | [a], k :: ks => exact no fun S => by simp only [evCF, ht, if_true]
    | [a], [] =>
      cases a
      case Lambda prm body scope lpos =>
        by_cases hb : (c.lam && lamOk c prm scope && decide (F.lvl ≤ c.lvl) && decide (2 ≤ F.lvl)) = true
        · have hb2 := hb
          simp only [Bool.and_eq_true, decide_eq_true_eq] at hb2
          exact PE.of (h.lm g x F body scope prm lpos p pos hx ht hb2.1.1.1 hb2.1.1.2 hb2.1.2 hb2.2) fun S => by simp only [evCF, ht, hb, if_true]
        · exact no fun S => by simp only [evCF, ht, hb, if_true] <;> rfl
      all_goals exact no fun S => by simp only [evCF, ht, if_true]
    | _ :: _ :: _, _ => exact no fun S => by simp only [evCF, ht, if_true]
  · have ht0 : F.thk = false := by simpa using ht
    by_cases hl : F.lvl ≤ c.lvl
    · cases hst : F.star with
      | none =>
        have eq : ∀ S, evCF (n + 1) c F args kws S = if noStar args && kwOk kws then (match (kwNames kws).bind fun ns => F.plan args.length ns with
            | some src => (evA n c args S).bind fun ps S1 => (evK n c kws S1).bind fun ks S2 => (match pick src ps ks with
              | some vs => callF F vs S2
              | none => .bad)
            | none => .bad)
          else .bad := fun S => by simp only [evCF, ht0, hl, hst, decide_true, Bool.not_true] <;> rfl
        refine PE.of (?_ : PE X _ (tE B W fun S => _)) fun S => (eq S).symm
        by_cases h2 : (noStar args && kwOk kws) = true
        · have h2' := h2
          rw [Bool.and_eq_true] at h2'
          cases hk : kwNames kws with
          | none => exact PE.of PE.bad fun S => by rw [if_pos h2]; rfl
          | some ns =>
            cases hp : F.plan args.length ns with
            | none => exact PE.of PE.bad fun S => by rw [if_pos h2]; simp only [Option.bind, hp]
            | some src =>
              exact PE.of (e_fn g.nm g.tk hx (g.fns x F hG ht0) hst hl h2'.1 hk hp (h.a g args) (h.k g kws) (fun S vs S' e => evA_len h2'.1 e) (fun S vs S' e => evK_len e) fun e S => by rw [e]; exact evA0 S) fun S => by
                rw [if_pos h2]
                simp only [Option.bind, hp] <;> rfl
        · exact PE.of PE.bad fun S => by rw [if_neg h2]
      | some kk =>
        have eq : ∀ S, evCF (n + 1) c F args kws S = if starOk args kws && kwOk kws then (match (kwNames kws).bind fun ns => F.plan (starK kk args) ns with
            | some src => (evA n c args S).bind fun ps S1 => (evK n c kws S1).bind fun ks S2 => callS F (starK kk args) src ps ks S2
            | none => .bad)
          else .bad := fun S => by simp only [evCF, ht0, hl, hst, decide_true, Bool.not_true] <;> rfl
        refine PE.of (?_ : PE X _ (tE B W fun S => _)) fun S => (eq S).symm
        by_cases h2 : (starOk args kws && kwOk kws) = true
        · have h2' := h2
          rw [Bool.and_eq_true] at h2'
          cases hk : kwNames kws with
          | none => exact PE.of PE.bad fun S => by rw [if_pos h2]; rfl
          | some ns =>
            cases hp : F.plan (starK kk args) ns with
            | none => exact PE.of PE.bad fun S => by rw [if_pos h2]; simp only [Option.bind, hp]
            | some src =>
              refine PE.of (e_fnS g.nm g.tk hx (g.fns x F hG ht0) hst hl h2'.1 hk hp (h.a g args) (h.k g kws) (fun e p e1 => ?_) (fun S vs S' e => evK_len e) (fun e S => by rw [e]; exact evA0 S) fun e S => by rw [e]; exact evK0 S) fun S => by
                rw [if_pos h2]
                simp only [Option.bind, hp]
              subst e1
              exact h.ln g e p
        · exact PE.of PE.bad fun S => by rw [if_neg h2]
    · exact PE.of PE.bad fun S => by simp only [evCF, ht0, hl, decide_false, Bool.not_false] <;> rfl
theorem snd_ev {n : Nat} (h : Snd n) {X c B W} (g : Good X c B W) : ∀ e, PE X e (tE B W (ev (n + 1) c e)) := by
  intro e
  have hu := g.nm.room.units
  cases e
  case Name x p =>
    cases hi : ix c x with
    | some i =>
      by_cases hv : vis c x = true
      · exact PE.of (e_var g.nm hi hv) fun S => by simp only [ev, hi, hv, if_true] <;> rfl
      · exact PE.of PE.bad fun S => by simp only [ev, hi, hv] <;> rfl
    | none =>
      cases hx : isNm c x with
      | none => exact PE.of PE.bad fun S => by simp only [ev, hi, hx]
      | some v =>
        cases v with
        | val d => exact PE.of (e_val g.nm hx) fun S => by simp only [ev, hi, hx]
        | fn F => exact PE.of PE.bad fun S => by simp only [ev, hi, hx]
        | bi => exact PE.of PE.bad fun S => by simp only [ev, hi, hx]
  case Constant k j p =>
    cases k with
    | none => exact e_c pe_non rfl
    | bool b => exact e_c pe_bl rfl
    | int i => exact e_c pe_int rfl
    | str x => exact e_c pe_str rfl
    | _ => exact PE.bad
  case BinOp a op b p => exact PE.of (e_bin (h.ev g a) (h.ev g b)) fun S => rfl
  case UnaryOp op a p => exact PE.of (e_un (h.ev g a)) fun S => rfl
  case BoolOp op vs p => exact h.b g op vs p
  case Compare a ops bs pos =>
    match ops, bs with
    | [], _ => exact PE.bad
    | [op], [] => exact PE.bad
    | [op], [b] =>
      by_cases ho : plainC op b = true
      · exact PE.of (e_cmp hu (h.ev g a) (h.ev g b) ho) fun S => by simp only [ev, ho, if_true]
      · exact PE.of PE.bad fun S => by simp only [ev, ho] <;> rfl
    | [op], _ :: _ :: _ => exact PE.bad
    | [op, op2], [] => exact PE.bad
    | [op, op2], [b] => exact PE.bad
    | [op, op2], [b, d] =>
      by_cases ho : (plainOp op && plainOp op2) = true
      · have ho2 := ho
        rw [Bool.and_eq_true] at ho2
        exact PE.of (e_chain hu (h.ev g a) (h.ev g b) (h.ev g d) ho2.1 ho2.2) fun S => by simp only [ev, ho, if_true] <;> rfl
      · exact PE.of PE.bad fun S => by simp only [ev, ho] <;> rfl
    | [op, op2], _ :: _ :: _ :: _ => exact PE.bad
    | _ :: _ :: _ :: _, _ => exact PE.bad
  case IfExp t a b p => exact PE.of (e_if (h.t g t) (h.ev g a) (h.ev g b)) fun S => rfl
  case Tuple es k p => exact PE.of (e_tup (h.a g es)) fun S => rfl
  case List es p => exact PE.of (e_lst (h.a g es)) fun S => rfl
  case Dict ks vs p =>
    match ks, vs with
    | [], [] => exact PE.of e_dict fun S => rfl
    | [], _ :: _ => exact PE.bad
    | _ :: _, _ => exact PE.bad
  case Subscript o i p =>
    cases i
    case Slice lo hi st p2 =>
      cases st with
      | none => exact PE.of (e_slice (h.ev g o) (h.o g lo) (h.o g hi)) fun S => rfl
      | some s =>
        have gen : PE X (.Subscript o (.Slice lo hi (some s) p2) p) (tE B W fun S => (ev n c o S).bind fun x S1 => (evO n c lo S1).bind fun l S2 => (evO n c hi S2).bind fun h S3 => (evO n c (some s) S3).bind fun k S4 => match cont S4 x with
            | some d => O.of (stepD l h k d) S4
            | none => .bad) := e_step (h.ev g o) (h.o g lo) (h.o g hi) (h.o g (some s))
        cases lo with
        | some _ => exact PE.of gen fun S => by first | rfl | (simp only [ev] <;> rfl)
        | none =>
          cases hi with
          | some _ => exact PE.of gen fun S => by first | rfl | (simp only [ev] <;> rfl)
          | none =>
            by_cases hm : isM1 s = true
            · have hm2 := hm
              unfold isM1 at hm2
              split at hm2
              · exact PE.of (e_rev (h.ev g o)) fun S => rfl
              · cases hm2
            · have hm0 : isM1 s = false := by simpa using hm
              exact PE.of gen fun S => by simp only [ev, hm0] <;> rfl
    all_goals first | exact PE.bad | exact PE.of (e_ix rfl (h.ev g o) (h.ev g _)) fun S => rfl
  case ListComp elt gens scope p =>
    match gens with
    | [] => exact PE.bad
    | [⟨tg, it, ifs, k⟩] =>
      by_cases hk : k = 0
      · subst hk
        exact PE.of (h.lc g elt tg it ifs scope p) fun S => rfl
      · exact PE.of PE.bad fun S => by simp only [ev, hk, if_false]
    | _ :: _ :: _ => exact PE.bad
  case Attribute o f p =>
    cases o
    case Name y q => exact PE.of (e_fld g.nm g.nx (h.ev g (.Name y q))) fun S => rfl
    all_goals exact PE.bad
  case Call f args kws cp =>
    cases f
    case Name x p =>
      cases hi : ix c x with
      | some i =>
        by_cases hb : (vis c x && c.hasT && i == 0 && args.isEmpty && kws.isEmpty) = true
        · have hb2 := hb
          simp only [Bool.and_eq_true, beq_iff_eq, List.isEmpty_iff] at hb2
          obtain ⟨⟨⟨⟨hv, hT⟩, rfl⟩, rfl⟩, rfl⟩ := hb2
          exact PE.of (g.thk hT x p cp hi hv) fun S => by simp only [ev, hi, hb, if_true] <;> rfl
        · exact PE.of PE.bad fun S => by simp only [ev, hi, hb] <;> rfl
      | none =>
        cases hx : isNm c x with
        | none => exact PE.of PE.bad fun S => by simp only [ev, hi, hx]
        | some v =>
          cases v with
          | val d => exact PE.of PE.bad fun S => by simp only [ev, hi, hx]
          | fn F => exact PE.of (h.cf g x F args kws p cp hx) fun S => by simp only [ev, hi, hx]
          | bi =>
            by_cases hn : (noStar args && kws.isEmpty) = true
            · have hn2 := hn
              simp only [Bool.and_eq_true, List.isEmpty_iff] at hn2
              obtain ⟨hn2, rfl⟩ := hn2
              exact PE.of (h.cb g x args p cp hx hn2) fun S => by simp only [ev, hi, hx, hn, if_true]
            · exact PE.of PE.bad fun S => by simp only [ev, hi, hx, hn] <;> rfl
    case Attribute o m ap =>
      cases o
      case Name y p =>
        by_cases hn : (noStar args && kws.isEmpty && (ap.endLine == cp.line) && decide (args.length < 30)) = true
        · have hn2 := hn
          simp only [Bool.and_eq_true, List.isEmpty_iff, decide_eq_true_eq] at hn2
          obtain ⟨⟨⟨n1, rfl⟩, n3⟩, n4⟩ := hn2
          exact PE.of (h.cm g y m args p ap cp n1 n3 n4) fun S => by simp only [ev, hn, if_true]
        · exact PE.of PE.bad fun S => by simp only [ev, hn] <;> rfl
      all_goals exact PE.bad
    all_goals exact PE.bad
  all_goals exact PE.bad
theorem snd : ∀ n, Snd n
  | 0 => snd0
  | n + 1 =>
    have h := snd n
    { ev := snd_ev h, lc := snd_lc h, cf := snd_cf h, cb := snd_cb h, cm := snd_cm h, lm := snd_lm h, b := snd_b h, t := snd_t h, l := snd_l h, ifs := snd_ifs h, a := snd_a h, ln := snd_ln h, k := snd_k h, o := snd_o h, i := snd_i h, x := snd_x h }
end
end Z

set_option maxHeartbeats 4000000
/-! The interpreter is sound: statements. -/
namespace Z
open PySem PySem.Spec PyProof.Rows L2
structure GoodS (X : Cx) (c : Ctx) (B : Bx) (W : WX) : Prop where
  nm : Nm X c B
  nx : NmX X c
  tk : Takes X W
  sys : ∃ o, X.base.get? sysModules = some o
  fns : ∀ x F, c.G x = some (.fn F) → F.thk = false → FunZ X B.tabs x F
  fnt : ∀ x F, c.G x = some (.fn F) → F.thk = true → FnT X B.tabs x F
  xcs : ∀ x xc, c.xcl x = some xc → OwnX X 1 x xc
  lam : c.lam = true → LamI X B.tabs
  thk : c.hasT = true → ∀ W pn xe, Takes (X.tr pn xe) W → ∀ a p1 p2, ix c a = some 0 → vis c a = true → PE (X.tr pn xe) (.Call (.Name a p1) [] [] p2) (tE B W thkE)
  hs : X.stack = X.env :: X.outer
  hf : X.env.frame = some X.env.locals
  hex : X.ex = []
  kd : X.env.scope.kind = .function
  hp : PassesOwn (model X.prog X.w) X.A X.env X.xe
section
variable {X : Cx} {B : Bx} {W : WX} {c : Ctx}
theorem GoodS.good (g : GoodS X c B W) : Good X c B W := ⟨g.nm, g.nx, g.tk, g.sys, g.fns, g.fnt, g.xcs, g.lam, fun h a p1 p2 => g.thk h W X.pn X.xe g.tk a p1 p2⟩
theorem GoodS.tr (g : GoodS X c B W) {W' : WX} {pn : List (Addr × Obj)} {xe : Value → Shared → Prop} (tk : Takes (X.tr pn xe) W') (hp : PassesOwn (model X.prog X.w) X.A X.env xe) : GoodS (X.tr pn xe) c B W' where
  nm := ⟨g.nm.N, g.nm.nd, g.nm.sc, g.nm.mg, g.nm.calm, g.nm.grd, g.nm.room, g.nm.io, g.nm.okN, g.nm.okG, g.nm.val, g.nm.bi, g.nm.fn⟩
  nx := ⟨g.nx.own, fun t h => by
    obtain ⟨cv, u, n⟩ := g.nx.named t h
    exact ⟨cv, u, n.to rfl⟩, fun kk t b h => by
    obtain ⟨h1, C, cv, u, h2, h3, n, h4⟩ := g.nx.isx kk t b h
    exact ⟨h1, C, cv, u, h2, h3, n.to rfl, h4⟩⟩
  tk := tk
  sys := g.sys
  fns := fun x F h1 h2 => ⟨(g.fns x F h1 h2).ex, (g.fns x F h1 h2).nd⟩
  fnt := fun x F h1 h2 => ⟨(g.fnt x F h1 h2).ex, (g.fnt x F h1 h2).nd⟩
  xcs := fun x xc h => ⟨(g.xcs x xc h).ex, (g.xcs x xc h).nd⟩
  lam := fun h => ⟨(g.lam h).ex⟩
  thk := fun h W' pn' xe' tk' => g.thk h W' pn' xe' tk'
  hs := g.hs
  hf := g.hf
  hex := g.hex
  kd := g.kd
  hp := hp
theorem PS.of {st : Stmt} {f g : Sl → Fl} (h : PS X st (tS B W f)) (q : ∀ S, f S = g S) : PS X st (tS B W g) := by
  have z : f = g := funext q
  rw [← z]; exact h
structure SndS (n : Nat) : Prop where
  s : ∀ {X c B W}, GoodS X c B W → ∀ st, PS X st (tS B W (exS n c st))
  b : ∀ {X c B W}, GoodS X c B W → ∀ sts, PSs X sts (tS B W (exB n c sts))
theorem sndS_b {n : Nat} (h : SndS n) {X c B W} (g : GoodS X c B W) : ∀ sts, PSs X sts (tS B W (exB (n + 1) c sts))
  | [] => s_nil
  | st :: r => s_seq (h.s g st) (h.b g r)
theorem sndS_set {n : Nat} (h : SndS n) {X c B W} (g : GoodS X c B W) (x : Str) (px pos : Pos) (e : Expr) : PS X (.Assign [.Name x px] e pos) (tS B W (exS (n + 1) c (.Assign [.Name x px] e pos))) := by
  have hS := snd n
  cases ti : tgI c x with
  | none =>
    cases e
    case ListComp elt gens scope lp =>
      match gens with
      | [] => exact PS.of PS.bad fun S => by simp only [exS, ti, Option.isSome_none, Bool.and_false, Bool.false_and] <;> rfl
      | [⟨tg, it, ifs, k⟩] => exact PS.of PS.bad fun S => by simp only [exS, ti, Option.isSome_none, Bool.and_false, Bool.false_and] <;> rfl
      | _ :: _ :: _ => exact PS.of PS.bad fun S => by simp only [exS, ti, Option.isSome_none, Bool.and_false, Bool.false_and] <;> rfl
    all_goals exact PS.of PS.bad fun S => by simp only [exS, ti, Option.isSome_none, Bool.and_false] <;> rfl
  | some i =>
    by_cases hn : (notComp e || notLoc c x) = true
    · refine PS.of (s_set g.nm ti hn (hS.ev g.good e)) fun S => ?_
      cases e
      case ListComp elt gens scope lp =>
        have hn2 : notLoc c x = true := by simpa [notComp] using hn
        simp only [exS, ti, hn2, Option.isSome_some, Bool.and_true, if_true]
      all_goals simp only [exS, ti, hn, Option.isSome_some, Bool.and_true, if_true]
    · cases e
      case ListComp elt gens scope lp =>
        have hn2 : notLoc c x = false := by simpa [notComp] using hn
        match gens with
        | [] => exact PS.of PS.bad fun S => by simp only [exS, hn2, Bool.false_and] <;> rfl
        | [⟨tg, it, ifs, k⟩] =>
          by_cases hk : k = 0
          · subst hk
            by_cases hl : lcSet c x px scope lp = true
            · cases n with
              | zero => exact PS.of PS.bad fun S => by simp only [exS, ti, hn2, hl, Option.isSome_some, decide_true, Bool.and_true, Bool.false_and, if_true] <;> rfl
              | succ m =>
                by_cases hb : (lcOk c tg scope && forOk it) = true
                · have hb2 := hb
                  rw [Bool.and_eq_true] at hb2
                  have hm := snd m
                  refine PS.of (s_setLc g.nm ti hl hb2.1 hb2.2 (hm.i g.good tg it) (fun s H C cl fp => hm.ifs (g.good.blk s H scope C cl fp) ifs) (fun s H C cl fp => hm.ev (g.good.blk s H scope C cl fp) elt)) fun S => ?_
                  simp only [exS, ti, hn2, hl, evLC, hb, Option.isSome_some, decide_true, Bool.and_true, Bool.false_and, if_true] <;> rfl
                · exact PS.of PS.bad fun S => by simp only [exS, ti, hn2, hl, evLC, hb, Option.isSome_some, decide_true, Bool.and_true, Bool.false_and, if_true] <;> rfl
            · exact PS.of PS.bad fun S => by simp only [exS, hn2, hl, Bool.and_false, Bool.false_and] <;> rfl
          · exact PS.of PS.bad fun S => by simp only [exS, hn2, hk, decide_false, Bool.false_and] <;> rfl
        | _ :: _ :: _ => exact PS.of PS.bad fun S => by simp only [exS, hn2, Bool.false_and] <;> rfl
      all_goals exact PS.of PS.bad fun S => by simp only [exS, hn, Bool.false_and] <;> rfl
theorem sndS_tup {n : Nat} (h : SndS n) {X c B W} (g : GoodS X c B W) (es : List Expr) (k : Nat) (tp pos : Pos) (e : Expr) : PS X (.Assign [.Tuple es k tp] e pos) (tS B W (exS (n + 1) c (.Assign [.Tuple es k tp] e pos))) := by
  have hS := snd n
  by_cases ht : notTup e = true
  · refine PS.of (s_tupv g.nm (notTup_sw ht) (hS.ev g.good e)) fun S => ?_
    cases e <;> first | (cases ht; done) | (simp only [exS])
  · cases e
    case Tuple as k2 p2 =>
      by_cases hw : noSwp c es as = true
      · exact PS.of (s_tupv g.nm (no_swap g.nm.sc hw) (hS.ev g.good (.Tuple as k2 p2))) fun S => by simp only [exS, hw, if_true]
      cases hq : pairF es as with
      | none =>
        cases ht3 : tripF es as with
        | none => exact PS.of PS.bad fun S => by simp only [exS, hw, hq, ht3] <;> rfl
        | some q =>
          obtain ⟨x, px, y, py, z, pz, a, b, d⟩ := q
          unfold tripF at ht3
          split at ht3
          · cases ht3
            by_cases hb : (par3Ok c x y z px py pz a b d && (tgI c x).isSome && (tgI c y).isSome && (tgI c z).isSome) = true
            · have hb2 := hb
              simp only [Bool.and_eq_true] at hb2
              obtain ⟨⟨⟨h1, h2⟩, h3⟩, h4⟩ := hb2
              obtain ⟨i, hi⟩ := Option.isSome_iff_exists.mp h2
              obtain ⟨j, hj⟩ := Option.isSome_iff_exists.mp h3
              obtain ⟨l, hl⟩ := Option.isSome_iff_exists.mp h4
              have hs : noStar [a, b, d] = true := by
                unfold par3Ok at h1
                simp only [Bool.and_eq_true] at h1
                exact h1.1.1.2
              exact PS.of (s_par3 g.nm g.kd hi hj hl h1 (hS.a g.good [a, b, d])) fun S => by simp only [exS, hw, pairF, tripF, hb, if_true] <;> rfl
            · exact PS.of PS.bad fun S => by simp only [exS, hw, pairF, tripF, hb] <;> rfl
          · cases ht3
      | some q =>
        obtain ⟨x, px, y, py, a, b⟩ := q
        unfold pairF at hq
        split at hq
        · rename_i x1 px1 y1 py1 a1 b1
          cases hq
          by_cases hb : (parOk c x y px py a b && (tgI c x).isSome && (tgI c y).isSome) = true
          · have hb2 := hb
            simp only [Bool.and_eq_true] at hb2
            obtain ⟨⟨h1, h2⟩, h3⟩ := hb2
            obtain ⟨i, hi⟩ := Option.isSome_iff_exists.mp h2
            obtain ⟨j, hj⟩ := Option.isSome_iff_exists.mp h3
            have hs : noStar [a, b] = true := by
              unfold parOk at h1
              simp only [Bool.and_eq_true] at h1
              exact h1.1.1.2
            exact PS.of (s_par g.nm g.kd hi hj h1 (hS.a g.good [a, b])) fun S => by simp only [exS, hw, pairF, hb, if_true] <;> rfl
          · exact PS.of PS.bad fun S => by simp only [exS, hw, pairF, hb] <;> rfl
        · cases hq
    all_goals exact absurd rfl ht
theorem sndS_s {n : Nat} (h : SndS n) {X c B W} (g : GoodS X c B W) : ∀ st, PS X st (tS B W (exS (n + 1) c st)) := by
  intro st
  have hS := snd n
  cases st
  case Pass p => exact s_pass
  case Break p => exact s_break
  case Continue p => exact s_cont
  case Expr e p =>
    by_cases hn : notComp e = true
    · exact PS.of (s_expr hn (hS.ev g.good e)) fun S => by simp only [exS, hn, if_true]
    · exact PS.of PS.bad fun S => by simp only [exS, hn] <;> rfl
  case Return v p =>
    cases v with
    | none => exact s_retN g.nm.io
    | some e => exact s_ret g.nm.io (hS.ev g.good e)
  case If t a b p => exact s_if (hS.t g.good t) (h.b g a) (h.b g b)
  case While t body els p =>
    cases els with
    | nil => exact s_while g.hp (hS.t g.good t) (h.b g body)
    | cons _ _ => exact PS.bad
  case For tg it body els p =>
    cases els with
    | nil =>
      by_cases hf : forOk it = true
      · exact PS.of (s_for g.nm g.hp hf (hS.i g.good tg it) (h.b g body)) fun S => by simp only [exS, hf, if_true] <;> rfl
      · exact PS.of PS.bad fun S => by simp only [exS, hf] <;> rfl
    | cons _ _ => exact PS.bad
  case Raise e f p =>
    cases e with
    | none => exact PS.bad
    | some e =>
      cases f with
      | none => exact s_raise g.nm g.tk (hS.x g.good e)
      | some _ => exact PS.bad
  case AugAssign tg op e p =>
    cases tg
    case Name x px =>
      cases ti : tgI c x with
      | none => exact PS.of PS.bad fun S => by simp only [exS, ti]
      | some i => exact PS.of (s_aug g.nm ti (hS.ev g.good e)) fun S => by simp only [exS, ti]
    case Subscript o i pi =>
      cases o
      case Name x px =>
        by_cases hx : plainIx i = true
        · cases hj : slot c x with
          | none => exact PS.of PS.bad fun S => by simp only [exS, hx, hj, if_true]
          | some j => exact PS.of (s_augs g.nm hj hx (hS.ev g.good e) (hS.ev g.good i)) fun S => by simp only [exS, hx, hj, if_true]
        · exact PS.of PS.bad fun S => by simp only [exS, hx] <;> rfl
      all_goals exact PS.bad
    all_goals exact PS.bad
  case Assign tgs e p =>
    match tgs with
    | [] => exact PS.bad
    | [tg] =>
      cases tg
      case Name x px => exact sndS_set h g x px p e
      case Tuple es k tp => exact sndS_tup h g es k tp p e
      case Subscript o i ip =>
        cases o
        case Name x px =>
          by_cases hb : (notComp e && plainIx i && (slot c x).isSome) = true
          · have hb2 := hb
            simp only [Bool.and_eq_true] at hb2
            obtain ⟨⟨h1, h2⟩, h3⟩ := hb2
            obtain ⟨j, hj⟩ := Option.isSome_iff_exists.mp h3
            exact PS.of (s_sub g.nm hj h1 h2 (hS.ev g.good e) (hS.ev g.good i)) fun S => by simp only [exS, hb, if_true]
          · exact PS.of PS.bad fun S => by simp only [exS, hb] <;> rfl
        all_goals exact PS.bad
      all_goals exact PS.bad
    | _ :: _ :: _ => exact PS.bad
  case Try body hds els fin p =>
    cases els with
    | cons _ _ => exact PS.bad
    | nil =>
      cases fin with
      | cons _ _ => exact PS.bad
      | nil =>
        cases hq : tryF hds with
        | none => exact PS.of PS.bad fun S => by simp only [exS, hq] <;> rfl
        | some q =>
          obtain ⟨a, b, x, y, x'⟩ := q
          have hq0 := hq
          unfold tryF at hq
          split at hq
          · cases hq
            by_cases ho : tryOk c a b x y x' = true
            · have hx : x = x' := by
                have ho2 := ho
                unfold tryOk at ho2
                simp only [Bool.and_eq_true, decide_eq_true_eq] at ho2
                exact ho2.1.1.1.1.1.1.1.1.1
              subst hx
              exact PS.of (s_try g.nm g.nx g.tk g.hs g.hf g.hex ho fun W' pn xe tk hp => h.b (g.tr tk hp) body) fun S => by simp only [exS, hq0, ho, if_true]
            · exact PS.of PS.bad fun S => by simp only [exS, hq0, ho] <;> rfl
          · cases hq
  all_goals exact PS.bad
theorem sndS : ∀ n, SndS n
  | 0 => ⟨fun _ _ => PS.bad, fun _ _ => PSs.bad⟩
  | n + 1 =>
    have h := sndS n
    ⟨sndS_s h, sndS_b h⟩
end
end Z

set_option maxHeartbeats 4000000
/-! A def keeps its promise. -/
namespace Z
open PySem PySem.Spec PyProof.Rows L2
section
variable {B : Bx} {W : WX} {c : Ctx} {S S' : Sl} {σ : Sg} {G G' H H' : Hp}
theorem pad_at {α : Type} {l : List (Option α)} {n i : Nat} {v : α} (h : (l ++ List.replicate n none)[i]? = some (some v)) : l[i]? = some (some v) := by
  rw [List.getElem?_append] at h
  split at h
  · exact h
  · rw [List.getElem?_replicate] at h
    split at h <;> cases h
theorem at_pad {α : Type} {l : List (Option α)} {n i : Nat} {v : α} (h : l[i]? = some (some v)) : (l ++ List.replicate n none)[i]? = some (some v) := by
  rw [List.getElem?_append_left (List.getElem?_eq_some_iff.mp h).1]; exact h
theorem Rel.pad (R : Rel B S σ G H) (n : Nat) : Rel B (S ++ List.replicate n none) (σ ++ List.replicate n none) G H where
  len := by rw [List.length_append, List.length_append, R.len, List.length_replicate, List.length_replicate]
  sub := R.sub
  bas := R.bas
  bt := R.bt
  gt := R.gt
  tab := R.tab
  at_ := fun i v e => by
    obtain ⟨x, h1, h2⟩ := R.at_ i v (pad_at e)
    exact ⟨x, at_pad h1, h2⟩
  inj := fun i j p xs ys e1 e2 e3 e4 => R.inj i j p xs ys (pad_at e1) (pad_at e2) (pad_at e3) (pad_at e4)
  io := fun i p e => at_pad (R.io i p e)
  gx := R.gx
  gn := R.gn
  dm := R.dm
/-- the wish of a def's end, of its result -/
def Wish (B : Bx) (F : Fn) (res : Res) (Q : VK) (E : XK) : Prop := match res with
  | .ok r xs => ∀ x G' H', Post B.base B.tabs B.g0 B.h0 G' H' → ioP B.io G' H' xs → RVc B.h0 G' H' r x → Q x H'
  | .exc c fs => F.io = none ∧ ∀ C d us G' H', Post B.base B.tabs B.g0 B.h0 G' H' → B.mg c = some (.ref C) → G' d = some (.xd us) → FsR G' us fs → E (.ref C) (some d) H'
  | .bad => False
theorem io_list (R : Rel B S σ G H) {xs : List D} {i : Nat} {p : Addr} (e : B.io = some (i, p)) (h : S[i]? = some (some (.own xs))) : G p = none ∧ ∃ ys, H p = some (.lst ys) ∧ Rps G ys xs := by
  obtain ⟨x, h1, q, ys, rfl, h2, h3, h4, h5⟩ := R.at_ i _ h
  rw [R.io i p e] at h1
  cases h1
  exact ⟨h2, ys, h4, h5⟩
theorem post_end (bb : B.base = cutB B.h0 (B.io.map (·.2))) (R : Rel B S σ G H) (io : ioOwn (B.io.map (·.1)) S = true) : Post B.base B.tabs B.g0 B.h0 G H := by
  rw [bb]
  refine R.post bb fun p e => ?_
  cases z : B.io with
  | none => rw [z] at e; cases e
  | some ip =>
    obtain ⟨i, q⟩ := ip
    rw [z] at e io
    cases e
    unfold ioOwn at io
    dsimp only [Option.map] at io
    split at io
    · rename_i xs h
      exact (io_list R z h).1
    · cases io
theorem ends_ok {n : Nat} {body : List Stmt} {as : List SV} {F : Fn} {Q : VK} {E : XK} (bb : B.base = cutB B.h0 (B.io.map (·.2))) (hio : c.io = B.io.map (·.1)) (h : Wish B F (runF n c body as) Q E) (fio : F.io = c.io) {G1 : Hp} :
    SK B (fun cls d _ H' => E cls d H') { nx := fun _ H' => Q .non H', rt := Q } G1 (exB n c body (as.map some ++ List.replicate (c.N.length - as.length) none)) := by
  have ioP0 : ∀ {S' : Sl} {σ' : Sg} {G' H' : Hp} {xs : List D}, Rel B S' σ' G' H' → (∀ i, B.io.map (·.1) = some i → S'[i]? = some (some (.own xs))) → ioP B.io G' H' xs := fun {S' σ' G' H' xs} R hh i p e => io_list R e (hh i (by rw [e]; rfl))
  have ioO : ∀ {S' : Sl} {xs : List D}, (∀ i, B.io.map (·.1) = some i → S'[i]? = some (some (.own xs))) → ioOwn (B.io.map (·.1)) S' = true := fun {S' xs} hh => by
    unfold ioOwn
    split
    · rfl
    · rename_i k e
      rw [hh k e]
  unfold runF at h
  cases e : exB n c body (as.map some ++ List.replicate (c.N.length - as.length) none) with
  | bad => rw [e] at h; exact h.elim
  | bk S' => rw [e] at h; exact h.elim
  | ct S' => rw [e] at h; exact h.elim
  | nx S' =>
    rw [e, hio] at h
    intro σ' G' H' R _
    dsimp only at h
    split at h
    · rename_i z
      exact h .non G' H' (post_end bb R (by rw [z]; rfl)) (fun i p w => by rw [w] at z; cases z) .non
    · rename_i i z
      split at h
      · rename_i xs z2
        have hh : ∀ j, B.io.map (·.1) = some j → S'[j]? = some (some (.own xs)) := fun j w => by rw [z] at w; cases w; exact z2
        exact h .non G' H' (post_end bb R (ioO hh)) (ioP0 R hh) .non
      · exact h.elim
  | ret r S' =>
    rw [e, hio] at h
    intro x σ' G' H' R io rv
    have P := post_end bb R io
    have rc : RVc B.h0 G' H' r x := by
      cases r with
      | dat d => exact rv
      | own xs =>
        obtain ⟨p, ys, rfl, h1, h2, h3, h4, h5⟩ := rv
        refine ⟨p, ys, rfl, ?_, h3, h4, h5⟩
        rw [bb] at h1
        unfold cutB at h1
        split at h1
        · rename_i w
          cases z : B.io with
          | none => rw [z] at w; cases w
          | some ip => obtain ⟨i, q⟩ := ip; rw [z] at w; cases w; exact absurd z (h2 i)
        · cases w : B.h0 p with
          | none => rfl
          | some u =>
            rw [w] at h1
            cases u <;> first | (cases h1; done) | skip
            obtain ⟨u', k1, k2⟩ := R.dm p _ w
            rw [h4] at k1
            cases k1
            rcases k2 with k2 | k2
            · exact absurd rfl (k2 _)
            · exact absurd nt_lst k2
      | bor i => exact rv.elim
      | exc a b => exact rv.elim
      | thk a b d => exact rv.elim
    dsimp only at h
    split at h
    · rename_i z
      exact h x G' H' P (fun i p w => by rw [w] at z; cases z) rc
    · rename_i i z
      split at h
      · rename_i xs z2
        have hh : ∀ j, B.io.map (·.1) = some j → S'[j]? = some (some (.own xs)) := fun j w => by rw [z] at w; cases w; exact z2
        exact h x G' H' P (ioP0 R hh) rc
      · exact h.elim
  | exc k fs S' =>
    rw [e] at h
    intro C d vs σ' G' H' R _ m1 m2 m3
    have z : B.io.map (·.1) = none := by rw [← hio, ← fio]; exact h.1
    exact h.2 C d vs G' H' (post_end bb R (by rw [z]; rfl)) m1 m2 m3
end
section
variable {P : Program} {w : World} {K : PySem.W.Frag} {mg : Str → Option Value} {base : Heap} {tabs : List (Addr × Str)} {c : Ctx} {n k : Nat} {f : Addr} {fd : FuncData} {x qual : Str} {params : Arguments} {body : List Stmt} {scope : Scope} {dvs : List V} {kws : List (Str × V)}
/-- a def's own Fn -/
def fnOf (n : Nat) (c : Ctx) (body : List Stmt) (ps : List Str) (plan : Nat → List Str → Option (List Src)) (st : Option Nat := none) : Fn := { ps := ps, star := st, io := c.io, lvl := c.lvl + 1, plan := plan, run := runF n c body }
theorem fnz_of {ps : List Str} {plan : Nat → List Str → Option (List Src)} {sta : Option Nat} (F : FunD K x qual params body scope dvs kws f fd) (S : FnScope c.N ps scope)
    (hg : ∀ (cdv : Value) (A : Around) (outer : List Env) (s : Shared) (H : Hp) (E : XK) (B : Bx), PySem.W.codeIn K cdv qual = true → (∃ oc od osl, K.lookup f = some ⟨oc, od, .func fd, osl⟩ ∧ fd.code = cdv) → Room c.lvl (A.deeper (envOfC qual scope s.heap.objs.size f cdv)) → A.guards = some [] → B.mg = mg → B.tabs = tabs → B.io.map (·.1) = c.io →
      GoodS (cxOf (CX P w) P w K mg base c.N qual scope f cdv A outer s H E) c B (fun cls d _ H' => E cls d H')) : FnZ P w K mg base tabs (c.lvl + 1) f fd (fnOf n c body ps plan sta) := by
  obtain ⟨oc, od, dV, kV, doc, pm, an, cdv, ct, osl, rfl, lk, hcd, _, _⟩ := F.ex
  refine ⟨fun A outer s H args Q E hr hgd e0 hb => ?_⟩
  refine StX.run_bnd (CX := CX P w) (N := c.N) (ps := ps) (k := c.lvl) lk hcd S hr e0 hb fun s2 H2 vs sp hr' => ?_
  obtain ⟨as, B, G, b1, b2, b3, b4, b5, b6, b7, hl, R, only, res⟩ := sp
  have hl : vs.length = ps.length := hl
  have la : as.length = vs.length := by have := R.len; simpa using this
  have gs := hg cdv A outer s2 H2 E B hcd ⟨_, _, _, lk, rfl⟩ hr' hgd b1 b2 b3
  subst b1 b2 b4 b5
  refine ⟨_, (sndS n).b gs body, ?_⟩
  have R1 : Rel B (as.map some ++ List.replicate (c.N.length - as.length) none) (L2.start c.N vs) B.g0 B.h0 := by
    unfold L2.start
    rw [la]
    exact R.pad _
  exact ⟨_, _, R1, ends_ok b6 b3.symm (F := fnOf n c body ps plan) res rfl⟩
/-- what the context of a def with a lambda is asked -/
def ThkOk (X : Cx) (B : Bx) (c : Ctx) : Prop := c.hasT = true → ∀ W pn xe, Takes (X.tr pn xe) W → ∀ a p1 p2, ix c a = some 0 → vis c a = true → PE (X.tr pn xe) (.Call (.Name a p1) [] [] p2) (tE B W thkE)
def fnTOf (n : Nat) (c : Ctx) (body : List Stmt) (ps : List Str) : Fn := { ps := ps, thk := true, lvl := c.lvl + 1, plan := fun _ _ => none, run := runF n c body }
theorem fnt_of {X : Cx} {a : Str} (F : FunD X.K x x params body scope [] [] f fd) (hm : X.mg x = some (.ref f)) (hnd : (x == ("__debug__" : Str)) = false) (S : FnScope c.N [a] scope) (hb : L2.Binds X.K fd [a] []) (h0 : c.N[0]? = some a) (hv : Vis scope a) (n1 : (a == ("__debug__" : Str)) = false) (n2 : (a == ("__classdict__" : Str)) = false) (hio : c.io = none) {tabs : List (Addr × Str)}
    (hg : ∀ (cdv : Value) (A : Around) (outer : List Env) (s : Shared) (H : Hp) (B : Bx), PySem.W.codeIn X.K cdv x = true → Room c.lvl (A.deeper (envOfC x scope s.heap.objs.size f cdv)) → A.guards = some [] → B.mg = X.mg → B.tabs = tabs → B.io.map (·.1) = c.io →
      ThkOk (cxOf C8.CX0 X.prog X.w X.K X.mg X.base c.N x scope f cdv A outer s H C8.E0) B c → GoodS (cxOf C8.CX0 X.prog X.w X.K X.mg X.base c.N x scope f cdv A outer s H C8.E0) c B W0) : FnT X tabs x (fnTOf n c body [a]) := by
  obtain ⟨oc, od, dV, kV, doc, pm, an, cdv, ct, osl, rfl, lk, hcd, _, _⟩ := F.ex
  refine ⟨⟨f, c.N, a, params, body, scope, dV, kV, doc, pm, cdv, ct, oc, an, od, osl, hm, F.kp, lk, hcd, hb, S, h0, hv, n1, n2, fun A outer s H Q tl fl c' q hr hgd act hc tt => ?_⟩, hnd⟩
  obtain ⟨G, r, k, fs, t1, t2, t3, t4, t5⟩ := tt
  have hr : Room c.lvl (A.deeper (envOfC x scope s.heap.objs.size f cdv)) := hr
  let B : Bx := ⟨X.mg, fun v r' k' fs' => v = .ref fl ∧ r' = r ∧ k' = k ∧ fs' = fs, cutB H none, none, tabs, G, H⟩
  have R0 : Rel B [some (.thk r k fs)] [some (.ref fl)] G H := {
    len := rfl
    sub := t1
    bas := show Ek (cutB H none) H from ek_cut
    bt := fun a ps (e : cutB H none a = some (.tbl ps)) => (cutB_some e).2.2 ps rfl
    gt := t2
    tab := t3
    at_ := fun i v e => by
      cases i with
      | zero => cases e; exact ⟨_, rfl, rfl, rfl, rfl, rfl⟩
      | succ i => simp at e
    inj := fun i j p xs ys e => by
      cases i with
      | zero => simp at e
      | succ i => simp at e
    io := fun i p e => by cases e
    gx := Ex.refl
    gn := fun a o e => .inl e
    dm := Dm.ex Ex.refl }
  have thk : ThkOk (cxOf C8.CX0 X.prog X.w X.K X.mg X.base c.N x scope f cdv A outer s H C8.E0) B c := by
    intro hT W pn xe tk a' p1 p2 hi hv'
    have ea : a' = a := by
      have := lookup_idx hi
      rw [h0] at this
      exact (Option.some.inj this).symm
    subst ea
    refine PE.imp (act W pn xe p1 p2 tk) fun σ H1 Q1 ⟨S1, G1, R1, q1⟩ => ?_
    unfold thkE at q1
    have key : ∀ {r' : Option D} {k' : Str} {fs' : Fs}, S1[0]? = some (some (.thk r' k' fs')) → σ[0]? = some (some (.ref fl)) ∧ r' = r ∧ k' = k ∧ fs' = fs := fun {r' k' fs'} e => by
      obtain ⟨y, e1, e2, e3⟩ := R1.at_ 0 _ e
      subst e2
      exact ⟨e1, e3⟩
    have hc1 : H1 c' = some (LamX.CodeO c' q) := R1.bas c' _ (show cutB H none c' = _ from cutB_of hc LamX.codeO_ne (fun z => by cases z)) LamX.codeO_ne
    have P1 : Post (cutB H none) tabs G H G1 H1 := R1.post (iop := none) rfl fun p z => by cases z
    have grow : ∀ {G2 H2 : Hp}, Post (cutB H1 none) tabs G1 H1 G2 H2 → Rel B S1 σ G2 H2 ∧ Stp S1 σ G1 H1 S1 G2 H2 := fun {G2 H2} P2 =>
      after_gen (B := B) (S2 := S1) (G2 := G2) (iop := none) (fz := fun _ => False) R1 Stp.refl R1 P2 rfl P2.ext Ex.refl (fun a o e => (P2.new a o e).elim .inl fun z => .inr (.inl z)) (fun j w e => .inl ⟨e, fun ds _ => ⟨fun z => z, fun p _ z => by cases z⟩⟩) fun p z => by cases z
    split at q1
    · rename_i d k' fs' e
      obtain ⟨e1, rfl, rfl, rfl⟩ := key e
      refine ⟨e1, hc1, t4 _ H1 G1 Q1 P1 fun y G2 H2 P2 rp => ?_⟩
      obtain ⟨R2, s2⟩ := grow P2
      exact q1 y G2 H2 R2 s2 rp
    · rename_i k' fs' e
      obtain ⟨e1, rfl, rfl, rfl⟩ := key e
      refine ⟨e1, hc1, t4 _ H1 G1 Q1 P1 fun C dd us G2 H2 P2 m1 m2 m3 => ?_⟩
      obtain ⟨R2, s2⟩ := grow P2
      exact q1 C dd us G2 H2 R2 P2.ext m1 m2 m3
    · exact q1.elim
  have gs := hg cdv A outer s H B hcd hr hgd rfl rfl (by rw [hio]; rfl) thk
  refine ⟨_, (sndS n).b gs body, ?_⟩
  have R1 : Rel B ([SV.thk r k fs].map some ++ List.replicate (c.N.length - [SV.thk r k fs].length) none) (L2.start c.N [.ref fl]) G H := R0.pad _
  refine ⟨_, _, R1, ?_⟩
  have ee := ends_ok (B := B) (c := c) (n := n) (body := body) (as := [.thk r k fs]) (F := fnTOf n c body [a]) (Q := Q) (E := fun _ _ _ => False) (G1 := G) rfl (by rw [hio]; rfl) ?_ (by rw [hio]; rfl)
  · exact ee
  · have t5 : (match runF n c body [.thk r k fs] with
      | .ok v _ => ∀ x G' H', Post (cutB H none) tabs G H G' H' → RVc H G' H' v x → Q x H'
      | _ => False) := t5
    unfold Wish
    cases e : runF n c body [.thk r k fs] with
    | ok v xs =>
      rw [e] at t5
      exact fun y G' H' P _ rc => t5 y G' H' P rc
    | exc _ _ => rw [e] at t5; exact t5.elim
    | bad => rw [e] at t5; exact t5.elim
end
end Z

set_option maxHeartbeats 4000000
/-! A law's end; what is looked at behind the program's top. -/
namespace Z
open PySem PySem.Spec PyProof.Rows L2
/-- the heap ahead of the law: its script, the tables -/
def hp0 (a : Addr) (sc : Obj) (xs : List V) (T : List Addr) : Hp := fun b => if b = a then some (.frz sc (.lst xs)) else if b ∈ T then some (.tbl #[]) else none
def iD (ns : List Int) : List D := ns.map .int
theorem rps_iD {G : Hp} : ∀ ns : List Int, Rps G (ns.map V.int) (iD ns)
  | [] => .nil
  | n :: r => .cons (.int n) (rps_iD r)
abbrev bareT : Obj := { cls := .none, data := .fields #[] }
section
variable {P : Program} {w : World} {K : PySem.W.Frag} {mg mb : Str → Option Value} {fa a : Addr} {cs : List (Addr × Addr)} {fd : FuncData} {x : Str} {s₁ : Shared} {us : List Value} {ns : List Int} {F : Fn} {tabs : List (Addr × Str)}
theorem law_z (KX : K.In s₁.heap) (hG : s₁.heap.Ns mainGlobals mg) (hB : s₁.heap.Ns builtinsNs mb) (hbb : ∀ x : Str, x ≠ "__name__" → mb x = bootBuiltins x) (hlim : s₁.heap.NoLimit) (hgen : s₁.gens = #[])
    (hT : ∀ p ∈ cs, s₁.heap.get? p.2 = some bareT) (nT : ∀ p ∈ cs, K.lookup p.2 = none) (cd : ∀ p ∈ cs, PySem.W.CodeHd s₁.heap p.1 p.2)
    (hbm : ∃ (bm : Addr) (ob : Obj), mg "__builtins__" = some (.ref bm) ∧ bm ≠ builtinsNs ∧ s₁.heap.get? bm = some ob ∧ ob.cls = .type "module" ∧ ob.dict = some builtinsNs ∧ ob.data = .plain)
    (ha : s₁.heap.get? a = some { cls := .type "list", data := .seq us.toArray }) (hi : IntsAre us ns) (hl : ns.length ≤ sizeLine) (nl : ∀ b o, K.lookup b = some o → o.cls ≠ .type "list") (hr : Room F.lvl callerA)
    (hF : ∀ base : Heap, K.In base → base.Ns mainGlobals mg → (∀ p ∈ cs, LamX.TabB base mg p.1 p.2) → FnZ P w K mg base tabs F.lvl fa fd F) (hbind : ∀ (s : Shared) (u : Value), BindsTo s fd ⟨[u], []⟩ [(x, u)]) (hps : F.ps = [x]) (hio : F.io = none)
    (htab : ∀ p ∈ tabs, p.1 ∈ cs.map (·.2)) (run : ∃ xs, F.run [.dat (.list (iD ns))] = .ok (.dat (.bool true)) xs) :
    codeAny (model P w) callerA (.call (.ref fa) ⟨[.ref a], []⟩) (fun r s' => r = .ok (.ret (.bool true)) ∧ OldK s₁.heap s'.heap ∧ s'.os = s₁.os ∧ AllBare s'.gens) s₁ := by
  have rv := vals_ints hi
  let T := cs.map (·.2)
  let sc : Obj := { cls := .type "list", data := .seq us.toArray }
  let H := hp0 a sc (ns.map V.int) T
  have isT : ∀ {b : Addr}, b ∈ T → s₁.heap.get? b = some bareT := fun {b} hb => by
    obtain ⟨p, hp, rfl⟩ := List.mem_map.mp hb
    exact hT p hp
  have aT : a ∉ T := fun z => by
    have q := isT z
    rw [ha] at q
    cases congrArg Obj.data (Option.some.inj q)
  have atA : H a = some (.frz sc (.lst (ns.map V.int))) := if_pos rfl
  have atT : ∀ {b : Addr}, b ∈ T → H b = some (.tbl #[]) := fun {b} hb => (if_neg fun (z : b = a) => aT (by rw [← z]; exact hb)).trans (if_pos hb)
  have some_of : ∀ {b : Addr} {u : HO}, H b = some u → (b = a ∧ u = .frz sc (.lst (ns.map V.int))) ∨ (b ∈ T ∧ u = .tbl #[]) := fun {b u} e => by
    by_cases h1 : b = a
    · subst h1
      rw [atA] at e
      exact .inl ⟨rfl, (Option.some.inj e).symm⟩
    · by_cases h2 : b ∈ T
      · rw [atT h2] at e
        exact .inr ⟨h2, (Option.some.inj e).symm⟩
      · have e' : (if b = a then some (HO.frz sc (.lst (ns.map V.int))) else if b ∈ T then some (.tbl #[]) else none) = some u := e
        rw [if_neg h1, if_neg h2] at e'
        cases e'
  -- what is neither the script nor a table is in the base
  have free : ∀ {b : Addr} {o : Obj}, s₁.heap.get? b = some o → o ≠ sc → o ≠ bareT → H b = none := fun {b o} e n1 n2 => by
    cases q : H b with
    | none => rfl
    | some u =>
      rcases some_of q with ⟨h1, _⟩ | ⟨h1, _⟩
      · rw [h1, ha] at e
        exact absurd (Option.some.inj e).symm n1
      · rw [isT h1] at e
        exact absurd (Option.some.inj e).symm n2
  have low : ∀ {b : Addr} {o : Obj}, s₁.heap.get? b = some o → o ≠ sc → o ≠ bareT → (hidT s₁.heap H).get? b = some o := fun e n1 n2 => hidT_get e (free e n1 n2)
  have ns' : ∀ {b : Addr} {m : Str → Option Value}, s₁.heap.Ns b m → (hidT s₁.heap H).Ns b m := fun {b m} ⟨o, es, ep, e, d, r⟩ =>
    ⟨o, es, ep, low e (fun z => by rw [z] at d; cases d) (fun z => by rw [z] at d; cases d), d, r⟩
  have KB : K.In (hidT s₁.heap H) := fun b o e => hidT_get (KX b o e) (by
    cases q : H b with
    | none => rfl
    | some u =>
      rcases some_of q with ⟨h1, _⟩ | ⟨h1, _⟩
      · have z := KX b o e
        rw [h1, ha] at z
        exact absurd (congrArg Obj.cls (Option.some.inj z)).symm (nl b o e)
      · obtain ⟨p, hp, e2⟩ := List.mem_map.mp h1
        rw [← e2, nT p hp] at e
        cases e)
  have MO : L2.Mod K mg (hidT s₁.heap H) := ⟨KB, ns' hG, ⟨mb, ns' hB, hbb⟩, by
    obtain ⟨mc, h1, h2⟩ := hlim
    exact ⟨mc, ns' h1, h2⟩⟩
  have TB : ∀ p ∈ cs, LamX.TabB (hidT s₁.heap H) mg p.1 p.2 := fun p hp => by
    have notD : ∀ {b : Addr} {m : Str → Option Value}, s₁.heap.Ns b m → b ≠ p.2 := fun {b m} ⟨o, es, ep, e, d, _⟩ z => by
      rw [z, hT p hp] at e
      cases e
      cases d
    refine ⟨?_, ?_, notD hG⟩
    · obtain ⟨o, us, file, tf, flags, tg, inF, text, tt, e1, r1, r2, r3, r⟩ := cd p hp
      refine ⟨o, us, file, tf, flags, tg, inF, text, tt, low e1 (fun z => ?_) (fun z => ?_), r1, r2, r3, r⟩
      · rw [z] at r2; cases r2
      · rw [z] at r1; cases r1
    · obtain ⟨bm, ob, b1, b2, b3, b4, b5, b6⟩ := hbm
      refine ⟨bm, ob, b1, b2, fun q => ?_, fun q => ?_, low b3 (fun z => by rw [z] at b4; injection b4 with b4; exact absurd b4 (by decide)) (fun z => by rw [z] at b4; cases b4), b4, b5, b6⟩
      · obtain ⟨o, es, ep, e, d, _⟩ := hG
        rw [q, e] at b3
        cases b3
        rw [d] at b6
        cases b6
      · rw [q, hT p hp] at b3
        cases b3
        cases b4
  have hok : HOk P w H s₁.heap := fun b u e => by
    rcases some_of e with ⟨h1, h2⟩ | ⟨h1, h2⟩
    · subst h1 h2
      exact ⟨ha, by rw [List.length_map]; exact hl, us, _, rv, ha⟩
    · subst h2
      exact isT h1
  have E0 : Env0 P w K mg (hidT s₁.heap H) callerA [] s₁ H := ⟨rfl, MO, fun b o e => of_hidT e, Nat.le_of_eq (hidT_size _ _), trivial, fun b hb => (nomatch hb), hok, .of_eq hgen⟩
  let G : Hp := fun b => if b = a then some (.frz sc (.lst (ns.map V.int))) else none
  have gA : ∀ {b : Addr} {u : HO}, G b = some u → b = a ∧ u = .frz sc (.lst (ns.map V.int)) := fun {b u} e => by
    by_cases h1 : b = a
    · have e' := (if_pos h1).symm.trans e
      exact ⟨h1, (Option.some.inj e').symm⟩
    · have e' := (if_neg h1).symm.trans e
      cases e'
  obtain ⟨xs0, run⟩ := run
  have sp : spZ mg tabs F [.ref a] H (fun v _ => v = .bl true) (fun _ _ _ => False) := by
    refine ⟨[.dat (.list (iD ns))], ⟨mg, fun _ _ _ _ => False, cutB H none, none, tabs, G, H⟩, G, rfl, rfl, by rw [hio]; rfl, rfl, rfl, rfl, fun _ _ _ _ z => z, by rw [hps]; rfl, ?_, fun i ys e => ?_, ?_⟩
    · exact {
        len := rfl
        sub := fun b u e => by
          obtain ⟨h1, h2⟩ := gA e
          subst h1 h2
          exact atA
        bas := show Ek (cutB H none) H from ek_cut
        bt := fun b ps (e : cutB H none b = some (.tbl ps)) => (cutB_some e).2.2 ps rfl
        gt := fun b u e => by
          obtain ⟨_, h2⟩ := gA e
          subst h2
          exact fun ps z => by cases z
        tab := fun p hp => LamX.TabS.nil (atT (htab p hp))
        at_ := fun i v e => by
          cases i with
          | zero =>
            cases e
            exact ⟨_, rfl, .lst (.inr ⟨sc, if_pos rfl⟩) (rps_iD ns)⟩
          | succ i => simp at e
        inj := fun i j p xs ys e => by
          cases i with
          | zero => simp at e
          | succ i => simp at e
        io := fun i p e => by cases e
        gx := Ex.refl
        gn := fun b o e => .inl e
        dm := Dm.ex Ex.refl }
    · cases i with
      | zero => simp at e
      | succ i => simp at e
    · rw [run]
      intro y G' H' _ _ rc
      exact (show Rp G' y (.bool true) from rc).bool_iff
  refine codeAny_mono ((hF _ KB (ns' hG) TB).run callerA [] s₁ H ⟨[.ref a], []⟩ _ _ hr rfl E0 (bnd_of (us := [Value.ref a]) (vs := [V.ref a]) E0 (by rw [hps]; exact hbind s₁ (.ref a)) (.cons rfl .nil) (by rw [hps]; rfl) sp)) fun r s' h => ?_
  cases r with
  | error e =>
    obtain ⟨_, _, _, _, _, _, _, _, _, _, _, _, z⟩ := h
    exact z.elim
  | ok fl =>
    cases fl with
    | next => exact False.elim h
    | brk => exact False.elim h
    | cont => exact False.elim h
    | ret u =>
      obtain ⟨v, H', os, bare, un, hok', r', rfl⟩ := h
      obtain rfl : u = Value.bool true := r'
      have keep : ∀ b o, b ∉ T → s₁.heap.get? b = some o → s'.heap.get? b = some o := fun b o nb e => by
        by_cases h1 : b = a
        · subst h1
          obtain ⟨e2, _⟩ := (show ObjOk P w H' s'.heap b (.frz sc (.lst (ns.map V.int))) from hok' b _ (un.frzs b sc _ atA))
          rw [ha] at e
          cases e
          exact e2
        · exact un.keep b o e ((if_neg h1).trans (if_neg nb)) (fun z => (nomatch z)) (fun z => (nomatch z))
      have more : ∀ p ∈ cs, ∃ vs : Array Value, s'.heap.get? p.2 = some { cls := .none, data := .fields vs } := fun p hp => by
        obtain ⟨vs, z⟩ := un.tbls p.2 #[] (atT (List.mem_map.mpr ⟨p, hp, rfl⟩))
        exact ⟨_, hok' p.2 _ z⟩
      refine ⟨rfl, ⟨fun b o e => ?_, fun b o e => ?_⟩, os, bare⟩
      · by_cases hb : b ∈ T
        · obtain ⟨p, hp, rfl⟩ := List.mem_map.mp hb
          obtain ⟨vs, hv⟩ := more p hp
          rw [hT p hp] at e
          cases e
          exact .inr (.inl ⟨((cd p hp).tab (hT p hp)).isCodeTable, rfl, #[], vs, rfl, by rw [Array.empty_append]; exact hv⟩)
        · exact .inl (keep b o hb e)
      · by_cases hb : b ∈ T
        · obtain ⟨p, hp, rfl⟩ := List.mem_map.mp hb
          obtain ⟨vs, hv⟩ := more p hp
          exact ⟨_, hv⟩
        · exact ⟨o, keep b o hb e⟩
end
end Z

set_option maxHeartbeats 4000000
/-! What a program's module says, as one Bool; a def's context from it. -/
namespace Z
open PySem PySem.Spec PyProof.Rows L2
/-- what a law's program is told to have: exception classes and their field; constants; built-ins; classes that are asked by name; the raised ones with the class whose __init__ they name -/
structure Dsc where
  cls : List (Str × XC) := []
  vals : List (Str × D) := []
  bis : List Str := []
  tyO : List Str := []
  tyB : List (Str × String) := []
  isx : List ((Str × Str) × Bool) := []
  rs : List (Str × Str) := []
  fns : List Str := []
def nmOk (x : Str) : Bool := !(x == ("__debug__" : Str)) && !(x == ("__classdict__" : Str)) && !decide (x = ("__name__" : Str))
def gloB (K : PySem.W.Frag) (x : Str) : Bool := He.eqO (PySem.W.nsIn K mainGlobals x) (some (some (.ref (He.ga K x))))
def freeB (K : PySem.W.Frag) (x : Str) : Bool := He.eqO (PySem.W.nsIn K mainGlobals x) (some none)
def valB (K : PySem.W.Frag) (x : Str) (d : D) : Bool := match PySem.W.nsIn K mainGlobals x, vD d with
  | some (some u), some v => He.relB v u
  | _, _ => false
def Dsc.tyV (d : Dsc) (K : PySem.W.Frag) (t : Str) : Value := match d.tyB.lookup t with
  | some n => .type n
  | none => .ref (He.ga K t)
def excB (K : PySem.W.Frag) (C : Addr) (fl : Str) : Bool := He.eqO (PySem.W.findIn K (.ref C) "__getattribute__") (some (some (.builtin "BaseException.__getattribute__"))) && (He.eqO (PySem.W.findIn K (.ref C) "__getattr__") (some none) &&
  (decide (PySem.W.subIn K (.ref C) (.type "BaseException") = some true) && (PySem.W.hasDictIn K C && (He.eqO (PySem.W.findIn K (.ref C) "__class__") (some (some (.builtin "object.__class__"))) &&
  (He.eqO (PySem.W.specialIn K (.builtin "object.__class__") "__get__") (some (some (.builtin "getset_descriptor.__get__"))) && (decide (PySem.W.takesIn K (.builtin "object.__class__") = some true) && (decide (PySem.W.mroIn K C (.type "object") = some true) &&
  He.eqO (PySem.W.findIn K (.ref C) fl) (some none))))))))
def oexB (re : Bool) (K : PySem.W.Frag) (C : Addr) : Bool := match K.lookup C with
  | some o => (match o.cls, o.data, o.slots.toList with
    | .type t, .cls k, [_, _, _, _, some (.builtin nw), _] => decide (t = "type") && (decide (nw = newN re) && (!k.hasDel && (k.hasDict && (match k.mro with
      | v :: bm => decide (v = .ref C) && refsG re bm
      | [] => false))))
    | _, _, _ => false)
  | none => false
def rsB1 (re : Bool) (K : PySem.W.Frag) (x b : Str) : Bool := oexB re K (He.ga K x) && (He.eqO (PySem.W.findIn K (.ref (He.ga K x)) "__setattr__") (some (some (.builtin "object.__setattr__"))) && (decide (PySem.W.subIn K (.ref (He.ga K x)) (.type "BaseException") = some true) &&
  (decide (PySem.W.typeIn K (.ref (He.ga K x)) = some (.type "type")) && (PySem.W.keepIn K (.ref (He.ga K x)) && (He.eqO (PySem.W.findIn K (.ref (He.ga K x)) "__init__") (some (some (.ref (He.ma K (He.ga K x) "__init__")))) &&
  (decide (PySem.W.typeIn K (.ref (He.ma K (He.ga K x) "__init__")) = some (.type "function")) && (gloB K b && (He.eqO (PySem.W.specialIn K (.ref (He.ga K b)) "__getattribute__") (some (some (.builtin "type.__getattribute__"))) &&
  (PySem.W.readsIn K (He.ga K b) (.type "type") && (match PySem.W.findCls K (.ref (He.ga K b)) (.type "type") "__init__" with
    | some (.val (.builtin i)) => decide (i = iniN re)
    | _ => false))))))))))
def rsB (K : PySem.W.Frag) (x b : Str) : Bool := rsB1 false K x b || rsB1 true K x b
def Dsc.ex (d : Dsc) (K : PySem.W.Frag) : Bool := (d.fns.all fun t => gloB K t) && ((K.lookup sysModules).isSome && ((K.all fun p => !decide (p.2.cls = .type "list")) && ((d.vals.all fun p => valB K p.1 p.2) && ((d.bis.all fun x => freeB K x) &&
  ((d.cls.all fun p => gloB K p.1 && excB K (He.ga K p.1) p.2.fld) && ((d.tyO.all fun t => gloB K t) && ((d.tyB.all fun p => freeB K p.1) &&
  ((d.isx.all fun e => decide (PySem.W.kitOne K (.ref (He.ga K e.1.1)) (d.tyV K e.1.2) = some e.2) && decide (PySem.W.exmOne K (.ref (He.ga K e.1.1)) (d.tyV K e.1.2) = some e.2)) && d.rs.all fun p => gloB K p.1 && rsB K p.1 p.2))))))))
/-- what is seen of it without a heap -/
def Dsc.ok (d : Dsc) : Bool := (d.vals.all fun p => nmOk p.1) && ((d.bis.all nmOk) && ((d.tyO.all fun t => nmOk t && (d.tyB.lookup t).isNone) && ((d.tyB.all fun p => nmOk p.1 && decide (bootBuiltins p.1 = some (.type p.2))) &&
  ((d.isx.all fun e => (d.tyO.contains e.1.2 || (d.tyB.lookup e.1.2).isSome) && d.cls.any fun p => decide (p.1 = e.1.1)) && d.cls.all fun p => nmOk p.1))))
def Dsc.isTy (d : Dsc) (t : Str) : Bool := d.tyO.contains t || (d.tyB.lookup t).isSome
def gOf (d : Dsc) (fns : List (Str × Fn)) (x : Str) : Option GV := match fns.lookup x with
  | some F => some (.fn F)
  | none => match d.vals.lookup x with
    | some v => some (.val v)
    | none => if d.bis.contains x then some .bi else none
def mkC (d : Dsc) (fns : List (Str × Fn)) (N : List Str) (sc : Scope) (lvl : Nat) (io : Option Nat := none) (lam : Bool := false) (hasT : Bool := false) : Ctx :=
  { N := N, sc := sc, lvl := lvl, io := io, G := gOf d fns, xcl := fun x => d.cls.lookup x, isx := fun k t => d.isx.lookup (k, t), isT := d.isTy, own := ownS sc, lam := lam, hasT := hasT }
theorem lk_mem {α β : Type} [BEq α] [LawfulBEq α] {a : α} {b : β} : ∀ {l : List (α × β)}, l.lookup a = some b → (a, b) ∈ l
  | [], h => by cases h
  | (k, v) :: r, h => by
    rw [List.lookup_cons] at h
    cases q : a == k with
    | true => rw [q] at h; cases h; rw [beq_iff_eq.mp q]; exact List.mem_cons_self
    | false => rw [q] at h; exact List.mem_cons_of_mem _ (lk_mem h)
theorem exc_of {K : PySem.W.Frag} {C : Addr} {fl : Str} (h : excB K C fl = true) : ExcC K C ∧ PySem.W.findIn K (.ref C) fl = some none := by
  unfold excB at h
  simp only [Bool.and_eq_true, decide_eq_true_eq] at h
  obtain ⟨h1, h2, h3, h4, h5, h6, h7, h8, h9⟩ := h
  exact ⟨⟨He.eqO_ok h1, He.eqO_ok h2, h3, h4, He.eqO_ok h5, He.eqO_ok h6, h7, h8⟩, He.eqO_ok h9⟩
theorem oex_cls {re : Bool} {K : PySem.W.Frag} {C : Addr} (h : oexB re K C = true) : ∃ nm q N bs bm sn sub ab col dd k0 k1 k2 k3 k5, K.lookup C = some (excClassObj nm q C N bs bm true sn sub ab col dd k0 k1 k2 k3 k5 (newN re)) ∧ refsG re bm = true := by
  unfold oexB at h
  cases e : K.lookup C with
  | none => rw [e] at h; cases h
  | some o =>
    rw [e] at h
    obtain ⟨oc, od, dt, sl⟩ := o
    dsimp only at h
    split at h
    · rename_i t k s0 s1 s2 s3 nw s5 e3
      simp only [Bool.and_eq_true, decide_eq_true_eq, Bool.not_eq_true'] at h
      obtain ⟨rfl, rfl, h3, h4, h5⟩ := h
      split at h5
      · rename_i v bm e5
        simp only [Bool.and_eq_true, decide_eq_true_eq] at h5
        obtain ⟨rfl, h6⟩ := h5
        obtain ⟨nm, bs, mro, ns, qn, hd, sn, sub, ab, col, del⟩ := k
        dsimp only at h3 h4 e5
        subst h3 h4 e5
        have es : sl = #[s0, s1, s2, s3, some (.builtin (newN re)), s5] := by
          rw [← e3, Array.toArray_toList]
        subst es
        exact ⟨_, _, _, _, bm, _, _, _, _, _, _, _, _, _, _, rfl, h6⟩
      · cases h5
    · cases h
structure RsF1 (re : Bool) (K : PySem.W.Frag) (x b : Str) : Prop where
  oex : OexG re K (He.ga K x)
  fi : PySem.W.findIn K (.ref (He.ga K x)) "__init__" = some (some (.ref (He.ma K (He.ga K x) "__init__")))
  ty : PySem.W.typeIn K (.ref (He.ma K (He.ga K x) "__init__")) = some (.type "function")
  gb : gloB K b = true
  ini : InitC re K (He.ga K b)
structure RsF (K : PySem.W.Frag) (x b : Str) : Prop where
  one : ∃ re, RsF1 re K x b
  gb : gloB K b = true
theorem rs_of1 {re : Bool} {K : PySem.W.Frag} {x b : Str} (h : rsB1 re K x b = true) : RsF1 re K x b := by
  unfold rsB1 at h
  simp only [Bool.and_eq_true, decide_eq_true_eq] at h
  obtain ⟨h1, h2, h3, h4, h5, h6, h7, h8, h9, h10, h11⟩ := h
  refine ⟨⟨oex_cls h1, He.eqO_ok h2, h3, h4, h5⟩, He.eqO_ok h6, h7, h8, ⟨He.eqO_ok h9, h10, ?_⟩⟩
  split at h11
  · rename_i i e
    rw [e, of_decide_eq_true h11]
  · cases h11
theorem rs_of {K : PySem.W.Frag} {x b : Str} (h : rsB K x b = true) : RsF K x b := by
  unfold rsB at h
  rcases Bool.or_eq_true_iff.mp h with z | z
  · exact ⟨⟨_, rs_of1 z⟩, (rs_of1 z).gb⟩
  · exact ⟨⟨_, rs_of1 z⟩, (rs_of1 z).gb⟩
section
variable {X : Cx} {d : Dsc} {fns : List (Str × Fn)} {N : List Str} {sc : Scope} {lvl : Nat} {io : Option Nat} {lam hasT : Bool} {B : Bx} {W : WX}
theorem all_mem {α : Type} {l : List α} {p : α → Bool} (h : l.all p = true) {a : α} (m : a ∈ l) : p a = true := List.all_eq_true.mp h a m
theorem nm_of {x : Str} (h : nmOk x = true) : (x == ("__debug__" : Str)) = false ∧ (x == ("__classdict__" : Str)) = false ∧ x ≠ "__name__" := by
  unfold nmOk at h
  simp only [Bool.and_eq_true, Bool.not_eq_true', decide_eq_false_iff_not] at h
  exact ⟨h.1.1, h.1.2, h.2⟩
theorem g_fn {x : Str} {F : Fn} (h : gOf d fns x = some (.fn F)) : (x, F) ∈ fns := by
  unfold gOf at h
  split at h
  · rename_i F' e; cases h; exact lk_mem e
  · split at h
    · cases h
    · split at h <;> cases h
theorem g_val {x : Str} {v : D} (h : gOf d fns x = some (.val v)) : (x, v) ∈ d.vals := by
  unfold gOf at h
  split at h
  · cases h
  · split at h
    · rename_i e; cases h; exact lk_mem e
    · split at h <;> cases h
theorem g_bi {x : Str} (h : gOf d fns x = some .bi) : x ∈ d.bis := by
  unfold gOf at h
  split at h
  · cases h
  · split at h
    · cases h
    · split at h
      · rename_i e; exact List.contains_iff_mem.mp e
      · cases h
theorem glo_of (KX : X.K.In X.base) (GX : X.base.Ns mainGlobals X.mg) {x : Str} (h : gloB X.K x = true) : X.mg x = some (.ref (He.ga X.K x)) := PySem.W.mg_of KX GX (He.eqO_ok h)
theorem free_of (KX : X.K.In X.base) (GX : X.base.Ns mainGlobals X.mg) {x : Str} (h : freeB X.K x = true) : X.mg x = none := PySem.W.mg_none_of KX GX (He.eqO_ok h)
theorem val_of (KX : X.K.In X.base) (GX : X.base.Ns mainGlobals X.mg) {x : Str} {v : D} (h : valB X.K x v = true) : ∃ y u, vD v = some y ∧ X.mg x = some u ∧ RelV y u := by
  unfold valB at h
  split at h
  · rename_i u y e1 e2
    exact ⟨y, u, e2, PySem.W.mg_of KX GX e1, He.relB_ok h⟩
  · cases h
structure DexF (d : Dsc) (K : PySem.W.Frag) : Prop where
  fns : ∀ t ∈ d.fns, gloB K t = true
  sys : ∃ o, K.lookup sysModules = some o
  nl : ∀ b o, K.lookup b = some o → o.cls ≠ .type "list"
  vals : ∀ p ∈ d.vals, valB K p.1 p.2 = true
  bis : ∀ x ∈ d.bis, freeB K x = true
  cls : ∀ p ∈ d.cls, gloB K p.1 = true ∧ ExcC K (He.ga K p.1) ∧ PySem.W.findIn K (.ref (He.ga K p.1)) p.2.fld = some none
  tyO : ∀ t ∈ d.tyO, gloB K t = true
  tyB : ∀ p ∈ d.tyB, freeB K p.1 = true
  isx : ∀ e ∈ d.isx, PySem.W.kitOne K (.ref (He.ga K e.1.1)) (d.tyV K e.1.2) = some e.2 ∧ PySem.W.exmOne K (.ref (He.ga K e.1.1)) (d.tyV K e.1.2) = some e.2
  rs : ∀ p ∈ d.rs, gloB K p.1 = true ∧ RsF K p.1 p.2
theorem dex_of {K : PySem.W.Frag} (h : d.ex K = true) : DexF d K := by
  unfold Dsc.ex at h
  simp only [Bool.and_eq_true] at h
  obtain ⟨h0, h1, h2, h3, h4, h5, h6, h7, h8, h9⟩ := h
  refine ⟨fun t m => all_mem h0 m, Option.isSome_iff_exists.mp h1, fun b o e => ?_, fun p m => all_mem h3 m, fun p m => all_mem h4 m, fun p m => ?_, fun p m => all_mem h6 m, fun p m => all_mem h7 m, fun e m => ?_, fun p m => ?_⟩
  · have := all_mem h2 (He.lookup_mem e)
    simpa using this
  · have := all_mem h5 m
    rw [Bool.and_eq_true] at this
    exact ⟨this.1, exc_of this.2⟩
  · have := all_mem h8 m
    simp only [Bool.and_eq_true, decide_eq_true_eq] at this
    exact this
  · have := all_mem h9 m
    rw [Bool.and_eq_true] at this
    exact ⟨this.1, rs_of this.2⟩
theorem named_of (dok : d.ok = true) (D : DexF d X.K) (KX : X.K.In X.base) (GX : X.base.Ns mainGlobals X.mg) {t : Str} (h : d.isTy t = true) : ∃ cv, Named X t cv (d.tyV X.K t) := by
  unfold Dsc.ok at dok
  simp only [Bool.and_eq_true] at dok
  obtain ⟨_, _, o3, o4, _⟩ := dok
  unfold Dsc.tyV
  cases e : d.tyB.lookup t with
  | some n =>
    have m := lk_mem e
    have q := all_mem o4 m
    rw [Bool.and_eq_true, decide_eq_true_eq] at q
    obtain ⟨n1, n2, n3⟩ := nm_of q.1
    exact ⟨.ty n, .inr ⟨free_of KX GX (D.tyB _ m), q.2, n3⟩, rfl, .ty n, n1⟩
  | none =>
    have m : t ∈ d.tyO := by
      unfold Dsc.isTy at h
      rw [e] at h
      simpa using h
    have q := all_mem o3 m
    rw [Bool.and_eq_true] at q
    exact ⟨.ref (He.ga X.K t), .inl (glo_of KX GX (D.tyO t m)), rfl, .own _, (nm_of q.1).1⟩
theorem goodS_of (dok : d.ok = true) (D : DexF d X.K) (KX : X.K.In X.base) (GX : X.base.Ns mainGlobals X.mg) (hN : X.N = N) (nd : N.Nodup) (nok : N.all nmOk = true) (fok : (fns.all fun p => nmOk p.1) = true) (hsc : X.env.scope = sc) (hkd : sc.kind = .function)
    (hmg : X.mg = B.mg) (hc : X.calm = true) (hg : X.A.guards = some []) (hr : Room lvl X.A) (hio : io = B.io.map (·.1)) (hfn : ∀ x, X.fn x = true) (tk : Takes X W) (fz : ∀ p ∈ fns, (p.2.thk = false → FunZ X B.tabs p.1 p.2) ∧ (p.2.thk = true → FnT X B.tabs p.1 p.2))
    (xs : ∀ x xc, d.cls.lookup x = some xc → OwnX X 1 x xc) (hl : lam = true → LamI X B.tabs) (ht : ThkOk X B (mkC d fns N sc lvl io lam hasT)) (hs : X.stack = X.env :: X.outer) (hf : X.env.frame = some X.env.locals) (hex : X.ex = []) (hp : PassesOwn (model X.prog X.w) X.A X.env X.xe) :
    GoodS X (mkC d fns N sc lvl io lam hasT) B W where
  nm := {
    N := hN
    nd := by rw [hN]; exact nd
    sc := hsc
    mg := hmg
    calm := hc
    grd := hg
    room := hr
    io := hio
    okN := fun x m => let ⟨a, b, _⟩ := nm_of (all_mem nok m); ⟨a, b⟩
    okG := fun x g h => by
      unfold Dsc.ok at dok
      simp only [Bool.and_eq_true] at dok
      obtain ⟨o1, o2, _⟩ := dok
      have h : gOf d fns x = some g := h
      cases g with
      | fn F => obtain ⟨a, _, b⟩ := nm_of (all_mem fok (g_fn h)); exact ⟨a, b⟩
      | val v => obtain ⟨a, _, b⟩ := nm_of (all_mem o1 (g_val h)); exact ⟨a, b⟩
      | bi => obtain ⟨a, _, b⟩ := nm_of (all_mem o2 (g_bi h)); exact ⟨a, b⟩
    val := fun x v h => val_of KX GX (D.vals _ (g_val h))
    bi := fun x h => free_of KX GX (D.bis x (g_bi h))
    fn := fun x _ => .inl (hfn x) }
  nx := {
    own := fun k xc h => by
      obtain ⟨a, b, e⟩ := D.cls _ (lk_mem h)
      exact ⟨_, glo_of KX GX a, b, e⟩
    named := fun t h => by
      obtain ⟨cv, n⟩ := named_of dok D KX GX h
      exact ⟨cv, _, n⟩
    isx := fun k t b h => by
      have m := lk_mem h
      have o := dok
      unfold Dsc.ok at o
      simp only [Bool.and_eq_true] at o
      obtain ⟨_, _, _, _, o5, _⟩ := o
      have q := all_mem o5 m
      rw [Bool.and_eq_true] at q
      obtain ⟨q1, q2⟩ := q
      obtain ⟨p, pm, pe⟩ := List.any_eq_true.mp q2
      have pe : p.1 = k := of_decide_eq_true pe
      obtain ⟨a, c1, _⟩ := D.cls p pm
      rw [pe] at a c1
      obtain ⟨cv, n⟩ := named_of dok D KX GX (t := t) q1
      exact ⟨q1, _, cv, _, glo_of KX GX a, c1, n, D.isx _ m⟩ }
  tk := tk
  sys := by
    obtain ⟨o, e⟩ := D.sys
    exact ⟨o, KX _ _ e⟩
  fns := fun x F h t => (fz _ (g_fn h)).1 t
  fnt := fun x F h t => (fz _ (g_fn h)).2 t
  xcs := fun x xc h => xs x xc h
  lam := hl
  thk := ht
  hs := hs
  hf := hf
  hex := hex
  kd := by rw [hsc]; exact hkd
  hp := hp
end
/-! ### defs, one behind another -/
section
variable {P : Program} {w : World} {K : PySem.W.Frag} {mg : Str → Option Value} {base : Heap} {tabs : List (Addr × Str)} {d : Dsc} {fns : List (Str × Fn)}
/-- a def that may be called, in whatever body -/
def OkF (P : Program) (w : World) (K : PySem.W.Frag) (mg : Str → Option Value) (base : Heap) (tabs : List (Addr × Str)) (x : Str) (F : Fn) : Prop :=
  ∀ X : Cx, X.prog = P → X.w = w → X.K = K → X.mg = mg → X.base = base → (F.thk = false → FunZ X tabs x F) ∧ (F.thk = true → FnT X tabs x F)
def OkX (P : Program) (w : World) (K : PySem.W.Frag) (mg : Str → Option Value) (base : Heap) (d : Dsc) : Prop :=
  ∀ X : Cx, X.prog = P → X.w = w → X.K = K → X.mg = mg → X.base = base → ∀ x xc, d.cls.lookup x = some xc → OwnX X 1 x xc
structure Env1 (P : Program) (w : World) (K : PySem.W.Frag) (mg : Str → Option Value) (base : Heap) (d : Dsc) : Prop where
  dok : d.ok = true
  D : DexF d K
  KX : K.In base
  GX : base.Ns mainGlobals mg
  xs : OkX P w K mg base d
theorem fnz_def {N ps : List Str} {body : List Stmt} {scope : Scope} {params : Arguments} {x : Str} {dvs : List V} {kws : List (Str × V)} {f : Addr} {fd : FuncData} {lvl n : Nat} {io : Option Nat} {plan : Nat → List Str → Option (List Src)} {sta : Option Nat} (e : Env1 P w K mg base d)
    (F : FunD K x x params body scope dvs kws f fd) (S : FnScope N ps scope) (nok : N.all nmOk = true) (fok : (fns.all fun p => nmOk p.1) = true) (fz : ∀ p ∈ fns, OkF P w K mg base tabs p.1 p.2) : FnZ P w K mg base tabs (lvl + 1) f fd (fnOf n (mkC d fns N scope lvl io) body ps plan sta) := by
  refine fnz_of (c := mkC d fns N scope lvl io) F S fun cdv A outer s H E B hcd hfn hr hg m1 m2 m3 => ?_
  refine goodS_of e.dok e.D e.KX e.GX rfl S.nd nok fok rfl S.kind m1.symm rfl hg hr m3.symm (fun _ => rfl) (takes_of rfl rfl rfl rfl) (fun p m => ?_) (fun y xc h => e.xs (cxOf (CX P w) P w K mg base (mkC d fns N scope lvl io).N x scope f cdv A outer s H E) rfl rfl rfl rfl rfl y xc h) (fun z => by cases z) (fun z => by cases z) rfl rfl rfl (passes_of (K := fun e s'' => CX P w outer H s E e s'') rfl)
  rw [m2]
  exact fz p m _ rfl rfl rfl rfl rfl
theorem okF_def {N ps : List Str} {body : List Stmt} {scope : Scope} {params : Arguments} {x : Str} {dvs : List V} {kws : List (Str × V)} {f : Addr} {fd : FuncData} {lvl n : Nat} {io : Option Nat} {plan : Nat → List Str → Option (List Src)} {sta : Option Nat} (e : Env1 P w K mg base d) (hx : gloB K x = true) (hf : f = He.ga K x) (nx : nmOk x = true)
    (F : FunD K x x params body scope dvs kws f fd) (S : FnScope N ps scope) (nok : N.all nmOk = true) (fok : (fns.all fun p => nmOk p.1) = true) (fz : ∀ p ∈ fns, OkF P w K mg base tabs p.1 p.2) (hb : BindZ K fd (fnOf n (mkC d fns N scope lvl io) body ps plan sta)) :
    OkF P w K mg base tabs x (fnOf n (mkC d fns N scope lvl io) body ps plan sta) := by
  have z := fnz_def (n := n) (lvl := lvl) (io := io) (plan := plan) (sta := sta) e F S nok fok fz
  rintro X rfl rfl rfl rfl rfl
  exact ⟨fun _ => ⟨⟨f, fd, by rw [hf]; exact glo_of e.KX e.GX hx, F.kp, z, hb⟩, (nm_of nx).1⟩, fun z => by cases z⟩
theorem okF_thk {N : List Str} {a : Str} {body : List Stmt} {scope : Scope} {params : Arguments} {x : Str} {f : Addr} {fd : FuncData} {lvl n : Nat} (e : Env1 P w K mg base d) (hx : gloB K x = true) (hf : f = He.ga K x) (nx : nmOk x = true) (na : nmOk a = true)
    (F : FunD K x x params body scope [] [] f fd) (S : FnScope N [a] scope) (hb : L2.Binds K fd [a] []) (h0 : N[0]? = some a) (hv : Vis scope a) (nok : N.all nmOk = true) (fok : (fns.all fun p => nmOk p.1) = true) (fz : ∀ p ∈ fns, OkF P w K mg base tabs p.1 p.2) :
    OkF P w K mg base tabs x (fnTOf n (mkC d fns N scope lvl none false true) body [a]) := by
  rintro X rfl rfl rfl rfl rfl
  refine ⟨fun z => (by cases z), fun _ => fnt_of (c := mkC d fns N scope lvl none false true) F (by rw [hf]; exact glo_of e.KX e.GX hx) (nm_of nx).1 S hb h0 hv (nm_of na).1 (nm_of na).2.1 rfl fun cdv A outer s H B hcd hr hg m1 m2 m3 ht => ?_⟩
  refine goodS_of e.dok e.D e.KX e.GX rfl S.nd nok fok rfl S.kind m1.symm rfl hg hr m3.symm (fun _ => rfl) LamX.takes0 (fun p m => ?_) (fun y xc h => e.xs (cxOf C8.CX0 X.prog X.w X.K X.mg X.base (mkC d fns N scope lvl none false true).N x scope f cdv A outer s H C8.E0) rfl rfl rfl rfl rfl y xc h) (fun z => by cases z) ht rfl rfl rfl (passes_of (K := fun e s'' => C8.CX0 outer H s C8.E0 e s'') rfl)
  rw [m2]
  exact fz p m _ rfl rfl rfl rfl rfl
end
end Z

set_option maxHeartbeats 4000000
/-! How a def's arguments are bound; the hook; a law's theorem. -/
namespace Z
open PySem PySem.Spec PyProof.Rows L2
/-- the values in the parameters' order; dv: the defaults' -/
def gD {α : Type} : List Src → List α → List α → List α → List α
  | [], _, _, _ => []
  | .pos i :: r, dv, us, ws => (us[i]?).toList ++ gD r dv us ws
  | .kw j :: r, dv, us, ws => (ws[j]?).toList ++ gD r dv us ws
  | .dfl _ :: r, [], us, ws => gD r [] us ws
  | .dfl _ :: r, v :: dv, us, ws => v :: gD r dv us ws
def srcOk (n m : Nat) : List Src → Bool
  | [] => true
  | .pos i :: r => decide (i < n) && srcOk n m r
  | .kw j :: r => decide (j < m) && srcOk n m r
  | .dfl _ :: r => srcOk n m r
def dfls : List Src → List D
  | [] => []
  | .dfl d :: r => d :: dfls r
  | .pos _ :: r => dfls r
  | .kw _ :: r => dfls r
theorem opt_vals {vs : List V} {us : List Value} {i : Nat} (h : Vals vs us) : Vals (vs[i]?).toList (us[i]?).toList := by
  cases e : vs[i]? with
  | none =>
    have : us[i]? = none := by
      rw [List.getElem?_eq_none_iff] at e ⊢
      rw [← h.length]; exact e
    rw [this]; exact .nil
  | some v =>
    obtain ⟨u, e1, e2⟩ := Paired.at h e
    rw [e1]; exact .cons e2 .nil
theorem gD_vals {vs zs : List V} {us ws : List Value} (h1 : Vals vs us) (h2 : Vals zs ws) : ∀ {src : List Src} {dv : List V} {mv : List Value}, Vals dv mv → Vals (gD src dv vs zs) (gD src mv us ws)
  | [], _, _, _ => .nil
  | .pos i :: r, _, _, h => (opt_vals h1).append (gD_vals h1 h2 h)
  | .kw j :: r, _, _, h => (opt_vals h2).append (gD_vals h1 h2 h)
  | .dfl _ :: r, _, _, .nil => gD_vals (src := r) h1 h2 .nil
  | .dfl _ :: r, _, _, .cons a t => .cons a (gD_vals (src := r) h1 h2 t)
theorem gD_src {vs zs : List V} : ∀ {src : List Src} {dv : List V}, srcOk vs.length zs.length src = true → (dfls src).map vD = dv.map some → Paired (PkS vs zs) src (gD src dv vs zs)
  | [], _, _, _ => .nil
  | .pos i :: r, dv, h, e => by
    unfold srcOk at h
    rw [Bool.and_eq_true, decide_eq_true_eq] at h
    unfold gD
    rw [List.getElem?_eq_getElem h.1]
    exact .cons (List.getElem?_eq_getElem h.1) (gD_src h.2 e)
  | .kw j :: r, dv, h, e => by
    unfold srcOk at h
    rw [Bool.and_eq_true, decide_eq_true_eq] at h
    unfold gD
    rw [List.getElem?_eq_getElem h.1]
    exact .cons (List.getElem?_eq_getElem h.1) (gD_src h.2 e)
  | .dfl d :: r, [], h, e => by cases e
  | .dfl d :: r, v :: dv, h, e => by
    have e' : vD d :: (dfls r).map vD = some v :: dv.map some := e
    injection e' with e1 e2
    exact .cons e1 (gD_src (src := r) h e2)
section
variable {K : PySem.W.Frag} {x qual : Str} {params : Arguments} {body : List Stmt} {scope : Scope} {dvs : List V} {kws : List (Str × V)} {f : Addr} {fd : FuncData} {ps : List Str}
/-- a call's form: how it is bound -/
def BindE (K : PySem.W.Frag) (fd : FuncData) (ps : List Str) (n : Nat) (ks : List Str) (src : List Src) : Prop := src.length = ps.length ∧ ∃ g gV, KBn K fd ps n ks g gV ∧ ∀ vs zs, vs.length = n → zs.length = ks.length → Paired (PkS vs zs) src (gV vs zs)
/-- nothing lacks -/
theorem bindA (F : FunD K x qual params body scope [] kws f fd) (n : Nat) (ks : List Str) (src : List Src) (hl : src.length = ps.length) (ok : srcOk n ks.length src = true) (nd : dfls src = [])
    (h : ∀ (kV doc pm : Value) (an : Option Addr) (cdv ct : Value) (us ws : List Value), us.length = n → ws.length = ks.length → bindArgs (PySem.W.fnOf x qual params body scope .none kV doc pm an cdv ct) ⟨us, ks.zip ws⟩ = pure (ps.zip (gD src [] us ws))) : BindE K fd ps n ks src := by
  obtain ⟨oc, od, dV, kV, doc, pm, an, cdv, ct, osl, rfl, lk, hcd, hD, hK⟩ := F.ex
  rcases hD with ⟨_, rfl⟩ | ⟨e, _⟩
  · refine ⟨hl, gD src [], gD src [], ⟨fun s us ws X l1 l2 => .of_eq (h kV doc pm an cdv ct us ws l1 l2), fun r1 r2 => gD_vals r1 r2 .nil⟩, fun vs zs l1 l2 => gD_src (by rw [l1, l2]; exact ok) (by rw [nd]; rfl)⟩
  · exact absurd rfl e
/-- keyword-only parameters lack -/
theorem bindB (F : FunD K x qual params body scope [] kws f fd) (n : Nat) (ks : List Str) (src : List Src) (ms : List (Str × V)) (hm : ∀ q ∈ ms, q ∈ kws) (hk : kws ≠ []) (hl : src.length = ps.length) (ok : srcOk n ks.length src = true) (nd : (dfls src).map vD = (ms.map (·.2)).map some)
    (h : ∀ (D : Addr) (doc pm : Value) (an : Option Addr) (cdv ct : Value) (us mv ws : List Value), us.length = n → mv.length = ms.length → ws.length = ks.length → KwChain D ((ms.map (·.1)).zip mv) (bindArgs (PySem.W.fnOf x qual params body scope .none (.ref D) doc pm an cdv ct) ⟨us, ks.zip ws⟩) (ps.zip (gD src mv us ws))) : BindE K fd ps n ks src := by
  obtain ⟨oc, od, dV, kV, doc, pm, an, cdv, ct, osl, rfl, lk, hcd, hD, hK⟩ := F.ex
  rcases hD with ⟨_, rfl⟩ | ⟨e, _⟩
  · rcases hK with e | ⟨D, rfl, hq⟩
    · exact absurd e hk
    · obtain ⟨mv, l, r, q⟩ := kwd_vals (ms := ms) fun q hq' => hq q (hm q hq')
      exact ⟨hl, gD src mv, gD src (ms.map (·.2)), ⟨fun s us ws X l1 l2 => BindsTo.of_looks fun M => KwChain.looks X q (h D doc pm an cdv ct us mv ws l1 l l2), fun r1 r2 => gD_vals r1 r2 r⟩, fun vs zs l1 l2 => gD_src (by rw [l1, l2]; exact ok) nd⟩
  · exact absurd rfl e
theorem bindZ_of {F : Fn} {tbl : List ((Nat × List Str) × List Src)} (hst : F.star = none) (hp : F.plan = fun n ns => tbl.lookup (n, ns)) (h : ∀ e ∈ tbl, BindE K fd F.ps e.1.1 e.1.2 e.2) : BindZ K fd F := ⟨fun kk k ns src e => (by rw [hst] at e; cases e), fun _ n ns src e => (by
  rw [hp] at e
  exact h _ (lk_mem e))⟩
/-- the same of a def with a star -/
def BindES (K : PySem.W.Frag) (fd : FuncData) (ps : List Str) (any : Bool) (k : Nat) (ks : List Str) (src : List Src) : Prop := src.length = ps.length ∧ ∃ g gV, SBn K fd ps any k ks g gV ∧ ∀ vs zs, vs.length = k → zs.length = ks.length + 1 → Paired (PkS vs zs) src (gV vs zs)
theorem bindZS_of {F : Fn} {k : Nat} {tbl : List ((Nat × List Str) × List Src)} (hst : F.star = some k) (hp : F.plan = fun n ns => tbl.lookup (n, ns)) (h : ∀ e ∈ tbl, BindES K fd F.ps (decide (e.1.1 = k)) e.1.1 e.1.2 e.2) : BindZ K fd F := ⟨fun kk k' ns src e1 _ e => (by
  rw [hst] at e1
  cases e1
  rw [hp] at e
  exact h _ (lk_mem e)), fun e => (by rw [hst] at e; cases e)⟩
/-- the leading parameters all by keywords, nothing left over -/
theorem bindS0 (F : FunD K x qual params body scope [] kws f fd) (ks : List Str) (src : List Src) (hl : src.length = ps.length) (ok : srcOk 0 (ks.length + 1) src = true) (nd : dfls src = [])
    (h : ∀ (kV doc pm : Value) (an : Option Addr) (cdv ct : Value) (ws : List Value), ws.length = ks.length → bindArgs (PySem.W.fnOf x qual params body scope .none kV doc pm an cdv ct) ⟨[], ks.zip ws⟩ = (newTuple [] >>= fun t => pure (ps.zip (gD src [] [] (ws ++ [t]))))) : BindES K fd ps false 0 ks src := by
  obtain ⟨oc, od, dV, kV, doc, pm, an, cdv, ct, osl, rfl, lk, hcd, hD, hK⟩ := F.ex
  rcases hD with ⟨_, rfl⟩ | ⟨e, _⟩
  · refine ⟨hl, gD src [], gD src [], ⟨fun s us ws X l1 l0 l2 M A Ex Q q => ?_, fun r1 r2 => gD_vals r1 r2 .nil⟩, fun vs zs l1 l2 => gD_src (by rw [l1, l2]; exact ok) (by rw [nd]; rfl)⟩
    obtain rfl := l0 rfl
    rw [h kV doc pm an cdv ct ws l2]
    exact wpAny_bind (wpAny_mono q (fun t s' z => wpAny_pure z) fun _ _ z => z)
  · exact absurd rfl e
theorem bindSA (F : FunD K x qual params body scope [] kws f fd) (n : Nat) (ks : List Str) (src : List Src) (hl : src.length = ps.length) (ok : srcOk n (ks.length + 1) src = true) (nd : dfls src = [])
    (h : ∀ (kV doc pm : Value) (an : Option Addr) (cdv ct : Value) (us ws : List Value), n ≤ us.length → ws.length = ks.length → bindArgs (PySem.W.fnOf x qual params body scope .none kV doc pm an cdv ct) ⟨us, ks.zip ws⟩ = (newTuple (us.drop n) >>= fun t => pure (ps.zip (gD src [] (us.take n) (ws ++ [t]))))) : BindES K fd ps true n ks src := by
  obtain ⟨oc, od, dV, kV, doc, pm, an, cdv, ct, osl, rfl, lk, hcd, hD, hK⟩ := F.ex
  rcases hD with ⟨_, rfl⟩ | ⟨e, _⟩
  · refine ⟨hl, gD src [], gD src [], ⟨fun s us ws X l1 _ l2 M A Ex Q q => ?_, fun r1 r2 => gD_vals r1 r2 .nil⟩, fun vs zs l1 l2 => gD_src (by rw [l1, l2]; exact ok) (by rw [nd]; rfl)⟩
    rw [h kV doc pm an cdv ct us ws l1 l2]
    exact wpAny_bind (wpAny_mono q (fun t s' z => wpAny_pure z) fun _ _ z => z)
  · exact absurd rfl e
/-- a chain of looks, then r -/
def KwCh {α : Type} (D : Addr) : List (Str × Value) → Sem α → Sem α → Prop
  | [], t, r => t = r
  | q :: l, t, r => ∃ (β γ : Type) (k1 : Option Value → Sem β) (k2 : β → Sem γ) (k3 : γ → Sem α) (a : β), t = ((nsGet D q.1 >>= k1) >>= k2) >>= k3 ∧ k1 (some q.2) = pure a ∧ KwCh D l (k2 a >>= k3) r
theorem KwCh.wp {α : Type} {M : Model} {A : Around} {Ex : Value → Shared → Prop} {Q : α → Shared → Prop} {s : Shared} {D : Addr} (X : K.In s.heap) : ∀ {l : List (Str × Value)} {t r : Sem α}, (∀ q ∈ l, PySem.W.nsIn K D q.1 = some (some q.2)) → KwCh D l t r → wpAny M A r Q Ex s → wpAny M A t Q Ex s
  | [], t, r, _, e, h => by rw [show t = r from e]; exact h
  | q :: l, t, r, hl, e, h => by
    obtain ⟨β, γ, k1, k2, k3, a, e1, e2, e3⟩ := e
    have l1 : PySem.W.Looks M s.heap (nsGet D q.1 >>= k1) a := (PySem.W.looks_nsIn X (hl q (List.mem_cons_self ..))).andThen (PySem.W.Looks.of_pure e2)
    rw [e1, bind_assoc]
    exact wpAny_bind (l1.here (KwCh.wp X (fun p hp => hl p (List.mem_cons_of_mem _ hp)) e3 h))
theorem bindSB (F : FunD K x qual params body scope [] kws f fd) (n : Nat) (ks : List Str) (src : List Src) (ms : List (Str × V)) (hm : ∀ q ∈ ms, q ∈ kws) (hk : kws ≠ []) (hl : src.length = ps.length) (ok : srcOk n (ks.length + 1) src = true) (nd : (dfls src).map vD = (ms.map (·.2)).map some)
    (h : ∀ (D : Addr) (doc pm : Value) (an : Option Addr) (cdv ct : Value) (us mv ws : List Value), n ≤ us.length → mv.length = ms.length → ws.length = ks.length → KwCh D ((ms.map (·.1)).zip mv) (bindArgs (PySem.W.fnOf x qual params body scope .none (.ref D) doc pm an cdv ct) ⟨us, ks.zip ws⟩) (newTuple (us.drop n) >>= fun t => pure (ps.zip (gD src mv (us.take n) (ws ++ [t]))))) : BindES K fd ps true n ks src := by
  obtain ⟨oc, od, dV, kV, doc, pm, an, cdv, ct, osl, rfl, lk, hcd, hD, hK⟩ := F.ex
  rcases hD with ⟨_, rfl⟩ | ⟨e, _⟩
  · rcases hK with e | ⟨D, rfl, hq⟩
    · exact absurd e hk
    · obtain ⟨mv, l, r, q⟩ := kwd_vals (ms := ms) fun q hq' => hq q (hm q hq')
      refine ⟨hl, gD src mv, gD src (ms.map (·.2)), ⟨fun s us ws X l1 _ l2 M A Ex Q q' => ?_, fun r1 r2 => gD_vals r1 r2 r⟩, fun vs zs l1 l2 => gD_src (by rw [l1, l2]; exact ok) nd⟩
      exact KwCh.wp X q (h D doc pm an cdv ct us mv ws l1 l l2) (wpAny_bind (wpAny_mono q' (fun t s' z => wpAny_pure z) fun _ _ z => z))
  · exact absurd rfl e
end
/-! ### exceptions that are raised -/
section
variable {P : Program} {w : World} {K : PySem.W.Frag} {mg : Str → Option Value} {base : Heap} {x b : Str} {xc : XC} {nm qual tx : Str} {params : Arguments} {scope : Scope} {dvs : List V} {kws : List (Str × V)} {fd : FuncData} {kk : Nat} {q1 q2 q3 q4 q5 q6 q7 q8 q9 q10 : Pos}
/-- the class's field must be given -/
theorem okX_req {X : Cx} (R : RsF X.K x b) (hx : X.mg x = some (.ref (He.ga X.K x))) (hb : X.mg b = some (.ref (He.ga X.K b))) (hno : PySem.W.findIn X.K (.ref (He.ga X.K x)) xc.fld = some none) (nx : nmOk x = true) (hd : xc.dfl = none)
    (F : FunD X.K nm qual params (initB b xc.fld tx kk q1 q2 q3 q4 q5 q6 q7 q8 q9 q10) scope [] kws (He.ma X.K (He.ga X.K x) "__init__") fd) (hs : initS b xc.fld scope = true) (hln : (q2.endLine == q5.line) = true)
    (hbd : ∀ (kV doc pm : Value) (an : Option Addr) (cdv ct : Value) (us : List Value), us.length = (["self", xc.fld] : List Str).length → bindArgs (PySem.W.fnOf nm qual params (initB b xc.fld tx kk q1 q2 q3 q4 q5 q6 q7 q8 q9 q10) scope .none kV doc pm an cdv ct) ⟨us, []⟩ = pure ((["self", xc.fld] : List Str).zip us)) : OwnX X 1 x xc :=
  let ⟨_, R⟩ := R.one
  ⟨⟨_, _, _, fd, ["self", xc.fld], hx, R.oex, R.fi, R.ty, init_fn F hs hln hb R.ini, F.bindsN hbd, fun d e => (by rw [hd] at e; cases e), hno⟩, (nm_of nx).1⟩
/-- it has a default -/
theorem okX_dfl {X : Cx} {v : V} {dd : D} (R : RsF X.K x b) (hx : X.mg x = some (.ref (He.ga X.K x))) (hb : X.mg b = some (.ref (He.ga X.K b))) (hno : PySem.W.findIn X.K (.ref (He.ga X.K x)) xc.fld = some none) (nx : nmOk x = true) (hd : xc.dfl = some dd) (hv : vD dd = some v)
    (F : FunD X.K nm qual params (initB b xc.fld tx kk q1 q2 q3 q4 q5 q6 q7 q8 q9 q10) scope [v] kws (He.ma X.K (He.ga X.K x) "__init__") fd) (hs : initS b xc.fld scope = true) (hln : (q2.endLine == q5.line) = true)
    (h1 : ∀ (T : Addr) (kV doc pm : Value) (an : Option Addr) (cdv ct : Value) (us its : List Value), us.length = 2 → its.length = 1 →
      ∃ k, bindArgs (PySem.W.fnOf nm qual params (initB b xc.fld tx kk q1 q2 q3 q4 q5 q6 q7 q8 q9 q10) scope (.ref T) kV doc pm an cdv ct) ⟨us, []⟩ = seqItems? (.ref T) >>= k ∧ k (some its.toArray) = pure ((["self", xc.fld] : List Str).zip (us ++ its.drop 1)))
    (h2 : ∀ (T : Addr) (kV doc pm : Value) (an : Option Addr) (cdv ct : Value) (us its : List Value), us.length = 1 → its.length = 1 →
      ∃ k, bindArgs (PySem.W.fnOf nm qual params (initB b xc.fld tx kk q1 q2 q3 q4 q5 q6 q7 q8 q9 q10) scope (.ref T) kV doc pm an cdv ct) ⟨us, []⟩ = seqItems? (.ref T) >>= k ∧ k (some its.toArray) = pure ((["self", xc.fld] : List Str).zip (us ++ its.drop 0))) : OwnX X 1 x xc := by
  obtain ⟨d1, r1, b1⟩ := F.binds1 (ps := ["self", xc.fld]) 2 1 (by simp) rfl h1
  obtain ⟨d2, r2, b2⟩ := F.binds1 (ps := ["self", xc.fld]) 1 0 (by simp) rfl h2
  have e1 : d1 = [] := by
    have := r1.length
    exact List.length_eq_zero_iff.mp this.symm
  subst e1
  obtain ⟨_, R⟩ := R.one
  exact ⟨⟨_, _, _, fd, ["self", xc.fld], hx, R.oex, R.fi, R.ty, init_fn F hs hln hb R.ini, b1, fun d e => (by
    rw [hd] at e
    cases e
    exact ⟨v, d2, hv, b2, r2⟩), hno⟩, (nm_of nx).1⟩
end
end Z

set_option maxHeartbeats 4000000
/-! The hook behind the top; a law's walk. -/
namespace Z
open PySem PySem.Spec PyProof.Rows L2
/-- the lambdas of the def x -/
def lamNm (x : Str) : Str := x ++ ".<locals>." ++ "<lambda>"
def tabsU (K : PySem.W.Frag) (tf : List He.Defn) : Bool := tf.all fun p => tf.all fun q => !decide ((He.cT K p).2 = (He.cT K q).2) || decide (p.1 = q.1)
def asZ (g : Addr → Option Obj) (n : Nat) : List Addr := cStatics :: sysModules :: He.asD g n
def obsK (d : Dsc) (fn : List He.DefD) (tf : List He.Defn) (g : Addr → Option Obj) (K : PySem.W.Frag) : He.AlD × Bool := (He.obsD [] fn K, d.ex K && (He.tabsB g tf K && tabsU K tf))
def obsZ (n : Nat) (d : Dsc) (fn : List He.DefD) (tf : List He.Defn) (g : Addr → Option Obj) : He.AlD × Bool := obsK d fn tf g (He.frT g (asZ g n))
structure SaysZ (d : Dsc) (fn : List He.DefD) (tf : List He.Defn) (h : Heap) (K : PySem.W.Frag) : Prop where
  defs : He.SaysD [] fn K
  ex : DexF d K
  hd : ∀ p ∈ tf, PySem.W.codeHdIn K (He.cT K p).1 (He.cT K p).2 = true
  out : ∀ p ∈ tf, K.lookup (He.cT K p).2 = none
  bare : ∀ p ∈ tf, h.get? (He.cT K p).2 = some bareT
  one : ∀ p ∈ tf, ∀ q ∈ tf, (He.cT K p).2 = (He.cT K q).2 → p.1 = q.1
theorem saysZ_of {n : Nat} {d : Dsc} {fn : List He.DefD} {tf : List He.Defn} {h : Heap} (e : obsZ n d fn tf h.get? = (He.valD fn, true)) : SaysZ d fn tf h (He.frT h.get? (asZ h.get? n)) := by
  generalize hK : He.frT h.get? (asZ h.get? n) = K
  have e1 : He.obsD [] fn K = He.valD fn := by rw [← hK]; exact congrArg (fun z : He.AlD × Bool => z.1) e
  have e2 : (d.ex K && (He.tabsB h.get? tf K && tabsU K tf)) = true := by rw [← hK]; exact congrArg (fun z : He.AlD × Bool => z.2) e
  simp only [Bool.and_eq_true] at e2
  obtain ⟨x1, x2, x3⟩ := e2
  have tab : ∀ p ∈ tf, PySem.W.codeHdIn K (He.cT K p).1 (He.cT K p).2 = true ∧ ∃ o, h.get? (He.cT K p).2 = some o ∧ He.emptyTab o = true := fun p m => by
    have q := all_mem x2 m
    rw [Bool.and_eq_true] at q
    refine ⟨q.1, ?_⟩
    have q2 := q.2
    cases z : h.get? (He.cT K p).2 with
    | none => rw [z] at q2; cases q2
    | some o => rw [z] at q2; exact ⟨o, rfl, q2⟩
  refine ⟨e1, dex_of x1, fun p m => (tab p m).1, fun p m => ?_, fun p m => ?_, fun p m q m2 z => ?_⟩
  · obtain ⟨_, o, z1, z2⟩ := tab p m
    rw [← hK] at z1 ⊢
    exact He.frT_none z1 z2
  · obtain ⟨_, o, z1, z2⟩ := tab p m
    rw [z1, He.emptyTab_eq z2]
  · have := all_mem (all_mem x3 m) m2
    simp only [Bool.or_eq_true, Bool.not_eq_true', decide_eq_false_iff_not, decide_eq_true_eq] at this
    exact this.resolve_left fun c => c z
def hookZ (n : Nat) (d : Dsc) (fn : List He.DefD) (tf : List He.Defn) : PySem.W.Hook where
  α := He.AlD × Bool
  obs := fun s => obsZ n d fn tf s.heap.get?
  val := fun _ => (He.valD fn, true)
  says := fun _ h => ∃ K : PySem.W.Frag, K.In h ∧ SaysZ d fn tf h K
  of := fun _ _ e => ⟨_, He.frT_in, saysZ_of e⟩
  keeps := fun _ _ _ ⟨K, hK, c⟩ k => ⟨K, PySem.W.Frag.In.keeps hK k, ⟨c.defs, c.ex, c.hd, c.out, fun p m => k _ _ (c.bare p m), c.one⟩⟩
theorem obsZ_eq {n : Nat} {d : Dsc} {fn : List He.DefD} {tf : List He.Defn} {g : Addr → Option Obj} {s : Shared} (h : ∀ a, g a = s.heap.get? a) : obsZ n d fn tf g = (hookZ n d fn tf).obs s := by
  obtain rfl : g = s.heap.get? := funext h
  rfl
theorem fun_one {x q x' q' : Str} {p p' : Arguments} {b b' : List Stmt} {s s' : Scope} {dv dv' : List V} {kw kw' : List (Str × V)} {K : PySem.W.Frag} {f : Addr} {fd fd' : FuncData} (F : FunD K x q p b s dv kw f fd) (F' : FunD K x' q' p' b' s' dv' kw' f fd') : fd = fd' := by
  obtain ⟨_, _, _, _, _, _, _, _, _, _, _, e, _⟩ := F.ex
  obtain ⟨_, _, _, _, _, _, _, _, _, _, _, e', _⟩ := F'.ex
  rw [e] at e'
  injection e' with e'
  injection e' with _ _ e2
  injection e2
def tabsOf (K : PySem.W.Frag) (tf : List He.Defn) : List (Addr × Str) := tf.map fun p => ((He.cT K p).2, lamNm p.1)
section
variable {P : Program} {w : World} {K : PySem.W.Frag} {mg : Str → Option Value} {base h : Heap} {d : Dsc} {fn : List He.DefD} {tf : List He.Defn} {fns : List (Str × Fn)}
/-- a def that makes lambdas -/
theorem fnz_lam {N ps : List Str} {body : List Stmt} {scope : Scope} {params : Arguments} {x : Str} {dvs : List V} {kws : List (Str × V)} {f : Addr} {fd : FuncData} {lvl n : Nat} {io : Option Nat} {plan : Nat → List Str → Option (List Src)} {sta : Option Nat} (e : Env1 P w K mg base d) (sz : SaysZ d fn tf h K) (TB : ∀ p ∈ tf, LamX.TabB base mg (He.cT K p).1 (He.cT K p).2) (ml : (x, none) ∈ tf)
    (hf : f = He.ga K x) (F : FunD K x x params body scope dvs kws f fd) (S : FnScope N ps scope) (nok : N.all nmOk = true) (fok : (fns.all fun p => nmOk p.1) = true) (fz : ∀ p ∈ fns, OkF P w K mg base (tabsOf K tf) p.1 p.2) :
    FnZ P w K mg base (tabsOf K tf) (lvl + 1) f fd (fnOf n (mkC d fns N scope lvl io true) body ps plan sta) := by
  refine fnz_of (c := mkC d fns N scope lvl io true) F S fun cdv A outer s H E B hcd hfn hr hg m1 m2 m3 => ?_
  have L : LamI (cxOf (CX P w) P w K mg base (mkC d fns N scope lvl io true).N x scope f cdv A outer s H E) B.tabs := by
    obtain ⟨oc, od, osl, lk, ec⟩ := hfn
    obtain ⟨cc, rfl⟩ := He.codeIn_ref hcd
    have e1 : He.codeOf K (x, none) = cc := He.codeOf_eq (p := (x, none)) (by rw [hf] at lk; exact lk) ec
    refine ⟨_, _, TB _ ml, by show Value.ref cc = _; rw [← e1]; rfl, ?_, fun p m z => ?_⟩
    · rw [m2]
      exact List.mem_map.mpr ⟨(x, none), ml, rfl⟩
    · rw [m2] at m
      obtain ⟨q, mq, rfl⟩ := List.mem_map.mp m
      have := sz.one q mq _ ml z
      show lamNm q.1 = lamNm x
      rw [this]
  refine goodS_of e.dok e.D e.KX e.GX rfl S.nd nok fok rfl S.kind m1.symm rfl hg hr m3.symm (fun _ => rfl) (takes_of rfl rfl rfl rfl) (fun p m => ?_) (fun y xc h => e.xs (cxOf (CX P w) P w K mg base (mkC d fns N scope lvl io true).N x scope f cdv A outer s H E) rfl rfl rfl rfl rfl y xc h) (fun _ => L) (fun z => by cases z) rfl rfl rfl (passes_of (K := fun e s'' => CX P w outer H s E e s'') rfl)
  rw [m2]
  exact fz p m _ rfl rfl rfl rfl rfl
theorem okF_lam {N ps : List Str} {body : List Stmt} {scope : Scope} {params : Arguments} {x : Str} {dvs : List V} {kws : List (Str × V)} {f : Addr} {fd : FuncData} {lvl n : Nat} {io : Option Nat} {plan : Nat → List Str → Option (List Src)} {sta : Option Nat} (e : Env1 P w K mg base d) (sz : SaysZ d fn tf h K) (TB : ∀ p ∈ tf, LamX.TabB base mg (He.cT K p).1 (He.cT K p).2) (ml : (x, none) ∈ tf)
    (hx : gloB K x = true) (hf : f = He.ga K x) (nx : nmOk x = true) (F : FunD K x x params body scope dvs kws f fd) (S : FnScope N ps scope) (nok : N.all nmOk = true) (fok : (fns.all fun p => nmOk p.1) = true) (fz : ∀ p ∈ fns, OkF P w K mg base (tabsOf K tf) p.1 p.2) (hb : BindZ K fd (fnOf n (mkC d fns N scope lvl io true) body ps plan sta)) :
    OkF P w K mg base (tabsOf K tf) x (fnOf n (mkC d fns N scope lvl io true) body ps plan sta) := by
  have z := fnz_lam (n := n) (lvl := lvl) (io := io) (plan := plan) (sta := sta) e sz TB ml hf F S nok fok fz
  rintro X rfl rfl rfl rfl rfl
  exact ⟨fun _ => ⟨⟨f, fd, by rw [hf]; exact glo_of e.KX e.GX hx, F.kp, z, hb⟩, (nm_of nx).1⟩, fun z => by cases z⟩
theorem walk_z {l : PySem.W.OpenLaw} {q : Program} {loose : List Str} {XP : (Str → Option Value) → Heap → Prop} {rd : DefRec} {x : Str} {n : Nat} {F : Fn} (hn : l.most = some 63) (hdf : rd.params.defaults = []) (hr : Room F.lvl callerA) (hps : F.ps = [x]) (hio : F.io = none)
    (run : ∀ ns : List Int, ns.length ≤ 63 → (∀ z ∈ ns, Builtin.Int.intBits z ≤ 1048576) → ∃ xs, F.run [.dat (.list (iD ns))] = .ok (.dat (.bool true)) xs)
    (main : ∀ (w : World) (mg : Str → Option Value) (fa : Addr) (h : Heap) (K : PySem.W.Frag), K.In h → SaysZ d fn tf h K → h.Ns mainGlobals mg → mg rd.name = some (.ref fa) → ∃ fd, (∀ (s : Shared) (u : Value), BindsTo s fd ⟨[u], []⟩ [(x, u)]) ∧
      ∀ base : Heap, K.In base → base.Ns mainGlobals mg → (∀ p ∈ tf, LamX.TabB base mg (He.cT K p).1 (He.cT K p).2) → FnZ l.prog w K mg base (tabsOf K tf) F.lvl fa fd F) :
    PySem.W.WalkO q loose XP (hookZ n d fn tf).says l.row.toRowW rd [] (fun f vs => PySem.call f vs) := by
  refine Att.attach_callB hn hdf fun w s₀ s₁ mg mb fa o pm cd doc a vs ns G Y ho hd hcd hmg hobj hints hlen hbits hg => ?_
  obtain ⟨K, KX, sz⟩ := Y
  obtain ⟨fd, hb, hF⟩ := main w mg fa _ K KX sz G.T.g hmg
  have inT : ∀ {p : Addr × Addr}, p ∈ tf.map (He.cT K) → ∃ t ∈ tf, p = He.cT K t := fun {p} m => by
    obtain ⟨t, mt, e⟩ := List.mem_map.mp m
    exact ⟨t, mt, e.symm⟩
  refine law_z (cs := tf.map (He.cT K)) (tabs := tabsOf K tf) (x := x) KX G.T.g G.T.b G.T.builtins G.T.nolimit hg (fun p m => ?_) (fun p m => ?_) (fun p m => ?_) G.T.bmain hobj hints (Nat.le_trans hlen (by rw [sizeLine_eq]; decide)) sz.ex.nl hr (fun base kb nb tb => hF base kb nb fun p m => tb _ (List.mem_map.mpr ⟨p, m, rfl⟩)) hb hps hio (fun p m => ?_) (run ns hlen hbits)
  · obtain ⟨t, mt, rfl⟩ := inT m
    exact sz.bare t mt
  · obtain ⟨t, mt, rfl⟩ := inT m
    exact sz.out t mt
  · obtain ⟨t, mt, rfl⟩ := inT m
    exact PySem.W.codeHd_of_K KX (sz.hd t mt)
  · obtain ⟨t, mt, rfl⟩ := List.mem_map.mp m
    exact List.mem_map.mpr ⟨_, List.mem_map.mpr ⟨t, mt, rfl⟩, rfl⟩
end
end Z

/-! The interpreter's forms with names resolved: what a def does, to be read and computed. -/
namespace Z
open PySem
def xV (i : Nat) : Sl → O SV := fun S => match S[i]? with
  | some (some (.own _)) => .ok (.bor i) S
  | some (some v) => .ok v S
  | _ => .bad
def xK (d : D) : Sl → O SV := fun S => .ok (.dat d) S
def xBin (op : Operator) (f g : Sl → O SV) : Sl → O SV := fun S => (f S).bind fun x S1 => (g S1).bind fun y S2 => match cont2 S2 x, cont S2 y with
  | some d, some e => O.of (binD op d e) S2
  | _, _ => .bad
def xUn (op : UnaryOp) (f : Sl → O SV) : Sl → O SV := fun S => (f S).bind fun x S1 => match cont S1 x with
  | some d => O.of ((unD op d).map .dat) S1
  | none => .bad
def xCmp (op : CmpOp) (f g : Sl → O SV) : Sl → O SV := fun S => (f S).bind fun x S1 => (g S1).bind fun y S2 => O.of ((cmpV S2 op x y).map fun b => .dat (.bool b)) S2
def xIf (t : Sl → O Bool) (f g : Sl → O SV) : Sl → O SV := fun S => (t S).bind fun k S1 => if k then f S1 else g S1
def xTup (a : Sl → O (List SV)) : Sl → O SV := fun S => (a S).bind fun vs S1 => (settleAll vs S1).bind fun ds S2 => tupO ds S2
def xLst (a : Sl → O (List SV)) : Sl → O SV := fun S => (a S).bind fun vs S1 => (settleAll vs S1).bind fun ds S2 => lstO ds S2
def xDic : Sl → O SV := fun S => .ok (.dat (.dict [])) S
def xSl (f : Sl → O SV) (lo hi : Sl → O (Option Int)) : Sl → O SV := fun S => (f S).bind fun x S1 => (lo S1).bind fun l S2 => (hi S2).bind fun h S3 => match cont S3 x with
  | some d => O.of (sliceD l h d) S3
  | none => .bad
def oN : Sl → O (Option Int) := fun S => .ok none S
def oS (f : Sl → O SV) : Sl → O (Option Int) := fun S => (f S).bind fun x S1 => match cont S1 x with
  | some (.int i) => .ok (some i) S1
  | _ => .bad
def xStep (f : Sl → O SV) (lo hi st : Sl → O (Option Int)) : Sl → O SV := fun S => (f S).bind fun x S1 => (lo S1).bind fun l S2 => (hi S2).bind fun h S3 => (st S3).bind fun k S4 => match cont S4 x with
  | some d => O.of (stepD l h k d) S4
  | none => .bad
def xRev (f : Sl → O SV) : Sl → O SV := fun S => (f S).bind fun x S1 => match cont S1 x with
  | some d => O.of (sliceRev d) S1
  | none => .bad
def xIx (f g : Sl → O SV) : Sl → O SV := fun S => (f S).bind fun x S1 => (g S1).bind fun y S2 => match cont S2 x, cont S2 y with
  | some d, some k => O.of ((ixD d k).map .dat) S2
  | _, _ => .bad
/-- a target's slots filled by an item -/
def putAll : List Nat → List SV → Sl → Option Sl
  | [], [], S => some S
  | i :: is, v :: vs, S => putAll is vs (put S i v)
  | _, _, _ => none
inductive Tg where
  | one (i : Nat)
  | tup (is : List Nat)
def Tg.set : Tg → D → Sl → Option Sl
  | .one i, d, S => some (put S i (.dat d))
  | .tup is, .tuple ds, S => if ds.length = is.length then putAll is (ds.map .dat) S else none
  | .tup is, .list ds, S => if ds.length = is.length then putAll is (ds.map .dat) S else none
  | .tup _, _, _ => none
def wipeI : List Nat → Sl → Sl
  | [], S => S
  | i :: is, S => (wipeI is S).set i none
def keepI (S0 : Sl) : List Nat → Sl → Sl
  | [], S => S
  | i :: is, S => (keepI S0 is S).set i (S0[i]?).join
def xTurn (is : List Nat) (tg : Tg) (ft : Sl → O Bool) (fe : Sl → O SV) : D → Sl → O (Option D) := fun d S2 => match tg.set d (wipeI is S2) with
  | none => .bad
  | some S3 => (ft S3).bind fun b S4 => if b then (fe S4).bind fun v S5 => (settle S5 v).bind fun x S6 => .ok (some x) (keepI S2 is S6) else .ok none (keepI S2 is S4)
def xLC (is : List Nat) (tg : Tg) (fi : Sl → O (List D)) (ft : Sl → O Bool) (fe : Sl → O SV) : Sl → O SV := fun S => (fi S).bind fun ds S1 => (lcL (xTurn is tg ft fe) ds [] S1).bind fun xs S2 => .ok (.own xs) S2
def tYes : Sl → O Bool := fun S => .ok true S
def xFld (d : Dsc) (fl : Str) (f : Sl → O SV) : Sl → O SV := fun S => (f S).bind fun x S1 => match x with
  | .exc k fs => (match d.cls.lookup k with
    | some xc => if xc.fld = fl then O.of ((fs.lookup fl).map .dat) S1 else .bad
    | none => .bad)
  | _ => .bad
def xCall (F : Fn) (src : List Src) (a k : Sl → O (List SV)) : Sl → O SV := fun S => (a S).bind fun ps S1 => (k S1).bind fun ks S2 => match pick src ps ks with
  | some vs => callF F vs S2
  | none => .bad
def xLam (F : Fn) (is : List Nat) (fl : Sl → O SV) : Sl → O SV := fun S => lmK F (frzAll S is) (fl (hide (frzAll S is)))
def xBi (f : Str) (a : Sl → O (List SV)) : Sl → O SV := fun S => (a S).bind fun vs S1 => O.of (biV S1 f vs) S1
def isW (d : Dsc) (bi : Bool) (t : Str) (S : Sl) (v : SV) : Option Bool := match v with
  | .exc k _ => d.isx.lookup (k, t)
  | _ => if bi then (cont S v).bind fun d => isD d t else none
def xIs (d : Dsc) (bi : Bool) (t : Str) (f : Sl → O SV) : Sl → O SV := fun S => (f S).bind fun x S1 => O.of ((isW d bi t S1 x).map fun b => .dat (.bool b)) S1
def own? (i : Nat) (r : Sl → O SV) : Sl → O SV := fun S => match S[i]? with
  | some (some (.own _)) => r S
  | _ => .bad
def xApp (i : Nat) (a : Sl → O (List SV)) : Sl → O SV := own? i fun S => (a S).bind fun vs S2 => mAppend i vs S2
def xPop (i : Nat) : Sl → O SV := own? i fun S => mPop i S
def xPopAt (i : Nat) (a : Sl → O (List SV)) : Sl → O SV := own? i fun S => (a S).bind fun vs S2 => mPopAt i vs S2
def xIns (i : Nat) (a : Sl → O (List SV)) : Sl → O SV := own? i fun S => (a S).bind fun vs S2 => mInsert i vs S2
def xTupR (f : Sl → O SV) : Sl → O SV := fun S => (f S).bind fun x S1 => tupR x S1
def xIndex (i : Nat) (a : Sl → O (List SV)) : Sl → O SV := own? i fun S => (a S).bind fun vs S2 => mIndex i vs S2
def xCount (i : Nat) (a : Sl → O (List SV)) : Sl → O SV := own? i fun S => (a S).bind fun vs S2 => mCount i vs S2
def xAnd (f g : Sl → O SV) : Sl → O SV := fun S => (f S).bind fun x S1 => match (cont S1 x).bind truth with
  | some b => if b then g S1 else .ok x S1
  | none => .bad
def xOr (f g : Sl → O SV) : Sl → O SV := fun S => (f S).bind fun x S1 => match (cont S1 x).bind truth with
  | some b => if b then .ok x S1 else g S1
  | none => .bad
def xChain (op op2 : CmpOp) (f g h : Sl → O SV) : Sl → O SV := fun S => (f S).bind fun x S1 => (g S1).bind fun y S2 => match cmpV S2 op x y with
  | some true => (h S2).bind fun z S3 => O.of ((cmpV S3 op2 y z).map fun b => .dat (.bool b)) S3
  | some false => .ok (.dat (.bool false)) S2
  | none => .bad
def xCallS (F : Fn) (k : Nat) (src : List Src) (a kk : Sl → O (List SV)) : Sl → O SV := fun S => (a S).bind fun ps S1 => (kk S1).bind fun ks S2 => callS F k src ps ks S2
def xBad : Sl → O SV := fun _ => .bad
def zBad : Sl → Fl := fun _ => .bad
/-! tests -/
def qNot (t : Sl → O Bool) : Sl → O Bool := fun S => (t S).bind fun b S1 => .ok (!b) S1
def qAnd (t u : Sl → O Bool) : Sl → O Bool := fun S => (t S).bind fun b S1 => if b then u S1 else .ok false S1
def qOr (t u : Sl → O Bool) : Sl → O Bool := fun S => (t S).bind fun b S1 => if b then .ok true S1 else u S1
def qCmp (op : CmpOp) (f g : Sl → O SV) : Sl → O Bool := fun S => (f S).bind fun x S1 => (g S1).bind fun y S2 => O.of (cmpV S2 op x y) S2
def qChain (op op2 : CmpOp) (f g h : Sl → O SV) : Sl → O Bool := fun S => (f S).bind fun x S1 => (g S1).bind fun y S2 => match cmpV S2 op x y with
  | some true => (h S2).bind fun z S3 => O.of (cmpV S3 op2 y z) S3
  | some false => .ok false S2
  | none => .bad
def qTr (f : Sl → O SV) : Sl → O Bool := fun S => (f S).bind fun x S1 => O.of ((cont S1 x).bind truth) S1
/-! lists of values, walks -/
def aN : Sl → O (List SV) := fun S => .ok [] S
def aC (f : Sl → O SV) (r : Sl → O (List SV)) : Sl → O (List SV) := fun S => (f S).bind fun x S1 => (r S1).bind fun xs S2 => .ok (x :: xs) S2
def aS (f : Sl → O SV) (r : Sl → O (List SV)) : Sl → O (List SV) := fun S => (f S).bind fun x S1 => stA x S1 (r S1)
def iR1 (a : Sl → O (List SV)) : Sl → O (List D) := fun S => (a S).bind rng1
def iR2 (a : Sl → O (List SV)) : Sl → O (List D) := fun S => (a S).bind rng2
def iR3 (a : Sl → O (List SV)) : Sl → O (List D) := fun S => (a S).bind rng3
def iEn (a : Sl → O (List SV)) : Sl → O (List D) := fun S => (a S).bind enum1
def iZip (a : Sl → O (List SV)) : Sl → O (List D) := fun S => (a S).bind zip2
def iSq (f : Sl → O SV) : Sl → O (List D) := fun S => (f S).bind fun x S1 => (settle S1 x).bind fun d S2 => O.of (itemsOf d) S2
/-! statements -/
def zPass : Sl → Fl := fun S => .nx S
def zBrk : Sl → Fl := fun S => .bk S
def zCnt : Sl → Fl := fun S => .ct S
def zEx (f : Sl → O SV) : Sl → Fl := fun S => (f S).st fun _ S1 => .nx S1
def zRet (io : Option Nat) (f : Sl → O SV) : Sl → Fl := fun S => ((f S).bind fun v S1 => retV io S1 v).st fun v S1 => .ret v S1
def zRetN (io : Option Nat) : Sl → Fl := fun S => (retV io S (.dat .none)).st fun v S1 => .ret v S1
def zSet (i : Nat) (f : Sl → O SV) : Sl → Fl := fun S => ((f S).bind fun v S1 => stow S1 v).st fun v S1 => .nx (put S1 i v)
def zSet2 (i j : Nat) (a : Sl → O (List SV)) : Sl → Fl := fun S => ((a S).bind fun vs S1 => stowAll vs S1).st fun vs S1 => match vs with
  | [v, w] => .nx (put (put S1 i v) j w)
  | _ => .bad
def zSet3 (i j l : Nat) (a : Sl → O (List SV)) : Sl → Fl := fun S => ((a S).bind fun vs S1 => stowAll vs S1).st fun vs S1 => match vs with
  | [v, w, u] => .nx (put (put (put S1 i v) j w) l u)
  | _ => .bad
def zTup (tg : Tg) (f : Sl → O SV) : Sl → Fl := fun S => (f S).st fun v S1 => (settle S1 v).st fun d S2 => match tg.set d S2 with
  | some S3 => .nx S3
  | none => .bad
def zSub (j : Nat) (fi f : Sl → O SV) : Sl → Fl := fun S => (f S).st fun v S1 => (settle S1 v).st fun d S2 => match S2[j]? with
  | some (some (.own _)) => (fi S2).st fun v S3 => (match cont S3 v with
    | some (.int k) => (match S3[j]? with
      | some (some (.own xs)) => (match ixN xs.length k with
        | some l => .nx (put S3 j (.own (xs.set l d)))
        | none => .bad)
      | _ => .bad)
    | _ => .bad)
  | _ => .bad
def zIf (t : Sl → O Bool) (a b : Sl → Fl) : Sl → Fl := fun S => (t S).st fun k S1 => if k then a S1 else b S1
def zFor (tg : Tg) (fi : Sl → O (List D)) (b : Sl → Fl) : Sl → Fl := fun S => (fi S).st fun ds S1 => forL (fun d S2 => match tg.set d S2 with
  | some S3 => b S3
  | none => .bad) ds S1
def zWh (t : Sl → O Bool) (b : Sl → Fl) : Sl → Fl := fun S => whL t b 1000000000 S
def zRaise (x : Str) (xc : XC) (a : Sl → O (List SV)) : Sl → Fl := fun S => ((a S).bind (mkX x xc)).st fun x S1 => .exc x.1 x.2 S1
def zTry (d : Dsc) (a b : Str) (i j : Nat) (body : Sl → Fl) : Sl → Fl := fun S => match body S with
  | .exc k fs S => (match d.isx.lookup (k, a), d.isx.lookup (k, b) with
    | some p, some q => if p || q then .nx ((put S j (.exc k fs)).set i none) else .exc k fs S
    | _, _ => .bad)
  | r => r
def z0 : Sl → Fl := fun S => .nx S
def zC (f r : Sl → Fl) : Sl → Fl := fun S => (f S).bind fun S1 => r S1
def xThk : Sl → O SV := fun S => match S[0]? with
  | some (some (SV.thk (some d) _ _)) => .ok (.dat d) S
  | some (some (SV.thk none k fs)) => .exc k fs S
  | _ => .bad
/-- a def run: nm, the slots; io, the list that is handed over to be written -/
def runZ (nm : Nat) (io : Option Nat) (b : Sl → Fl) (as : List SV) : Res := match b (as.map some ++ List.replicate (nm - as.length) none) with
  | .nx S => (match io with
    | none => .ok (.dat .none) []
    | some i => match S[i]? with
      | some (some (.own xs)) => .ok (.dat .none) xs
      | _ => .bad)
  | .ret r S => (match io with
    | none => .ok r []
    | some i => match S[i]? with
      | some (some (.own xs)) => .ok r xs
      | _ => .bad)
  | .exc k fs _ => .exc k fs
  | _ => .bad
end Z

/-! Rules to compute with: one a form. -/
namespace Z
open PySem
section
variable {S S1 S2 S3 : Sl} {f g h : Sl → O SV} {t u : Sl → O Bool} {a r : Sl → O (List SV)} {x y v w : SV} {d e k : D} {vs ws : List SV} {b : Bool} {i j : Nat} {op op2 : CmpOp}
theorem r_V (h : S[i]? = some (some (.dat d))) : xV i S = .ok (.dat d) S := by unfold xV; rw [h]
theorem r_Vo {xs : List D} (h : S[i]? = some (some (.own xs))) : xV i S = .ok (.bor i) S := by unfold xV; rw [h]
theorem r_Vx {c : Str} {fs : Fs} (h : S[i]? = some (some (.exc c fs))) : xV i S = .ok (.exc c fs) S := by unfold xV; rw [h]
theorem r_K : xK d S = .ok (.dat d) S := rfl
theorem r_bin {bo : Operator} {z : SV} (h1 : f S = .ok x S1) (h2 : g S1 = .ok y S2) (h3 : cont2 S2 x = some d) (h4 : cont S2 y = some e) (h5 : binD bo d e = some z) : xBin bo f g S = .ok z S2 := by simp only [xBin, O.bind, O.st, O.of, Option.map, h1, h2, h3, h4, h5]
theorem b_mul {i j : Int} (h : mulOk i j = true) : binD .Mult (.int i) (.int j) = some (.dat (.int (i * j))) := if_pos h
theorem b_fd {i j : Int} (h : divOk j = true) : binD .FloorDiv (.int i) (.int j) = some (.dat (.int (i.fdiv j))) := if_pos h
theorem b_mod {i j : Int} (h : j ≠ 0) : binD .Mod (.int i) (.int j) = some (.dat (.int (i.fmod j))) := if_pos h
theorem b_pow {i j : Int} (h : (decide (0 ≤ j) && decide (j ≤ 1000000) && decide (i.natAbs < 2 ^ 64)) = true) : binD .Pow (.int i) (.int j) = some (.dat (.int (i ^ j.toNat))) := if_pos h
theorem b_lst {xs ys : List D} (h : xs.length + ys.length ≤ sizeLine) : binD .Add (.list xs) (.list ys) = some (.own (xs ++ ys)) := if_pos h
theorem b_tup {xs ys : List D} (h : xs.length + ys.length ≤ sizeLine) : binD .Add (.tuple xs) (.tuple ys) = some (.dat (.tuple (xs ++ ys))) := if_pos h
theorem b_rep {xs : List D} {k : Int} (h : (decide (-(2 ^ 63) ≤ k) && decide (k < 2 ^ 63) && decide (xs.length * k.toNat ≤ sizeLine)) = true) : binD .Mult (.list xs) (.int k) = some (.own (List.replicate k.toNat xs).flatten) := if_pos h
theorem r_un {uo : UnaryOp} (h1 : f S = .ok x S1) (h2 : cont S1 x = some d) (h3 : unD uo d = some e) : xUn uo f S = .ok (.dat e) S1 := by simp only [xUn, O.bind, O.st, O.of, Option.map, Option.bind, Bool.false_eq_true, if_true, if_false, Fl.bind, h1, h2, h3]
theorem r_cmp (h1 : f S = .ok x S1) (h2 : g S1 = .ok y S2) (h3 : cmpV S2 op x y = some b) : xCmp op f g S = .ok (.dat (.bool b)) S2 := by simp only [xCmp, O.bind, O.st, O.of, Option.map, Option.bind, Bool.false_eq_true, if_true, if_false, Fl.bind, h1, h2, h3]
theorem q_cmp (h1 : f S = .ok x S1) (h2 : g S1 = .ok y S2) (h3 : cmpV S2 op x y = some b) : qCmp op f g S = .ok b S2 := by simp only [qCmp, O.bind, O.st, O.of, Option.map, Option.bind, Bool.false_eq_true, if_true, if_false, Fl.bind, h1, h2, h3]
theorem q_chain (h1 : f S = .ok x S1) (h2 : g S1 = .ok y S2) (h3 : cmpV S2 op x y = some true) (h4 : h S2 = .ok w S3) (h5 : cmpV S3 op2 y w = some b) : qChain op op2 f g h S = .ok b S3 := by simp only [qChain, O.bind, O.st, O.of, Option.map, h1, h2, h3, h4, h5]
theorem q_chainF (h1 : f S = .ok x S1) (h2 : g S1 = .ok y S2) (h3 : cmpV S2 op x y = some false) : qChain op op2 f g h S = .ok false S2 := by simp only [qChain, O.bind, O.st, O.of, Option.map, Option.bind, Bool.false_eq_true, if_true, if_false, Fl.bind, h1, h2, h3]
theorem r_ix (h1 : f S = .ok x S1) (h2 : g S1 = .ok y S2) (h3 : cont S2 x = some d) (h4 : cont S2 y = some k) (h5 : ixD d k = some e) : xIx f g S = .ok (.dat e) S2 := by simp only [xIx, O.bind, O.st, O.of, Option.map, h1, h2, h3, h4, h5]
theorem r_IfT (h1 : t S = .ok true S1) (h2 : f S1 = .ok x S2) : xIf t f g S = .ok x S2 := by unfold xIf; rw [h1]; exact h2
theorem r_IfF (h1 : t S = .ok false S1) (h2 : g S1 = .ok x S2) : xIf t f g S = .ok x S2 := by unfold xIf; rw [h1]; exact h2
theorem a_N : aN S = .ok [] S := rfl
theorem a_C (h1 : f S = .ok x S1) (h2 : a S1 = .ok vs S2) : aC f a S = .ok (x :: vs) S2 := by unfold aC; rw [h1]; show (a S1).bind _ = _; rw [h2]; rfl
theorem r_Tup {ds : List D} (h1 : a S = .ok vs S1) (h2 : settleAll vs S1 = .ok ds S2) (h3 : ds.length ≤ sizeLine) : xTup a S = .ok (.dat (.tuple ds)) S2 := by simp only [xTup, O.bind, h1, h2, tupO, h3, if_true]
theorem r_Lst {ds : List D} (h1 : a S = .ok vs S1) (h2 : settleAll vs S1 = .ok ds S2) (h3 : ds.length ≤ sizeLine) : xLst a S = .ok (.own ds) S2 := by simp only [xLst, O.bind, h1, h2, lstO, h3, if_true]
theorem r_Bi {n : Str} (h1 : a S = .ok vs S1) (h2 : biV S1 n vs = some x) : xBi n a S = .ok x S1 := by simp only [xBi, O.bind, O.st, O.of, Option.map, Option.bind, Bool.false_eq_true, if_true, if_false, Fl.bind, h1, h2]
theorem r_Is {D : Dsc} {bi : Bool} {ty : Str} (h1 : f S = .ok x S1) (h2 : isW D bi ty S1 x = some b) : xIs D bi ty f S = .ok (.dat (.bool b)) S1 := by simp only [xIs, O.bind, O.st, O.of, Option.map, h1, h2]
theorem r_AndT (h1 : f S = .ok x S1) (h2 : cont S1 x = some d) (h3 : truth d = some true) (h4 : g S1 = .ok y S2) : xAnd f g S = .ok y S2 := by simp only [xAnd, O.bind, O.st, O.of, Option.map, Option.bind, Bool.false_eq_true, if_true, if_false, Fl.bind, h1, h2, h3, h4]
theorem r_AndF (h1 : f S = .ok x S1) (h2 : cont S1 x = some d) (h3 : truth d = some false) : xAnd f g S = .ok x S1 := by simp only [xAnd, O.bind, O.st, O.of, Option.map, Option.bind, Bool.false_eq_true, if_true, if_false, Fl.bind, h1, h2, h3]
theorem r_OrT (h1 : f S = .ok x S1) (h2 : cont S1 x = some d) (h3 : truth d = some true) : xOr f g S = .ok x S1 := by simp only [xOr, O.bind, O.st, O.of, Option.map, Option.bind, Bool.false_eq_true, if_true, if_false, Fl.bind, h1, h2, h3]
theorem r_OrF (h1 : f S = .ok x S1) (h2 : cont S1 x = some d) (h3 : truth d = some false) (h4 : g S1 = .ok y S2) : xOr f g S = .ok y S2 := by simp only [xOr, O.bind, O.st, O.of, Option.map, Option.bind, Bool.false_eq_true, if_true, if_false, Fl.bind, h1, h2, h3, h4]
theorem q_Tr (h1 : f S = .ok x S1) (h2 : cont S1 x = some d) (h3 : truth d = some b) : qTr f S = .ok b S1 := by simp only [qTr, O.bind, O.st, O.of, Option.map, Option.bind, Bool.false_eq_true, if_true, if_false, Fl.bind, h1, h2, h3]
theorem q_Not (h1 : t S = .ok b S1) : qNot t S = .ok (!b) S1 := by simp only [qNot, O.bind, O.st, O.of, Option.map, Option.bind, Bool.false_eq_true, if_true, if_false, Fl.bind, h1]
theorem q_AndT (h1 : t S = .ok true S1) (h2 : u S1 = .ok b S2) : qAnd t u S = .ok b S2 := by unfold qAnd; rw [h1]; exact h2
theorem q_AndF (h1 : t S = .ok false S1) : qAnd t u S = .ok false S1 := by simp only [qAnd, O.bind, O.st, O.of, Option.map, Option.bind, Bool.false_eq_true, if_true, if_false, Fl.bind, h1]
theorem q_OrT (h1 : t S = .ok true S1) : qOr t u S = .ok true S1 := by simp only [qOr, O.bind, O.st, O.of, Option.map, Option.bind, Bool.false_eq_true, if_true, if_false, Fl.bind, h1]
theorem q_OrF (h1 : t S = .ok false S1) (h2 : u S1 = .ok b S2) : qOr t u S = .ok b S2 := by unfold qOr; rw [h1]; exact h2
/-- an own def called; vs: its arguments in order -/
theorem r_Call {F : Fn} {src : List Src} {ks : List SV} {o : O SV} (h1 : a S = .ok vs S1) (h2 : r S1 = .ok ks S2) (h3 : pick src vs ks = some ws) (h4 : callF F ws S2 = o) : xCall F src a r S = o := by simp only [xCall, O.bind, O.st, O.of, Option.map, Option.bind, Bool.false_eq_true, if_true, if_false, Fl.bind, h1, h2, h3, h4]
theorem c_plain {F : Fn} {as : List SV} {res : SV} {xs : List D} (hi : F.io = none) (h1 : hand S none 0 vs = some as) (h2 : F.run as = .ok res xs) (h3 : noL res = true) : callF F vs S = .ok res S := by
  unfold callF; rw [hi, h1]; dsimp only; rw [h2]; dsimp only; rw [if_pos h3]
theorem c_frz {F : Fn} {as : List SV} {res : SV} {xs : List D} (hi : F.io = none) (h1 : hand S none 0 vs = some as) (h2 : F.run as = .ok res xs) (h3 : noL res = false) : callF F vs S = .ok res (frzAll S (bors vs)) := by
  unfold callF; rw [hi, h1]; dsimp only; rw [h2]; dsimp only; rw [if_neg (by rw [h3]; decide)]
theorem c_exc {F : Fn} {as : List SV} {c : Str} {fs : Fs} (hi : F.io = none) (h1 : hand S none 0 vs = some as) (h2 : F.run as = .exc c fs) (h3 : noLF fs = true) : callF F vs S = .exc c fs S := by
  unfold callF; rw [hi, h1]; dsimp only; rw [h2]; dsimp only; rw [if_pos h3]
theorem c_io {F : Fn} {as : List SV} {res : SV} {xs : List D} {kk : Nat} (hi : F.io = some kk) (h1 : hand S (some kk) 0 vs = some as) (h2 : F.run as = .ok res xs) (h3 : vs[kk]? = some (.bor i)) (h4 : (bors vs).count i = 1) (h5 : (noL res && noLsts xs) = true) : callF F vs S = .ok res (put S i (.own xs)) := by
  unfold callF; rw [hi, h1]; dsimp only; rw [h2]; dsimp only
  have e : ioAt (some kk) vs = some i := by unfold ioAt; dsimp only; rw [h3]
  rw [e]; dsimp only; rw [if_pos (by rw [h4, h5]; rfl)]
/-! walks -/
theorem i_R1 {n : Int} {ds : List D} (h1 : a S = .ok [.dat (.int n)] S1) (h2 : small n = true) : iR1 a S = .ok (rng 0 n.toNat) S1 := by simp only [iR1, rng1, O.bind, O.st, O.of, Option.map, Option.bind, Bool.false_eq_true, if_true, if_false, Fl.bind, h1, h2]
theorem i_R2 {m n : Int} (h1 : a S = .ok [.dat (.int m), .dat (.int n)] S1) (h2 : (small m && small n) = true) : iR2 a S = .ok (rng m (n - m).toNat) S1 := by simp only [iR2, rng2, O.bind, O.st, O.of, Option.map, Option.bind, Bool.false_eq_true, if_true, if_false, Fl.bind, h1, h2]
theorem i_R1A {n : Int} (h1 : a S = .ok [.dat (.int n)] S1) : iR1 a S = .ok (rng 0 n.toNat) S1 := by simp only [iR1, rng1, O.bind, h1]
theorem i_R2A {m n : Int} (h1 : a S = .ok [.dat (.int m), .dat (.int n)] S1) : iR2 a S = .ok (rng m (n - m).toNat) S1 := by simp only [iR2, rng2, O.bind, h1]
theorem i_En {ds : List D} (h1 : a S = .ok [x] S1) (h2 : settle S1 x = .ok d S2) (h3 : itemsOf d = some ds) : iEn a S = .ok (enumD ds) S2 := by simp only [iEn, enum1, O.bind, O.st, O.of, Option.map, Option.bind, Bool.false_eq_true, if_true, if_false, Fl.bind, h1, h2, h3]
theorem i_Sq {ds : List D} (h1 : f S = .ok x S1) (h2 : settle S1 x = .ok d S2) (h3 : itemsOf d = some ds) : iSq f S = .ok ds S2 := by simp only [iSq, O.bind, O.st, O.of, Option.map, Option.bind, Bool.false_eq_true, if_true, if_false, Fl.bind, h1, h2, h3]
/-! statements -/
theorem z_C {p q : Sl → Fl} {o : Fl} (h1 : p S = .nx S1) (h2 : q S1 = o) : zC p q S = o := by unfold zC; rw [h1]; exact h2
theorem z_Cr {p q : Sl → Fl} (h1 : p S = .ret x S1) : zC p q S = .ret x S1 := by simp only [zC, O.bind, O.st, O.of, Option.map, Option.bind, Bool.false_eq_true, if_true, if_false, Fl.bind, h1]
theorem z_Cx {p q : Sl → Fl} {c : Str} {fs : Fs} (h1 : p S = .exc c fs S1) : zC p q S = .exc c fs S1 := by simp only [zC, O.bind, O.st, O.of, Option.map, Option.bind, Bool.false_eq_true, if_true, if_false, Fl.bind, h1]
theorem z_0 : z0 S = .nx S := rfl
theorem z_Set (h1 : f S = .ok x S1) (h2 : stow S1 x = .ok y S2) : zSet i f S = .nx (put S2 i y) := by simp only [zSet, O.bind, O.st, O.of, Option.map, Option.bind, Bool.false_eq_true, if_true, if_false, Fl.bind, h1, h2]
theorem z_Ex (h1 : f S = .ok x S1) : zEx f S = .nx S1 := by simp only [zEx, O.bind, O.st, O.of, Option.map, Option.bind, Bool.false_eq_true, if_true, if_false, Fl.bind, h1]
theorem z_ExX {c : Str} {fs : Fs} (h1 : f S = .exc c fs S1) : zEx f S = .exc c fs S1 := by simp only [zEx, O.bind, O.st, O.of, Option.map, Option.bind, Bool.false_eq_true, if_true, if_false, Fl.bind, h1]
theorem z_Ret {io : Option Nat} (h1 : f S = .ok x S1) (h2 : retV io S1 x = .ok y S2) : zRet io f S = .ret y S2 := by simp only [zRet, O.bind, O.st, O.of, Option.map, Option.bind, Bool.false_eq_true, if_true, if_false, Fl.bind, h1, h2]
theorem z_IfT {p q : Sl → Fl} {o : Fl} (h1 : t S = .ok true S1) (h2 : p S1 = o) : zIf t p q S = o := by unfold zIf; rw [h1]; exact h2
theorem z_IfF {p q : Sl → Fl} {o : Fl} (h1 : t S = .ok false S1) (h2 : q S1 = o) : zIf t p q S = o := by unfold zIf; rw [h1]; exact h2
theorem z_If {p q : Sl → Fl} {o : Fl} (h1 : t S = .ok b S1) (h2 : b = true → p S1 = o) (h3 : b = false → q S1 = o) : zIf t p q S = o := by
  cases b with
  | true => exact z_IfT h1 (h2 rfl)
  | false => exact z_IfF h1 (h3 rfl)
theorem z_Sub {xs : List D} {n : Int} {l : Nat} (h1 : f S = .ok x S1) (h2 : settle S1 x = .ok d S2) (h0 : S2[j]? = some (some (.own xs))) (h3 : g S2 = .ok y S3) (h4 : cont S3 y = some (.int n)) (h5 : S3[j]? = some (some (.own xs))) (h6 : ixN xs.length n = some l) : zSub j g f S = .nx (put S3 j (.own (xs.set l d))) := by simp only [zSub, O.bind, O.st, O.of, Option.map, h1, h2, h0, h3, h4, h5, h6]
theorem z_For {tg : Tg} {fi : Sl → O (List D)} {p : Sl → Fl} {ds : List D} {o : Fl} (h1 : fi S = .ok ds S1) (h2 : forL (fun d S2 => match tg.set d S2 with | some S3 => p S3 | none => .bad) ds S1 = o) : zFor tg fi p S = o := by unfold zFor; rw [h1]; exact h2
theorem z_Raise {c : Str} {xc : XC} {q : Str × Fs} (h1 : a S = .ok vs S1) (h2 : mkX c xc vs S1 = .ok q S2) : zRaise c xc a S = .exc q.1 q.2 S2 := by simp only [zRaise, O.bind, O.st, O.of, Option.map, Option.bind, Bool.false_eq_true, if_true, if_false, Fl.bind, h1, h2]
/-- a loop by an invariant over the items that are left -/
theorem for_inv {body : D → Sl → Fl} (P : List D → Sl → Prop) : ∀ {ds : List D} {S : Sl}, P ds S → (∀ d r S, P (d :: r) S → ∃ S', (body d S = .nx S' ∨ body d S = .ct S') ∧ P r S') → ∃ S', forL body ds S = .nx S' ∧ P [] S'
  | [], S, h, _ => ⟨S, rfl, h⟩
  | d :: r, S, h, st => by
    obtain ⟨S1, e, h1⟩ := st d r S h
    obtain ⟨S2, e2, h2⟩ := for_inv P h1 st
    refine ⟨S2, ?_, h2⟩
    unfold forL
    rcases e with e | e <;> (rw [e]; exact e2)
/-- a comprehension by an invariant: acc, what is made so far -/
theorem lc_inv {turn : D → Sl → O (Option D)} (P : List D → List D → Sl → Prop) : ∀ {ds acc : List D} {S : Sl}, P ds acc S → (∀ d r acc S, P (d :: r) acc S → (∃ x S', turn d S = .ok (some x) S' ∧ acc.length < sizeLine ∧ P r (acc ++ [x]) S') ∨ ∃ S', turn d S = .ok none S' ∧ P r acc S') → ∃ xs S', lcL turn ds acc S = .ok xs S' ∧ P [] xs S'
  | [], acc, S, h, _ => ⟨acc, S, rfl, h⟩
  | d :: r, acc, S, h, st => by
    unfold lcL
    rcases st d r acc S h with ⟨x, S1, e, l, h1⟩ | ⟨S1, e, h1⟩
    · obtain ⟨xs, S2, e2, h2⟩ := lc_inv P h1 st
      exact ⟨xs, S2, by rw [e]; dsimp only; rw [if_pos l]; exact e2, h2⟩
    · obtain ⟨xs, S2, e2, h2⟩ := lc_inv P h1 st
      exact ⟨xs, S2, by rw [e]; exact e2, h2⟩
theorem r_LC {is : List Nat} {tg : Tg} {fi : Sl → O (List D)} {ds xs : List D} (h1 : fi S = .ok ds S1) (h2 : lcL (xTurn is tg t f) ds [] S1 = .ok xs S2) : xLC is tg fi t f S = .ok (.own xs) S2 := by simp only [xLC, O.bind, O.st, O.of, Option.map, h1, h2]
end
end Z
namespace Z
open PySem
/-- what a statement's end is wished to be -/
@[irreducible] def Wp (o : Fl) (φ : Fl → Prop) : Prop := φ o
theorem wp_i {o : Fl} {φ : Fl → Prop} (h : φ o) : Wp o φ := by unfold Wp; exact h
theorem wp_e {o : Fl} {φ : Fl → Prop} (h : Wp o φ) : φ o := by unfold Wp at h; exact h
section
variable {S S1 S2 S3 : Sl} {f g : Sl → O SV} {t : Sl → O Bool} {p q : Sl → Fl} {φ : Fl → Prop} {x y : SV} {b : Bool} {i : Nat} {io : Option Nat}
theorem w_C (h : Wp (p S) fun o => Wp (o.bind q) φ) : Wp (zC p q S) φ := wp_i (wp_e (wp_e h))
theorem w_nx (h : Wp (q S1) φ) : Wp ((Fl.nx S1).bind q) φ := wp_i (wp_e h)
theorem w_0 (h : φ (.nx S)) : Wp (z0 S) φ := wp_i h
theorem w_Set (h1 : f S = .ok x S1) (h2 : stow S1 x = .ok y S2) (h : φ (.nx (put S2 i y))) : Wp (zSet i f S) φ := by unfold Wp; rw [z_Set h1 h2]; exact h
theorem w_Ex (h1 : f S = .ok x S1) (h : φ (.nx S1)) : Wp (zEx f S) φ := by unfold Wp; rw [z_Ex h1]; exact h
theorem w_eq {o : Fl} (h1 : p S = o) (h : φ o) : Wp (p S) φ := by unfold Wp; rw [h1]; exact h
theorem w_Ret (h1 : f S = .ok x S1) (h2 : retV io S1 x = .ok y S2) (h : φ (.ret y S2)) : Wp (zRet io f S) φ := by unfold Wp; rw [z_Ret h1 h2]; exact h
theorem w_If (h1 : t S = .ok b S1) (h2 : b = true → Wp (p S1) φ) (h3 : b = false → Wp (q S1) φ) : Wp (zIf t p q S) φ := by
  refine wp_i ?_
  cases b with
  | true => rw [z_IfT h1 rfl]; exact wp_e (h2 rfl)
  | false => rw [z_IfF h1 rfl]; exact wp_e (h3 rfl)
theorem w_For {tg : Tg} {fi : Sl → O (List D)} {ds : List D} (h1 : fi S = .ok ds S1) (h2 : Wp (forL (fun d S2 => match tg.set d S2 with | some S3 => p S3 | none => .bad) ds S1) φ) : Wp (zFor tg fi p S) φ := by refine wp_i ?_; rw [z_For h1 rfl]; exact wp_e h2
/-- a loop whose turns go on, or end the def -/
theorem w_inv {body : D → Sl → Fl} (P : List D → Sl → Prop) {ds : List D} (h0 : P ds S) (st : ∀ d r S, P (d :: r) S → Wp (body d S) fun o => (∃ S', (o = .nx S' ∨ o = .ct S') ∧ P r S') ∨ ((∀ S', o ≠ .nx S' ∧ o ≠ .ct S' ∧ o ≠ .bk S') ∧ φ o)) (h : ∀ S', P [] S' → φ (.nx S')) : Wp (forL body ds S) φ := by
  induction ds generalizing S with
  | nil => exact wp_i (h S h0)
  | cons d r ih =>
    have z := wp_e (st d r S h0)
    refine wp_i ?_
    unfold forL
    rcases z with ⟨S1, e | e, h1⟩ | ⟨n, z⟩
    · rw [e]; exact wp_e (ih h1)
    · rw [e]; exact wp_e (ih h1)
    · cases e : body d S with
      | nx S' => exact absurd e (n S').1
      | ct S' => exact absurd e (n S').2.1
      | bk S' => exact absurd e (n S').2.2
      | ret r S' => rw [e] at z; exact z
      | exc c fs S' => rw [e] at z; exact z
      | bad => rw [e] at z; exact z
end
/-- a def's end by a wish: what it gives and what is left in the list that it writes -/
def FinR (io : Option Nat) (R : Res → Prop) : Fl → Prop
  | .nx S => (match io with
    | none => R (.ok (.dat .none) [])
    | some i => ∃ xs, S[i]? = some (some (.own xs)) ∧ R (.ok (.dat .none) xs))
  | .ret r S => (match io with
    | none => R (.ok r [])
    | some i => ∃ xs, S[i]? = some (some (.own xs)) ∧ R (.ok r xs))
  | .exc k fs _ => R (.exc k fs)
  | _ => False
theorem run_w {nm : Nat} {io : Option Nat} {b : Sl → Fl} {as : List SV} {R : Res → Prop} (h : Wp (b (as.map some ++ List.replicate (nm - as.length) none)) (FinR io R)) : R (runZ nm io b as) := by
  unfold runZ
  unfold Wp at h
  revert h
  cases b (as.map some ++ List.replicate (nm - as.length) none) <;> intro h
  · cases io with
    | none => exact h
    | some i => obtain ⟨xs, e, z⟩ := h; dsimp only; rw [e]; exact z
  · cases io with
    | none => exact h
    | some i => obtain ⟨xs, e, z⟩ := h; dsimp only; rw [e]; exact z
  · exact h.elim
  · exact h.elim
  · exact h
  · exact h.elim
end Z
namespace Z
open PySem
theorem w_IfAnd {S S1 : Sl} {t u : Sl → O Bool} {p q : Sl → Fl} {φ : Fl → Prop} {b : Bool} (h1 : t S = .ok b S1) (h2 : b = true → Wp (zIf u p q S1) φ) (h3 : b = false → Wp (q S1) φ) : Wp (zIf (qAnd t u) p q S) φ := by
  refine wp_i ?_
  unfold zIf qAnd
  rw [h1]
  cases b with
  | true => exact wp_e (h2 rfl)
  | false => exact wp_e (h3 rfl)
theorem w_IfOr {S S1 : Sl} {t u : Sl → O Bool} {p q : Sl → Fl} {φ : Fl → Prop} {b : Bool} (h1 : t S = .ok b S1) (h2 : b = true → Wp (p S1) φ) (h3 : b = false → Wp (zIf u p q S1) φ) : Wp (zIf (qOr t u) p q S) φ := by
  refine wp_i ?_
  unfold zIf qOr
  rw [h1]
  cases b with
  | true => exact wp_e (h2 rfl)
  | false => exact wp_e (h3 rfl)
end Z

/-! Laws of plain numbers and lists that the laws' ends share. -/
namespace Z
open PySem
theorem mulOk_l {i j : Int} (h : i.natAbs < 2 ^ 64) : mulOk i j = true := by unfold mulOk; rw [decide_eq_true h]; rfl
theorem mulOk_r {i j : Int} (h : j.natAbs < 2 ^ 64) : mulOk i j = true := by unfold mulOk; rw [decide_eq_true h, Bool.or_true]; rfl
theorem fmod_r {i j : Int} (h : 0 < j) : 0 ≤ i.fmod j ∧ i.fmod j < j := ⟨Int.fmod_nonneg_of_pos i h, Int.fmod_lt_of_pos i h⟩
theorem mulOk_fmod {i j k : Int} (h : 0 < j) (h2 : j ≤ 2 ^ 63) : mulOk (i.fmod j) k = true := mulOk_l (by have := fmod_r (i := i) h; omega)
theorem pow_fmod {i j k : Int} (h : 0 < j) (h2 : j ≤ 2 ^ 63) (h3 : (decide (0 ≤ k) && decide (k ≤ 1000000)) = true) : (decide (0 ≤ k) && decide (k ≤ 1000000) && decide ((i.fmod j).natAbs < 2 ^ 64)) = true := by
  rw [h3]; have := fmod_r (i := i) h; rw [decide_eq_true (by omega)]; rfl
theorem iD_len (cs : List Int) : (iD cs).length = cs.length := by unfold iD; rw [List.length_map]
theorem iD_at (cs : List Int) (i : Nat) : (iD cs)[i]? = cs[i]?.map .int := by unfold iD; rw [List.getElem?_map]
theorem small_of {i : Int} (h : -1000000000 ≤ i) (h2 : i ≤ 1000000000) : small i = true := by unfold small; rw [decide_eq_true (by omega), decide_eq_true (by omega)]; rfl
theorem atI_mod {xs : List D} {k : Int} (h : 0 < xs.length) : ∃ d, d ∈ xs ∧ atI xs (k.fmod (xs.length : Nat)) = some d := by
  have hl : (0 : Int) < (xs.length : Nat) := by omega
  have r := fmod_r (i := k) hl
  have hb : (k.fmod (xs.length : Nat)).toNat < xs.length := by omega
  refine ⟨xs[(k.fmod (xs.length : Nat)).toNat], List.getElem_mem hb, ?_⟩
  unfold atI ixN
  rw [if_pos r.1, if_pos r.2]
  exact List.getElem?_eq_getElem hb
theorem ix_mod {xs : List D} {k : Int} (h : 0 < xs.length) : ∃ d, d ∈ xs ∧ ixD (.list xs) (.int (k.fmod (xs.length : Nat))) = some d := atI_mod h
theorem ix_iD {cs : List Int} {k : Int} (h : 0 < cs.length) : ∃ c, c ∈ cs ∧ ixD (.list (iD cs)) (.int (k.fmod ((iD cs).length : Nat))) = some (.int c) := by
  obtain ⟨d, hd, e⟩ := ix_mod (xs := iD cs) (k := k) (by rw [iD_len]; exact h)
  obtain ⟨c, hc, rfl⟩ := List.mem_map.mp hd
  exact ⟨c, hc, e⟩
/-! comprehensions whose turns leave the slots as they are -/
section
variable {S S3 S4 S5 S6 : Sl} {ws : List Int} {turn : D → Sl → O (Option D)} {is : List Nat} {tg : Tg} {t : Sl → O Bool} {f : Sl → O SV} {d x : D} {v : SV} {b : Bool}
theorem t_yes (h0 : tg.set d (wipeI is S) = some S3) (h1 : t S3 = .ok true S4) (h2 : f S4 = .ok v S5) (h3 : settle S5 v = .ok x S6) : xTurn is tg t f d S = .ok (some x) (keepI S is S6) := by
  simp only [xTurn, O.bind, h0, h1, h2, h3, if_true]
theorem t_no (h0 : tg.set d (wipeI is S) = some S3) (h1 : t S3 = .ok false S4) : xTurn is tg t f d S = .ok none (keepI S is S4) := by
  simp only [xTurn, O.bind, h0, h1, Bool.false_eq_true, if_false]
theorem t_if (h0 : tg.set d (wipeI is S) = some S3) (h1 : t S3 = .ok b S4) (h2 : b = true → f S4 = .ok v S5 ∧ settle S5 v = .ok x S6) (h4 : keepI S is S6 = S) (h5 : keepI S is S4 = S) : xTurn is tg t f d S = .ok (if b then some x else none) S := by
  cases b with
  | true => rw [t_yes h0 h1 (h2 rfl).1 (h2 rfl).2, h4]; rfl
  | false => rw [t_no h0 h1, h5]; rfl
theorem t_all (h0 : tg.set d (wipeI is S) = some S3) (h2 : f S3 = .ok v S5) (h3 : settle S5 v = .ok x S6) (h4 : keepI S is S6 = S) : xTurn is tg tYes f d S = .ok (some x) S := by
  rw [t_yes h0 (t := tYes) rfl h2 h3, h4]
theorem lc_pure {g : D → Option D} : ∀ {ds acc : List D}, (∀ d ∈ ds, turn d S = .ok (g d) S) → acc.length + ds.length ≤ 1000 → lcL turn ds acc S = .ok (acc ++ ds.filterMap g) S
  | [], acc, _, _ => by rw [List.filterMap_nil, List.append_nil]; rfl
  | d :: r, acc, h, l => by
    rw [List.length_cons] at l
    unfold lcL
    rw [h d (List.mem_cons_self ..)]
    have hr : ∀ e ∈ r, turn e S = .ok (g e) S := fun e he => h e (List.mem_cons_of_mem _ he)
    cases q : g d with
    | none => dsimp only; rw [lc_pure hr (by omega), List.filterMap_cons_none q]
    | some x =>
      dsimp only
      have sl : acc.length < sizeLine := by unfold sizeLine; omega
      rw [if_pos sl, lc_pure hr (by rw [List.length_append, List.length_singleton]; omega), List.filterMap_cons_some q, List.append_assoc]; rfl
theorem lc_filt {p : Int → Bool} {f : Int → D} (h : ∀ w ∈ ws, turn (.int w) S = .ok (if p w then some (f w) else none) S) (hl : ws.length ≤ 1000) : lcL turn (iD ws) [] S = .ok ((ws.filter p).map f) S := by
  have z : ∀ d ∈ iD ws, turn d S = .ok ((fun d => match d with | .int w => if p w then some (f w) else none | _ => none) d) S := fun d hd => by
    obtain ⟨w, hw, rfl⟩ := List.mem_map.mp hd
    exact h w hw
  rw [lc_pure z (by rw [iD_len, List.length_nil]; omega), List.nil_append]
  congr 1
  unfold iD
  rw [List.filterMap_map]
  clear h z hl
  induction ws with
  | nil => rfl
  | cons a r ih =>
    cases q : p a with
    | true => rw [List.filterMap_cons_some (b := f a) (by simp only [Function.comp, q, if_true]), ih, List.filter_cons_of_pos q, List.map_cons]
    | false => rw [List.filterMap_cons_none (by simp only [Function.comp, q, Bool.false_eq_true, if_false]), ih, List.filter_cons_of_neg (by rw [q]; decide)]
theorem lc_map {f : Int → D} (h : ∀ w ∈ ws, turn (.int w) S = .ok (some (f w)) S) (hl : ws.length ≤ 1000) : lcL turn (iD ws) [] S = .ok (ws.map f) S := by
  have z := lc_filt (turn := turn) (p := fun _ => true) h hl
  rw [List.filter_eq_self.mpr fun _ _ => rfl] at z
  exact z
end
theorem bools_map {α : Type} (p : α → Bool) : ∀ ws : List α, boolsOf (ws.map fun w => .bool (p w)) = some (ws.map p)
  | [] => rfl
  | a :: r => by show (boolsOf (r.map fun w => .bool (p w))).map (p a :: ·) = _; rw [bools_map p r]; rfl
theorem ints_map {α : Type} (p : α → Int) : ∀ ws : List α, intsOf (ws.map fun w => .int (p w)) = some (ws.map p)
  | [] => rfl
  | a :: r => by show (intsOf (r.map fun w => .int (p w))).map (p a :: ·) = _; rw [ints_map p r]; rfl
theorem all_map {α : Type} (p : α → Bool) (ws : List α) : biAll [.list (ws.map fun w => .bool (p w))] = some (.dat (.bool (ws.all p))) := by
  show (boolsOf (ws.map fun w => .bool (p w))).map (fun bs => SV.dat (.bool (bs.all id))) = _
  rw [bools_map, Option.map_some, List.all_map]; rfl
theorem any_map {α : Type} (p : α → Bool) (ws : List α) : biAny [.list (ws.map fun w => .bool (p w))] = some (.dat (.bool (ws.any p))) := by
  show (boolsOf (ws.map fun w => .bool (p w))).map (fun bs => SV.dat (.bool (bs.any id))) = _
  rw [bools_map, Option.map_some, List.any_map]; rfl
theorem flatD_of {d : D} (h : SeqAt.shaped d = true) : flatD d = true := by
  unfold flatD
  rw [PyData.plain_of_canLay0 d (SeqAt.canLay_of_shaped h), decide_eq_true (SeqAt.depth_of_shaped h)]; rfl
theorem eq_str {S : Sl} (x : Str) : cmpV S .Eq (.dat (.str x)) (.dat (.str x)) = some true := by
  show (if flatD (.str x) && flatD (.str x) then some (PyData.eqv (.str x) (.str x)) else none) = _
  have e : flatD (.str x) = true := rfl
  rw [e, if_pos (by decide), SeqAt.eqv_refl_plain _ rfl]
theorem ne_str {S : Sl} (x : Str) : cmpV S .NotEq (.dat (.str x)) (.dat (.str x)) = some false := by
  show (if flatD (.str x) && flatD (.str x) then some (!PyData.eqv (.str x) (.str x)) else none) = _
  have e : flatD (.str x) = true := rfl
  rw [e, if_pos (by decide), SeqAt.eqv_refl_plain _ rfl]; rfl
/-- a list of numbers against the empty list -/
theorem eq_nil (ns : List Int) : cmpD .Eq (.list (iD ns)) (.list []) = some ns.isEmpty := by
  show (if flatD (.list (ns.map .int)) && flatD (.list []) then some (PyData.eqv (.list (ns.map .int)) (.list [])) else none) = _
  rw [flatD_of (W.ke_shaped_ints ns), if_pos (by decide)]
  cases ns with
  | nil => simp [PyData.eqv, PyData.eqvAll]
  | cons a r => simp [PyData.eqv, PyData.eqvAll]
theorem iD_map {α : Type} (f : α → Int) (ws : List α) : (ws.map fun w => PyData.int (f w)) = iD (ws.map f) := by unfold iD; rw [List.map_map]; rfl
theorem rng_iD (lo : Int) (n : Nat) : rng lo n = iD ((List.range n).map fun (i : Nat) => lo + (i : Int)) := iD_map (fun i : Nat => lo + (i : Int)) (List.range n)
theorem eq_int (i j : Int) : cmpD .Eq (.int i) (.int j) = some (decide (i = j)) := by
  show (if flatD (.int i) && flatD (.int j) then some (PyData.eqv (.int i) (.int j)) else none) = _
  have e : ∀ k : Int, flatD (.int k) = true := fun k => rfl
  rw [e, e, if_pos (by decide)]
  simp only [PyData.eqv]
  rfl
theorem cv_int {S : Sl} (i j : Int) : cmpV S .Eq (.dat (.int i)) (.dat (.int j)) = some (decide (i = j)) := eq_int i j
theorem enum_mem {ds : List D} {d : D} (h : d ∈ enumD ds) : ∃ (j : Nat) (e : D), e ∈ ds ∧ ds[j]? = some e ∧ d = .tuple [.int (j : Nat), e] := by
  obtain ⟨p, hp, rfl⟩ := List.mem_map.mp h
  have z := List.mem_zipIdx_iff_getElem?.mp hp
  exact ⟨p.2, p.1, List.mem_of_getElem? z, z, rfl⟩
section
variable {S S1 S2 S3 : Sl} {f g : Sl → O SV} {a : Sl → O (List SV)} {x v y : SV} {d : D} {xs ys : List D} {i : Nat}
theorem r_App (h0 : S[i]? = some (some (.own xs))) (h1 : a S = .ok [v] S1) (h2 : settle S1 v = .ok d S2) (h3 : S2[i]? = some (some (.own ys))) (h4 : ys.length < sizeLine) : xApp i a S = .ok (.dat .none) (put S2 i (.own (ys ++ [d]))) := by
  simp only [xApp, own?, h0, O.bind, h1, mAppend, h2, h3, h4, if_true]
theorem r_Sl {lo hi : Sl → O (Option Int)} {l h : Option Int} (h1 : f S = .ok x S1) (h2 : lo S1 = .ok l S2) (h3 : hi S2 = .ok h S3) (h4 : cont S3 x = some d) (h5 : sliceD l h d = some y) : xSl f lo hi S = .ok y S3 := by
  simp only [xSl, O.bind, h1, h2, h3, h4, O.of, h5]
theorem o_S {n : Int} (h1 : f S = .ok x S1) (h2 : cont S1 x = some (.int n)) : oS f S = .ok (some n) S1 := by simp only [oS, O.bind, h1, h2]
theorem r_Rev (h1 : f S = .ok x S1) (h2 : cont S1 x = some d) (h3 : sliceRev d = some y) : xRev f S = .ok y S1 := by simp only [xRev, O.bind, h1, h2, O.of, h3]
/-- a lambda whose body raises, handed to a def -/
theorem r_LamX {F : Fn} {is : List Nat} {k : Str} {fs : Fs} {r : SV} (h0 : frzAll S is = S) (h1 : f (hide S) = .exc k fs S1) (h2 : F.io = none) (h3 : F.run [.thk none k fs] = .ok r xs) : xLam F is f S = .ok r S := by
  simp only [xLam, h0, lmK, h1, callT, h2, h3]
theorem r_LamV {F : Fn} {is : List Nat} {r : SV} (h0 : frzAll S is = S) (h1 : f (hide S) = .ok v S1) (h4 : settle S1 v = .ok d S2) (h5 : noOwn S1 = true) (h2 : F.io = none) (h3 : F.run [.thk (some d) "" []] = .ok r xs) : xLam F is f S = .ok r S := by
  simp only [xLam, h0, lmK, h1, h4, h5, if_true, callT, h2, h3]
end
theorem cut_l1 (xs : List Int) (h : 1 ≤ xs.length) : cut (iD xs) none (some 1) = iD (xs.take 1) := by
  have e : sIx (iD xs).length (iD xs).length (some 1) = 1 := by
    show (if (1 : Int) < 0 then ((1 : Int) + ((iD xs).length : Nat)).toNat else min 1 (iD xs).length) = 1; rw [if_neg (by decide), iD_len]; omega
  unfold cut
  rw [e]
  show ((iD xs).drop 0).take (1 - 0) = _
  rw [List.drop_zero]; unfold iD; rw [List.map_take]
theorem cut_r1 (xs : List Int) (h : 1 ≤ xs.length) : cut (iD xs) (some 1) none = iD (xs.drop 1) := by
  have e : sIx (iD xs).length 0 (some 1) = 1 := by
    show (if (1 : Int) < 0 then ((1 : Int) + ((iD xs).length : Nat)).toNat else min 1 (iD xs).length) = 1; rw [if_neg (by decide), iD_len]; omega
  unfold cut
  rw [e]
  show ((iD xs).drop 1).take ((iD xs).length - 1) = _
  rw [List.take_of_length_le (by rw [List.length_drop]; omega)]
  unfold iD; rw [List.map_drop]
theorem iD_app (xs ys : List Int) : iD xs ++ iD ys = iD (xs ++ ys) := by unfold iD; rw [List.map_append]
theorem iD_rev (xs : List Int) : (iD xs).reverse = iD xs.reverse := by unfold iD; rw [List.map_reverse]
theorem filt_any {α : Type} (p : α → Bool) : ∀ ws : List α, (ws.filter p).isEmpty = !(ws.any p)
  | [] => rfl
  | a :: t => by
    cases q : p a with
    | true => rw [List.filter_cons_of_pos q, List.any_cons, q]; rfl
    | false => rw [List.filter_cons_of_neg (by rw [q]; decide), List.any_cons, q, Bool.false_or]; exact filt_any p t
theorem noL_iD : ∀ ws : List Int, noLsts (iD ws) = true
  | [] => rfl
  | a :: r => by show (noLst (.int a) && noLsts (iD r)) = true; rw [noL_iD r]; rfl
end Z

/-! What repr gives, for lists of numbers and the like; sums. -/
namespace Z
open PySem
/-- numbers that are short enough to be shown -/
def shortI (i : Int) : Prop := i.natAbs < 10 ^ 58
theorem short_log {i : Int} (h : shortI i) : i.natAbs.log2 < 199 := by
  by_cases z : i.natAbs = 0
  · rw [z]; decide
  · refine (Nat.log2_lt z).mpr (Nat.lt_of_lt_of_le h (by decide +kernel))
theorem short_text {i : Int} (h : shortI i) : (PyData.shown (.int i)).length ≤ 60 := by
  have e := int_text_length_le10 (k := 58) (by decide) h
  show (Str.ofString (toString i)).length ≤ 60
  rw [ofString_length]; omega
theorem rep_ok {d : D} (h1 : d.showable = true) (h2 : d.depth ≤ 20) (h3 : d.leavesShort 60 = true) (h4 : d.weight ≤ 200000) : reprD d = some (.str d.shown) := by
  have z := PyData.shown_le 60 (by decide) d h3
  have l : d.shown.length ≤ sizeLine := by
    have h5 : (60 + 2) * d.weight ≤ 62 * 200000 := Nat.mul_le_mul (by decide) h4
    unfold sizeLine; omega
  unfold reprD
  rw [h1, decide_eq_true h2, decide_eq_true l]; rfl
/-- what is shown of a number -/
theorem int_show {i : Int} (h : shortI i) : PyData.showable (.int i) = true ∧ PyData.leavesShort 60 (.int i) = true ∧ PyData.weight (.int i) ≤ 200 := by
  have l := short_log h
  refine ⟨?_, ?_, ?_⟩
  · unfold PyData.showable; exact decide_eq_true (by omega)
  · unfold PyData.leavesShort; exact decide_eq_true (short_text h)
  · unfold PyData.weight; split <;> omega
theorem all_show {ds : List D} {n : Nat} (h : ∀ d ∈ ds, d.showable = true ∧ d.leavesShort 60 = true ∧ d.weight ≤ n) : PyData.showableAll ds = true ∧ PyData.leavesShortAll 60 ds = true ∧ PyData.weightAll ds ≤ ds.length * (n + 1) := by
  induction ds with
  | nil => exact ⟨rfl, rfl, Nat.zero_le _⟩
  | cons a r ih =>
    obtain ⟨i1, i2, i3⟩ := ih fun d hd => h d (List.mem_cons_of_mem _ hd)
    obtain ⟨a1, a2, a3⟩ := h a (List.mem_cons_self ..)
    refine ⟨?_, ?_, ?_⟩
    · unfold PyData.showableAll; rw [a1, i1]; rfl
    · unfold PyData.leavesShortAll; rw [a2, i2]; rfl
    · unfold PyData.weightAll
      rw [List.length_cons, Nat.succ_mul]; omega
theorem depth_all {ds : List D} {n : Nat} (h : ∀ d ∈ ds, d.depth ≤ n) : PyData.depthAll ds ≤ n := by
  induction ds with
  | nil => exact Nat.zero_le _
  | cons a r ih =>
    have i := ih fun d hd => h d (List.mem_cons_of_mem _ hd)
    have a1 := h a (List.mem_cons_self ..)
    unfold PyData.depthAll
    exact Nat.max_le.mpr ⟨a1, i⟩
/-- data with a bound: shown, not deep, of a weight -/
def shB (d : D) (dp w : Nat) : Prop := d.showable = true ∧ d.leavesShort 60 = true ∧ d.weight ≤ w ∧ d.depth ≤ dp
theorem shB_int {i : Int} (h : shortI i) : shB (.int i) 0 200 := by
  obtain ⟨a, b, c⟩ := int_show h
  exact ⟨a, b, c, Nat.le_refl _⟩
theorem shB_tup {ds : List D} {dp w n : Nat} (h : ∀ d ∈ ds, shB d dp w) (hl : ds.length ≤ n) : shB (.tuple ds) (dp + 1) (n * (w + 1)) := by
  obtain ⟨a, b, c⟩ := all_show (n := w) fun d hd => ⟨(h d hd).1, (h d hd).2.1, (h d hd).2.2.1⟩
  have e := depth_all (n := dp) fun d hd => (h d hd).2.2.2
  refine ⟨by unfold PyData.showable; exact a, by unfold PyData.leavesShort; exact b, ?_, ?_⟩
  · unfold PyData.weight; exact Nat.le_trans c (Nat.mul_le_mul_right _ hl)
  · unfold PyData.depth; omega
theorem shB_lst {ds : List D} {dp w n : Nat} (h : ∀ d ∈ ds, shB d dp w) (hl : ds.length ≤ n) : shB (.list ds) (dp + 1) (n * (w + 1)) := by
  obtain ⟨a, b, c⟩ := all_show (n := w) fun d hd => ⟨(h d hd).1, (h d hd).2.1, (h d hd).2.2.1⟩
  have e := depth_all (n := dp) fun d hd => (h d hd).2.2.2
  refine ⟨by unfold PyData.showable; exact a, by unfold PyData.leavesShort; exact b, ?_, ?_⟩
  · unfold PyData.weight; exact Nat.le_trans c (Nat.mul_le_mul_right _ hl)
  · unfold PyData.depth; omega
theorem rep_of {d : D} {dp w : Nat} (h : shB d dp w) (h2 : dp ≤ 20) (h3 : w ≤ 200000) : reprD d = some (.str d.shown) := rep_ok h.1 (Nat.le_trans h.2.2.2 h2) h.2.1 (Nat.le_trans h.2.2.1 h3)
theorem bi_repr {S : Sl} {v : SV} {d : D} {x : Str} (h1 : cont S v = some d) (h2 : reprD d = some (.str x)) : biV S "repr" [v] = some (.dat (.str x)) := by
  show (cont S v).bind (fun y => biRepr [y]) = _
  rw [h1]
  show (reprD d).map SV.dat = _
  rw [h2]; rfl
theorem bi_sum {S : Sl} {v : SV} (ns : List Int) (h1 : cont S v = some (.list (iD ns))) : biV S "sum" [v] = some (.dat (.int ns.sum)) := by
  show (cont S v).bind (fun y => biSum [y]) = _
  rw [h1]
  show (intsOf (iD ns)).map _ = _
  have e : iD ns = ns.map fun i => .int (id i) := rfl
  rw [e, ints_map id ns, List.map_id]; rfl
theorem sum_b {B : Nat} : ∀ {ns : List Int}, (∀ n ∈ ns, n.natAbs ≤ B) → ns.sum.natAbs ≤ ns.length * B
  | [], _ => by simp
  | a :: r, h => by
    have i := sum_b (ns := r) fun n hn => h n (List.mem_cons_of_mem _ hn)
    have a1 := h a (List.mem_cons_self ..)
    rw [List.sum_cons, List.length_cons, Nat.succ_mul]
    have := Int.natAbs_add_le a r.sum
    omega
theorem noOwn_hide : ∀ S : Sl, noOwn (hide S) = true
  | [] => rfl
  | v :: r => by
    have i := noOwn_hide r
    unfold hide at i ⊢
    rw [List.map_cons]
    cases v with
    | none => exact i
    | some v => cases v <;> exact i
theorem c_exc0 {F : Fn} {vs as : List SV} {S : Sl} {c : Str} {fs : Fs} (hi : F.io = none) (h1 : hand S none 0 vs = some as) (h2 : F.run as = .exc c fs) (h3 : bors vs = []) : callF F vs S = .exc c fs S := by
  unfold callF; rw [hi, h1]; dsimp only; rw [h2]; dsimp only; rw [h3]
  split <;> rfl
theorem c_ok0 {F : Fn} {vs as : List SV} {S : Sl} {res : SV} {xs : List D} (hi : F.io = none) (h1 : hand S none 0 vs = some as) (h2 : F.run as = .ok res xs) (h3 : bors vs = []) : callF F vs S = .ok res S := by
  unfold callF; rw [hi, h1]; dsimp only; rw [h2]; dsimp only; rw [h3]
  split <;> rfl
theorem ne_self {S : Sl} {d : D} (h : flatD d = true) : cmpV S .NotEq (.dat d) (.dat d) = some false := by
  have e : cmpV S .NotEq (.dat d) (.dat d) = cmpD .NotEq d d := by unfold cmpV; cases d <;> rfl
  rw [e]
  show (if flatD d && flatD d then some (!PyData.eqv d d) else none) = _
  unfold flatD at h
  have h1 : d.plain = true := (Bool.and_eq_true_iff.mp h).1
  have h2 : flatD d = true := h
  rw [h2, if_pos (by decide), SeqAt.eqv_refl_plain _ h1]; rfl
end Z
namespace Z
open PySem
theorem w_Set2 {S S1 S2 : Sl} {a : Sl → O (List SV)} {vs : List SV} {v w : SV} {i j : Nat} {φ : Fl → Prop} (h1 : a S = .ok vs S1) (h2 : stowAll vs S1 = .ok [v, w] S2) (h : φ (.nx (put (put S2 i v) j w))) : Wp (zSet2 i j a S) φ := by
  unfold Wp zSet2
  rw [h1]
  show φ ((stowAll vs S1).st _)
  rw [h2]; exact h
theorem w_Tup {S S1 S2 S3 : Sl} {f : Sl → O SV} {tg : Tg} {v : SV} {d : D} {φ : Fl → Prop} (h1 : f S = .ok v S1) (h2 : settle S1 v = .ok d S2) (h3 : tg.set d S2 = some S3) (h : φ (.nx S3)) : Wp (zTup tg f S) φ := by
  unfold Wp zTup
  rw [h1]
  show φ ((settle S1 v).st _)
  rw [h2]
  show φ (match tg.set d S2 with | some S3 => .nx S3 | none => .bad)
  rw [h3]; exact h
theorem w_Set3 {S S1 S2 : Sl} {a : Sl → O (List SV)} {vs : List SV} {v w u : SV} {i j l : Nat} {φ : Fl → Prop} (h1 : a S = .ok vs S1) (h2 : stowAll vs S1 = .ok [v, w, u] S2) (h : φ (.nx (put (put (put S2 i v) j w) l u))) : Wp (zSet3 i j l a S) φ := by
  unfold Wp zSet3
  rw [h1]
  show φ ((stowAll vs S1).st _)
  rw [h2]; exact h
theorem w_Aug {S S1 : Sl} {f : Sl → O SV} {op : Operator} {i : Nat} {a b k : Int} {φ : Fl → Prop} (h0 : S[i]? = some (some (.dat (.int a)))) (h1 : f S = .ok (.dat (.int b)) S1) (ho : augOk op = true) (hk : augI op a b = some k) (h : φ (.nx (put S1 i (.dat (.int k))))) : Wp (augN i op f S) φ := by
  unfold Wp augN
  rw [if_pos ho, h0]
  show φ ((f S).st _)
  rw [h1]
  show φ (match augI op a b with | some k => .nx (put S1 i (.dat (.int k))) | none => .bad)
  rw [hk]; exact h
end Z

/-! Wheels and gears: teeth, turns, sums over stretches of ticks. -/
namespace Z
open PySem
/-- a wheel -/
abbrev tD (g : List Int) : D := .tuple (iD g)
def mD (gs : List (List Int)) : D := .tuple (gs.map tD)
def VW (g : List Int) : Prop := 1 ≤ g.length ∧ g.length ≤ 24 ∧ ∀ x ∈ g, x.natAbs ≤ 10 ^ 30
def VG (gs : List (List Int)) : Prop := 1 ≤ gs.length ∧ gs.length ≤ 6 ∧ ∀ g ∈ gs, VW g
/-- the tooth at a tick -/
def tooth (g : List Int) (w : Int) : Int := g.getD (w.fmod g.length).toNat 0
theorem tooth_ix {g : List Int} {w : Int} (h : 1 ≤ g.length) : ixD (tD g) (.int (w.fmod ((iD g).length : Nat))) = some (.int (tooth g w)) ∧ tooth g w ∈ g := by
  have r := fmod_r (i := w) (j := g.length) (by omega)
  have hb : (w.fmod g.length).toNat < g.length := by omega
  have e : tooth g w = g[(w.fmod g.length).toNat] := by unfold tooth; rw [List.getD_eq_getElem?_getD, List.getElem?_eq_getElem hb]; rfl
  refine ⟨?_, by rw [e]; exact List.getElem_mem hb⟩
  rw [iD_len]
  show atI (iD g) _ = _
  unfold atI ixN
  rw [if_pos r.1, if_pos (by rw [iD_len]; exact r.2)]
  show (iD g)[_]? = _
  rw [iD_at, List.getElem?_eq_getElem hb, e]; rfl
def sumG (gs : List (List Int)) (w : Int) : Int := (gs.map fun g => tooth g w).sum
theorem lc_mapD {α : Type} {turn : D → Sl → O (Option D)} {S : Sl} {q : α → D} {f : α → D} : ∀ {ws : List α} {acc : List D}, (∀ w ∈ ws, turn (q w) S = .ok (some (f w)) S) → acc.length + ws.length ≤ 1000 → lcL turn (ws.map q) acc S = .ok (acc ++ ws.map f) S
  | [], acc, _, _ => by rw [List.map_nil, List.map_nil, List.append_nil]; rfl
  | a :: r, acc, h, l => by
    rw [List.length_cons] at l
    rw [List.map_cons, List.map_cons]
    unfold lcL
    rw [h a (List.mem_cons_self ..)]
    dsimp only
    have sl : acc.length < sizeLine := by unfold sizeLine; omega
    rw [if_pos sl, lc_mapD (fun w hw => h w (List.mem_cons_of_mem _ hw)) (by rw [List.length_append, List.length_singleton]; omega), List.append_assoc]; rfl
theorem tooth_at {g : List Int} {w : Int} (h : 1 ≤ g.length) : ∃ hb : (w % (g.length : Int)).toNat < g.length, tooth g w = g[(w % (g.length : Int)).toNat] := by
  have r1 := Int.emod_nonneg w (show (g.length : Int) ≠ 0 by omega)
  have r2 := Int.emod_lt_of_pos w (show (0 : Int) < g.length by omega)
  have hb : (w % (g.length : Int)).toNat < g.length := by omega
  refine ⟨hb, ?_⟩
  unfold tooth
  rw [Int.fmod_eq_emod_of_nonneg _ (by omega), List.getD_eq_getElem?_getD, List.getElem?_eq_getElem hb]; rfl
/-- a wheel turned -/
def rot (g : List Int) (w : Int) : List Int := (List.range g.length).map fun (k : Nat) => tooth g ((k : Int) + w)
theorem rot_len (g : List Int) (w : Int) : (rot g w).length = g.length := by unfold rot; rw [List.length_map, List.length_range]
theorem rot_at {g : List Int} {w : Int} {i : Nat} (h : i < (rot g w).length) : (rot g w)[i] = tooth g ((i : Int) + w) := by
  have z := List.getElem_map (fun (k : Nat) => tooth g ((k : Int) + w)) (l := List.range g.length) (i := i) (h := h)
  rw [List.getElem_range] at z
  exact z
theorem tooth_mod {g : List Int} (x y : Int) : tooth g (x % (g.length : Int) + y) = tooth g (x + y) := by
  unfold tooth
  rw [Int.fmod_eq_emod_of_nonneg _ (by omega), Int.fmod_eq_emod_of_nonneg _ (by omega), Int.emod_add_emod]
theorem tooth_rot {g : List Int} (h : 1 ≤ g.length) (w x : Int) : tooth (rot g w) x = tooth g (x + w) := by
  obtain ⟨hb, e⟩ := tooth_at (g := rot g w) (w := x) (by rw [rot_len]; exact h)
  rw [e]
  have r1 := Int.emod_nonneg x (show (g.length : Int) ≠ 0 by omega)
  rw [rot_at]
  simp only [rot_len]
  rw [Int.toNat_of_nonneg r1, tooth_mod]
theorem rot_rot {g : List Int} (h : 1 ≤ g.length) (w x : Int) : rot (rot g w) x = rot g (w + x) := by
  show (List.range (rot g w).length).map (fun (k : Nat) => tooth (rot g w) ((k : Int) + x)) = (List.range g.length).map fun (k : Nat) => tooth g ((k : Int) + (w + x))
  rw [rot_len]
  refine List.map_congr_left fun k _ => ?_
  rw [tooth_rot h, show (k : Int) + x + w = (k : Int) + (w + x) by omega]
theorem rot_0 {g : List Int} (h : 1 ≤ g.length) : rot g 0 = g := by
  refine List.ext_getElem (rot_len g 0) fun i h1 h2 => ?_
  rw [rot_at]
  obtain ⟨hb, e⟩ := tooth_at (g := g) (w := (i : Int) + 0) h
  rw [e]
  have z : ((i : Int) + 0) % (g.length : Int) = i := by rw [Int.add_zero]; exact Int.emod_eq_of_lt (by omega) (by omega)
  simp only [z, Int.toNat_natCast]
theorem rot_cut {g : List Int} (h : 1 ≤ g.length) (w : Int) : g.drop (w % (g.length : Int)).toNat ++ g.take (w % (g.length : Int)).toNat = rot g w := by
  have r1 := Int.emod_nonneg w (show (g.length : Int) ≠ 0 by omega)
  have r2 := Int.emod_lt_of_pos w (show (0 : Int) < g.length by omega)
  refine List.ext_getElem (by rw [rot_len, List.length_append, List.length_drop, List.length_take]; omega) fun i h1 h2 => ?_
  rw [rot_len] at h2
  rw [rot_at, List.getElem_append]
  obtain ⟨hb, e⟩ := tooth_at (g := g) (w := (i : Int) + w) h
  rw [e]
  have em : ((i : Int) + w) % (g.length : Int) = ((i : Int) + w % (g.length : Int)) % (g.length : Int) := (Int.add_emod_emod _ _ _).symm
  split
  · rename_i hi
    rw [List.length_drop] at hi
    rw [List.getElem_drop]
    have z : ((i : Int) + w) % (g.length : Int) = (i : Int) + w % (g.length : Int) := by rw [em]; exact Int.emod_eq_of_lt (by omega) (by omega)
    congr 1
    rw [z]; omega
  · rename_i hi
    rw [List.length_drop] at hi
    rw [List.getElem_take]
    have z : ((i : Int) + w) % (g.length : Int) = (i : Int) + w % (g.length : Int) - g.length := by
      rw [em, ← Int.emod_eq_of_lt (a := (i : Int) + w % (g.length : Int) - g.length) (b := g.length) (by omega) (by omega)]
      rw [Int.sub_emod_right]
    congr 1
    rw [z, List.length_drop]; omega
theorem VW_rot {g : List Int} (v : VW g) (w : Int) : VW (rot g w) := by
  refine ⟨by rw [rot_len]; exact v.1, by rw [rot_len]; exact v.2.1, fun x hx => ?_⟩
  obtain ⟨k, _, rfl⟩ := List.mem_map.mp hx
  exact v.2.2 _ (tooth_ix v.1).2
def rotG (gs : List (List Int)) (w : Int) : List (List Int) := gs.map fun g => rot g w
theorem VG_rot {gs : List (List Int)} (v : VG gs) (w : Int) : VG (rotG gs w) := by
  unfold rotG
  refine ⟨by rw [List.length_map]; exact v.1, by rw [List.length_map]; exact v.2.1, fun x hx => ?_⟩
  obtain ⟨g, hg, rfl⟩ := List.mem_map.mp hx
  exact VW_rot (v.2.2 g hg) w
theorem rotG_rotG {gs : List (List Int)} (v : VG gs) (w x : Int) : rotG (rotG gs w) x = rotG gs (w + x) := by
  unfold rotG
  rw [List.map_map]
  exact List.map_congr_left fun g hg => rot_rot (v.2.2 g hg).1 w x
theorem rotG_0 {gs : List (List Int)} (v : VG gs) : rotG gs 0 = gs := by
  unfold rotG
  refine (List.map_congr_left fun g hg => rot_0 (v.2.2 g hg).1).trans (List.map_id _)
theorem sum_rot {gs : List (List Int)} (v : VG gs) (w x : Int) : sumG (rotG gs w) x = sumG gs (x + w) := by
  unfold sumG rotG
  rw [List.map_map]
  congr 1
  exact List.map_congr_left fun g hg => tooth_rot (v.2.2 g hg).1 w x
theorem cut_l {xs : List Int} {s : Int} (h : 0 ≤ s) (h2 : s < xs.length) : cut (iD xs) none (some s) = iD (xs.take s.toNat) := by
  have e : sIx (iD xs).length (iD xs).length (some s) = s.toNat := by
    show (if s < 0 then (s + ((iD xs).length : Nat)).toNat else min s.toNat (iD xs).length) = s.toNat
    rw [if_neg (by omega), iD_len]; omega
  unfold cut
  rw [e]
  show ((iD xs).drop 0).take (s.toNat - 0) = _
  rw [List.drop_zero]; unfold iD; rw [List.map_take]; rfl
theorem cut_r {xs : List Int} {s : Int} (h : 0 ≤ s) (h2 : s < xs.length) : cut (iD xs) (some s) none = iD (xs.drop s.toNat) := by
  have e : sIx (iD xs).length 0 (some s) = s.toNat := by
    show (if s < 0 then (s + ((iD xs).length : Nat)).toNat else min s.toNat (iD xs).length) = s.toNat
    rw [if_neg (by omega), iD_len]; omega
  unfold cut
  rw [e]
  show ((iD xs).drop s.toNat).take ((iD xs).length - s.toNat) = _
  rw [List.take_of_length_le (by rw [List.length_drop]; omega)]
  unfold iD; rw [List.map_drop]
theorem shB_wheel {g : List Int} (vg : VW g) : shB (tD g) 1 (24 * 201) := by
  refine shB_tup (n := 24) (w := 200) (dp := 0) (fun d hd => ?_) (by rw [iD_len]; exact vg.2.1)
  obtain ⟨x, hx, rfl⟩ := List.mem_map.mp hd
  have := vg.2.2 x hx
  exact shB_int (by unfold shortI; exact Nat.lt_of_le_of_lt this (by decide))
theorem shB_gear {gs : List (List Int)} (v : VG gs) : shB (mD gs) 2 (6 * (24 * 201 + 1)) := by
  refine shB_tup (n := 6) (w := 24 * 201) (dp := 1) (fun d hd => ?_) (by rw [List.length_map]; exact v.2.1)
  obtain ⟨g, hg, rfl⟩ := List.mem_map.mp hd
  exact shB_wheel (v.2.2 g hg)
theorem gear_rep {gs : List (List Int)} (v : VG gs) : reprD (mD gs) = some (.str (mD gs).shown) := rep_of (shB_gear v) (by decide) (by decide)
theorem two_rep {d : D} {dp w : Nat} (h : shB d dp w) (h2 : dp ≤ 19) (h3 : w ≤ 90000) : reprD (.list [d, d]) = some (.str (PyData.shown (.list [d, d]))) :=
  rep_of (shB_lst (n := 2) (w := w) (dp := dp) (fun e he => by
    simp only [List.mem_cons, List.not_mem_nil, or_false, or_self] at he
    rw [he]; exact h) (by simp)) (by omega) (by omega)
theorem flat_ints : ∀ g : List Int, PyData.plainAll (iD g) = true
  | [] => rfl
  | a :: r => by show (PyData.plain (.int a) && PyData.plainAll (iD r)) = true; rw [flat_ints r]; rfl
theorem flat_gear {gs : List (List Int)} (v : VG gs) : flatD (mD gs) = true := by
  have p : ∀ hs : List (List Int), PyData.plainAll (hs.map tD) = true := fun hs => by
    induction hs with
    | nil => rfl
    | cons a r ih => show (PyData.plainAll (iD a) && PyData.plainAll (r.map tD)) = true; rw [flat_ints, ih]; rfl
  unfold flatD
  rw [decide_eq_true (Nat.le_trans (shB_gear v).2.2.2 (by decide)), Bool.and_true]
  exact p gs
/-- the sum of n teeth from a tick on -/
def T (g : List Int) (a : Int) : Nat → Int
  | 0 => 0
  | n + 1 => T g a n + tooth g (a + n)
theorem T_add (g : List Int) (a : Int) (n : Nat) : ∀ m : Nat, T g a (n + m) = T g a n + T g (a + n) m
  | 0 => by show T g a n = T g a n + 0; omega
  | m + 1 => by
    show T g a (n + m) + tooth g (a + ((n + m : Nat) : Int)) = T g a n + (T g (a + n) m + tooth g (a + n + m))
    rw [T_add g a n m, show a + ((n + m : Nat) : Int) = a + n + m by omega]; omega
theorem T_list (g : List Int) (a : Int) : ∀ n : Nat, ((List.range n).map fun (k : Nat) => tooth g ((k : Int) + a)).sum = T g a n
  | 0 => rfl
  | n + 1 => by
    rw [List.range_succ, List.map_append, List.sum_append, T_list g a n]
    show T g a n + (tooth g ((n : Int) + a) + 0) = T g a n + tooth g (a + n)
    rw [show (n : Int) + a = a + n by omega]; omega
theorem T_len {g : List Int} (h : 1 ≤ g.length) (a : Int) : T g a g.length = g.sum := by
  rw [← T_list]
  show (rot g a).sum = g.sum
  rw [← rot_cut h a, List.sum_append]
  have z : (g.take (a % (g.length : Int)).toNat).sum + (g.drop (a % (g.length : Int)).toNat).sum = g.sum := by rw [← List.sum_append, List.take_append_drop]
  omega
theorem T_mul {g : List Int} (h : 1 ≤ g.length) : ∀ (q : Nat) (a : Int), T g a (q * g.length) = q * g.sum
  | 0, a => by rw [Nat.zero_mul]; show (0 : Int) = ((0 : Nat) : Int) * g.sum; simp
  | q + 1, a => by
    rw [Nat.succ_mul, T_add, T_mul h q a, T_len h]
    rw [show ((q + 1 : Nat) : Int) = (q : Int) + 1 by omega, Int.add_mul, Int.one_mul]
/-- whole periods and the rest -/
theorem T_split {g : List Int} (h : 1 ≤ g.length) (a : Int) (n : Nat) : T g a n = (n / g.length : Nat) * g.sum + T g a (n % g.length) := by
  have e : n = n % g.length + n / g.length * g.length := by rw [Nat.mul_comm]; exact (Nat.mod_add_div n g.length).symm
  have z := T_add g a (n % g.length) (n / g.length * g.length)
  rw [← e, T_mul h] at z
  omega
def TM (gs : List (List Int)) (a : Int) (n : Nat) : Int := (gs.map fun g => T g a n).sum
theorem sum_add {α : Type} (f g : α → Int) : ∀ l : List α, (l.map fun x => f x + g x).sum = (l.map f).sum + (l.map g).sum
  | [] => rfl
  | a :: r => by
    rw [List.map_cons, List.map_cons, List.map_cons, List.sum_cons, List.sum_cons, List.sum_cons, sum_add f g r]; omega
theorem TM_add (gs : List (List Int)) (a : Int) (n m : Nat) : TM gs a (n + m) = TM gs a n + TM gs (a + n) m := by
  unfold TM
  rw [← sum_add]
  congr 1
  exact List.map_congr_left fun g _ => T_add g a n m
theorem TM_sum (gs : List (List Int)) (a : Int) : ∀ n : Nat, ((List.range n).map fun (k : Nat) => sumG gs (a + k)).sum = TM gs a n
  | 0 => by
    show (0 : Int) = (gs.map fun g => (0 : Int)).sum
    induction gs with
    | nil => rfl
    | cons g r ih => rw [List.map_cons, List.sum_cons, ← ih]; rfl
  | n + 1 => by
    rw [List.range_succ, List.map_append, List.sum_append, TM_sum gs a n]
    have z : TM gs a (n + 1) = TM gs a n + sumG gs (a + n) := by
      unfold TM sumG
      rw [← sum_add]; rfl
    rw [z]
    show TM gs a n + (sumG gs (a + n) + 0) = _
    omega
theorem T_b {g : List Int} {B : Nat} (h1 : 1 ≤ g.length) (hb : ∀ x ∈ g, x.natAbs ≤ B) (a : Int) : ∀ n : Nat, (T g a n).natAbs ≤ n * B
  | 0 => Nat.zero_le _
  | n + 1 => by
    have i := T_b h1 hb a n
    have t := hb _ (tooth_ix (w := a + n) h1).2
    have z := Int.natAbs_add_le (T g a n) (tooth g (a + n))
    rw [Nat.succ_mul]
    exact Nat.le_trans z (Nat.add_le_add i t)
end Z

/-! More rules to compute with; a stepper. -/
namespace Z
open PySem
section
variable {S S1 S2 S3 : Sl} {f g : Sl → O SV} {t u : Sl → O Bool} {a r : Sl → O (List SV)} {x y v w : SV} {d e k : D} {vs ws : List SV} {b : Bool} {i j : Nat} {p q : Sl → Fl} {φ : Fl → Prop}
theorem r_CallS {F : Fn} {kk : Nat} {src : List Src} {ks : List SV} {ds : List D} {o : O SV} (h1 : a S = .ok vs S1) (h2 : r S1 = .ok ks S2) (hk : (decide (kk ≤ vs.length) && (vs.take kk).all nOwn && ks.all nOwn) = true) (h3 : settleAll (vs.drop kk) S2 = .ok ds S3) (h4 : ds.length ≤ sizeLine)
    (h5 : pick src (vs.take kk) (ks ++ [.dat (.tuple ds)]) = some ws) (h6 : callF F ws S3 = o) : xCallS F kk src a r S = o := by
  unfold xCallS
  rw [h1]
  show (r S1).bind _ = _
  rw [h2]
  show callS F kk src vs ks S2 = _
  unfold callS
  rw [if_pos hk, h3]
  show (if ds.length ≤ sizeLine then _ else _) = _
  rw [if_pos h4, h5]; exact h6
theorem a_S {ds : List D} {xs : List SV} (h1 : f S = .ok x S1) (h2 : (cont S1 x).bind itemsOf = some ds) (h3 : a S1 = .ok xs S2) : aS f a S = .ok (ds.map SV.dat ++ xs) S2 := by
  unfold aS
  rw [h1]
  show stA x S1 (a S1) = _
  unfold stA
  rw [h2, h3]; rfl
theorem w_IfT (h1 : t S = .ok b S1) (hb : b = true) (h2 : Wp (p S1) φ) : Wp (zIf t p q S) φ := by subst hb; refine wp_i ?_; rw [z_IfT h1 rfl]; exact wp_e h2
theorem w_IfF (h1 : t S = .ok b S1) (hb : b = false) (h2 : Wp (q S1) φ) : Wp (zIf t p q S) φ := by subst hb; refine wp_i ?_; rw [z_IfF h1 rfl]; exact wp_e h2
theorem q_Not2 {c : Bool} (h1 : t S = .ok b S1) (h2 : (!b) = c) : qNot t S = .ok c S1 := by subst h2; exact q_Not h1
theorem w_Sub {xs : List D} {n : Int} {l : Nat} (h1 : f S = .ok x S1) (h2 : settle S1 x = .ok d S2) (h0 : S2[j]? = some (some (.own xs))) (h3 : g S2 = .ok y S3) (h4 : cont S3 y = some (.int n)) (h5 : S3[j]? = some (some (.own xs))) (h6 : ixN xs.length n = some l) (h : φ (.nx (put S3 j (.own (xs.set l d))))) : Wp (zSub j g f S) φ := by
  unfold Wp; rw [z_Sub h1 h2 h0 h3 h4 h5 h6]; exact h
theorem w_AugS {xs ys : List D} {op : Operator} {n a b k : Int} {l : Nat} (ho : augOkS op = true) (h0 : S[j]? = some (some (.own xs))) (h1 : f S = .ok v S1) (h2 : cont S1 v = some (.int n)) (h3 : S1[j]? = some (some (.own xs))) (h4 : atI xs n = some (.int a)) (h5 : g S1 = .ok (.dat (.int b)) S2) (h6 : S2[j]? = some (some (.own ys))) (h7 : augI op a b = some k) (h8 : ixN ys.length n = some l)
    (h : φ (.nx (put S2 j (.own (ys.set l (.int k)))))) : Wp (subA j op f g S) φ := by
  unfold Wp subA
  rw [if_pos ho, h0]
  show φ ((f S).st _)
  rw [h1]
  show φ (match cont S1 v, S1[j]? with | some (.int k), some (some (.own xs)) => _ | _, _ => _)
  rw [h2, h3]
  show φ (match atI xs n with | some (.int a) => _ | _ => _)
  rw [h4]
  show φ ((g S1).st _)
  rw [h5]
  show φ (match (SV.dat (.int b)), S2[j]? with | .dat (.int b), some (some (.own ys)) => _ | _, _ => _)
  rw [h6]
  show φ (match augI op a b, ixN ys.length n with | some r, some l => _ | _, _ => _)
  rw [h7, h8]; exact h
theorem w_Raise {c : Str} {xc : XC} {z : Str × Fs} (h1 : a S = .ok vs S1) (h2 : mkX c xc vs S1 = .ok z S2) (h : φ (.exc z.1 z.2 S2)) : Wp (zRaise c xc a S) φ := by unfold Wp; rw [z_Raise h1 h2]; exact h
theorem w_RetN {io : Option Nat} (h2 : retV io S (.dat .none) = .ok y S2) (h : φ (.ret y S2)) : Wp (zRetN io S) φ := by
  unfold Wp zRetN; rw [h2]; exact h
theorem w_ExX {c : Str} {fs : Fs} (h1 : f S = .exc c fs S1) (h : φ (.exc c fs S1)) : Wp (zEx f S) φ := by unfold Wp; rw [z_ExX h1]; exact h
theorem w_Pass (h : φ (.nx S)) : Wp (zPass S) φ := wp_i h
theorem w_Brk (h : φ (.bk S)) : Wp (zBrk S) φ := wp_i h
theorem w_Cnt (h : φ (.ct S)) : Wp (zCnt S) φ := wp_i h
theorem w_CR (h : Wp (p S) fun o => φ (o.bind q)) : Wp (zC p q S) φ := wp_i (wp_e (φ := fun o => φ (o.bind q)) h)
theorem w_ret (h : φ (.ret x S)) : Wp ((Fl.ret x S).bind q) φ := wp_i h
theorem w_exc {c : Str} {fs : Fs} (h : φ (.exc c fs S)) : Wp ((Fl.exc c fs S).bind q) φ := wp_i h
theorem le_line {n : Nat} (h : n ≤ 1000) : n ≤ sizeLine := Nat.le_trans h (by unfold sizeLine; omega)
/-- a while loop by an invariant and a measure -/
theorem w_wh {P : Sl → Prop} {m : Sl → Nat} (t : Sl → O Bool) (bd : Sl → Fl) {n : Nat} (h0 : P S) (hm : m S < n) (ht : ∀ S, P S → ∃ b, t S = .ok b S ∧ (b = false → φ (.nx S)) ∧ (b = true → Wp (bd S) fun o => (∃ S', (o = .nx S' ∨ o = .ct S') ∧ P S' ∧ m S' < m S) ∨ ((∀ S', o ≠ .nx S' ∧ o ≠ .ct S' ∧ o ≠ .bk S') ∧ φ o))) : Wp (whL t bd n S) φ := by
  induction n generalizing S with
  | zero => omega
  | succ n ih =>
    obtain ⟨b, e, h1, h2⟩ := ht S h0
    refine wp_i ?_
    unfold whL
    rw [e]
    cases b with
    | false => exact h1 rfl
    | true =>
      have z := wp_e (h2 rfl)
      show φ (match bd S with | .nx S2 => whL t bd n S2 | .ct S2 => whL t bd n S2 | .bk S2 => .nx S2 | x => x)
      rcases z with ⟨S', e' | e', p1, p2⟩ | ⟨nn, z⟩
      · rw [e']; exact wp_e (ih p1 (by omega))
      · rw [e']; exact wp_e (ih p1 (by omega))
      · cases e' : bd S with
        | nx S' => exact absurd e' (nn S').1
        | ct S' => exact absurd e' (nn S').2.1
        | bk S' => exact absurd e' (nn S').2.2
        | ret r S' => rw [e'] at z; exact z
        | exc c fs S' => rw [e'] at z; exact z
        | bad => rw [e'] at z; exact z
theorem w_While {bd : Sl → Fl} (h : Wp (whL t bd 1000000000 S) φ) : Wp (zWh t bd S) φ := wp_i (wp_e h)
end
end Z
namespace Z
open PySem
theorem divOk_p {j : Int} (h : 0 < j) (h2 : j < 1073741824) : divOk j = true := by
  unfold divOk; rw [decide_eq_true (by omega : j ≠ 0), decide_eq_true (by omega : j.natAbs < 1073741824)]; rfl
end Z
namespace Z
open PySem
def isI : D → Bool
  | .int _ => true
  | _ => false
theorem gcd_step (a b : Int) : Int.gcd b (a.fmod b) = Int.gcd a b := by
  rw [Int.fmod_def, Int.mul_comm, Int.gcd_sub_mul_right_right, Int.gcd_comm]
theorem abs_gcd0 (a : Int) : (if a < 0 then -a else a) = ((Int.gcd a 0 : Nat) : Int) := by
  rw [Int.gcd_zero_right]; split <;> omega
theorem fmod_abs {a b : Int} (h : b ≠ 0) : (a.fmod b).natAbs < b.natAbs := by
  by_cases hb : 0 < b
  · have := fmod_r (i := a) hb; omega
  · have e := Int.neg_fmod_neg a b
    have := fmod_r (i := -a) (j := -b) (by omega); omega
theorem ne_int (a b : Int) : cmpD .NotEq (.int a) (.int b) = some (decide (a ≠ b)) := by
  show (if flatD (.int a) && flatD (.int b) then some (!PyData.eqv (.int a) (.int b)) else none) = _
  have e : ∀ k : Int, flatD (.int k) = true := fun k => rfl
  rw [e, e, if_pos (by decide)]
  simp only [PyData.eqv]
  congr 1
  rw [decide_not]; rfl
theorem cn_int {S : Sl} (a b : Int) : cmpV S .NotEq (.dat (.int a)) (.dat (.int b)) = some (decide (a ≠ b)) := ne_int a b
theorem foldl_snoc {α β : Type} (f : β → α → β) (b : β) (l : List α) (a : α) : (l ++ [a]).foldl f b = f (l.foldl f b) a := by rw [List.foldl_append]; rfl
def gcdL (ns : List Int) : Int := ns.foldl (fun f n => ((Int.gcd f n : Nat) : Int)) 0
/-- a loop over a list of numbers: p, what lies behind -/
theorem w_ints {S : Sl} {body : D → Sl → Fl} {φ : Fl → Prop} (ns : List Int) (P : List Int → List Int → Sl → Prop) (h0 : P [] ns S) (st : ∀ p n l S, ns = p ++ n :: l → P p (n :: l) S → Wp (body (.int n) S) fun o => (∃ S', (o = .nx S' ∨ o = .ct S') ∧ P (p ++ [n]) l S') ∨ ((∀ S', o ≠ .nx S' ∧ o ≠ .ct S' ∧ o ≠ .bk S') ∧ φ o)) (h : ∀ S', P ns [] S' → φ (.nx S')) : Wp (forL body (iD ns) S) φ := by
  refine w_inv (fun r S => ∃ p l : List Int, r = iD l ∧ ns = p ++ l ∧ P p l S) ⟨[], ns, rfl, rfl, h0⟩ ?_ ?_
  · rintro d r S ⟨p, l, hr, hp, hP⟩
    cases l with
    | nil => cases hr
    | cons n l =>
      cases hr
      have := st p n l S hp hP
      unfold Wp at this ⊢
      rcases this with ⟨S', e, q⟩ | z
      · exact .inl ⟨S', e, p ++ [n], l, rfl, by rw [hp]; simp, q⟩
      · exact .inr z
  · rintro S ⟨p, l, hr, hp, hP⟩
    cases l with
    | cons n l => cases hr
    | nil =>
      rw [List.append_nil] at hp
      subst hp
      exact h S hP
end Z
namespace Z
open PySem
section
variable {S S1 S2 S3 : Sl} {f g : Sl → O SV} {x y : SV} {d : D} {b1 b2 : Bool}
theorem r_AndB (h1 : f S = .ok (.dat (.bool b1)) S) (h2 : g S = .ok (.dat (.bool b2)) S) : xAnd f g S = .ok (.dat (.bool (b1 && b2))) S := by
  cases b1 with
  | true => exact r_AndT h1 rfl rfl h2
  | false => exact r_AndF h1 rfl rfl
theorem r_OrB (h1 : f S = .ok (.dat (.bool b1)) S) (h2 : g S = .ok (.dat (.bool b2)) S) : xOr f g S = .ok (.dat (.bool (b1 || b2))) S := by
  cases b1 with
  | true => exact r_OrT h1 rfl rfl
  | false => exact r_OrF h1 rfl rfl h2
end
/-- a number within bounds; none is no bound -/
def lowB : D → Int → Bool
  | .int a, i => decide (a ≤ i)
  | _, _ => true
def hiB : D → Int → Bool
  | .int a, i => decide (i ≤ a)
  | _, _ => true
def inB : D → D → D → Bool
  | .int i, l, m => lowB l i && hiB m i
  | _, _, _ => false
def BD (d : D) : Prop := d = .none ∨ ∃ i, d = .int i
theorem one_rep {d : D} {dp w : Nat} (h : shB d dp w) (h2 : dp ≤ 19) (h3 : w ≤ 90000) : reprD (.list [d]) = some (.str (PyData.shown (.list [d]))) :=
  rep_of (shB_lst (n := 1) (w := w) (dp := dp) (fun e he => by
    have : e = d := by simpa using he
    rw [this]; exact h) (by simp)) (by omega) (by omega)
theorem shB_none : shB .none 0 200 := ⟨rfl, rfl, by decide, by decide⟩
theorem shB_bool (b : Bool) : shB (.bool b) 0 200 := by cases b <;> exact ⟨rfl, rfl, by decide, by decide⟩
theorem take3 {α : Type} {s : List α} {P : α → Prop} (h : s ≠ []) (hp : ∀ a ∈ s, P a) : ∃ x y z, (s ++ s ++ s).take 3 = [x, y, z] ∧ P x ∧ P y ∧ P z ∧ s.head? = some x := by
  match s, h, hp with
  | [a], _, hp => exact ⟨a, a, a, rfl, hp a (by simp), hp a (by simp), hp a (by simp), rfl⟩
  | [a, b], _, hp => exact ⟨a, b, a, rfl, hp a (by simp), hp b (by simp), hp a (by simp), rfl⟩
  | a :: b :: c :: r, _, hp => exact ⟨a, b, c, rfl, hp a (by simp), hp b (by simp), hp c (by simp), rfl⟩
theorem rep_mem {α : Type} {s : List α} {a : α} : ∀ {n : Nat}, a ∈ (List.replicate n s).flatten → a ∈ s := by
  intro n h
  obtain ⟨l, hl, ha⟩ := List.mem_flatten.mp h
  rw [List.eq_of_mem_replicate hl] at ha; exact ha
theorem rep_len {α : Type} (s : List α) (n : Nat) : (List.replicate n s).flatten.length = n * s.length := by
  induction n with
  | zero => simp
  | succ n ih => rw [List.replicate_succ, List.flatten_cons, List.length_append, ih, Nat.succ_mul]; omega
theorem iD_rep (s : List Int) : ∀ n : Nat, (List.replicate n (iD s)).flatten = iD (List.replicate n s).flatten
  | 0 => rfl
  | n + 1 => by rw [List.replicate_succ, List.flatten_cons, iD_rep s n, iD_app, List.replicate_succ, List.flatten_cons]
theorem cut_to (xs : List Int) (k : Nat) (h : k ≤ xs.length) : cut (iD xs) none (some (k : Int)) = iD (xs.take k) := by
  have e : sIx (iD xs).length (iD xs).length (some (k : Int)) = k := by
    unfold sIx
    dsimp only
    rw [if_neg (by omega), iD_len]; omega
  unfold cut
  rw [e]
  show ((iD xs).drop 0).take (k - 0) = _
  rw [List.drop_zero, Nat.sub_zero]; unfold iD; rw [List.map_take]
theorem len5 {α : Type} {l : List α} (h : l.length = 5) : ∃ a b c d e, l = [a, b, c, d, e] := by
  match l, h with
  | [a, b, c, d, e], _ => exact ⟨a, b, c, d, e, rfl⟩
/-- [a, b, c, ..][i % n] -/
theorem ix_pick {xs : List D} {k : Int} {n : Int} (hn : n = (xs.length : Nat)) (h : 0 < xs.length) : ∃ d, d ∈ xs ∧ ixD (.list xs) (.int (k.fmod n)) = some d := by
  subst hn; exact ix_mod h
end Z
namespace Z
open PySem
section
variable {S S0 S1 S2 S3 : Sl} {f g : Sl → O SV} {x v y : SV} {d : D} {xs ys : List D} {i : Nat}
theorem r_LamXF {F : Fn} {is : List Nat} {k : Str} {fs : Fs} {r : SV} (h0 : frzAll S is = S0) (h1 : f (hide S0) = .exc k fs S1) (h2 : F.io = none) (h3 : F.run [.thk none k fs] = .ok r xs) : xLam F is f S = .ok r S0 := by
  simp only [xLam, h0, lmK, h1, callT, h2, h3]
theorem r_LamVF {F : Fn} {is : List Nat} {r : SV} (h0 : frzAll S is = S0) (h1 : f (hide S0) = .ok v S1) (h4 : settle S1 v = .ok d S2) (h5 : noOwn S1 = true) (h2 : F.io = none) (h3 : F.run [.thk (some d) "" []] = .ok r xs) : xLam F is f S = .ok r S0 := by
  simp only [xLam, h0, lmK, h1, h4, h5, if_true, callT, h2, h3]
end
theorem ix3 (a b c : D) (i : Int) (h0 : 0 ≤ i) (h1 : i < 3) : ixD (.list [a, b, c]) (.int i) = some (if i = 0 then a else if i = 1 then b else c) := by
  have : i = 0 ∨ i = 1 ∨ i = 2 := by omega
  rcases this with rfl | rfl | rfl <;> rfl
end Z
namespace Z
open PySem
section
variable {S S1 S2 : Sl} {t u : Sl → O Bool} {b b1 : Bool}
theorem q_OrFF (h1 : t S = .ok b1 S1) (hb : b1 = false) (h2 : u S1 = .ok b S2) : qOr t u S = .ok b S2 := by subst hb; exact q_OrF h1 h2
theorem q_OrTT {c : Bool} (h1 : t S = .ok b1 S1) (hb : b1 = true) (hc : true = c) : qOr t u S = .ok c S1 := by subst hb hc; exact q_OrT h1
theorem q_AndTT (h1 : t S = .ok b1 S1) (hb : b1 = true) (h2 : u S1 = .ok b S2) : qAnd t u S = .ok b S2 := by subst hb; exact q_AndT h1 h2
theorem q_AndFF {c : Bool} (h1 : t S = .ok b1 S1) (hb : b1 = false) (hc : false = c) : qAnd t u S = .ok c S1 := by subst hb hc; exact q_AndF h1
end
theorem gcdL1 (v : Int) : gcdL [v] = if v < 0 then -v else v := by
  show ((Int.gcd 0 v : Nat) : Int) = _
  rw [Int.gcd_zero_left]; split <;> omega
theorem gcdL2 (v w : Int) : gcdL [v, w] = gcdL [w, v] := by
  show ((Int.gcd ((Int.gcd 0 v : Nat) : Int) w : Nat) : Int) = ((Int.gcd ((Int.gcd 0 w : Nat) : Int) v : Nat) : Int)
  rw [Int.gcd_zero_left, Int.gcd_zero_left]
  have e : ∀ a b : Int, Int.gcd (a.natAbs : Int) b = Int.gcd a b := fun a b => by
    rcases Int.natAbs_eq a with h | h
    · rw [← h]
    · have h2 : ((a.natAbs : Nat) : Int) = -a := by omega
      rw [h2, Int.neg_gcd]
  rw [e, e, Int.gcd_comm]
end Z
namespace Z
open PySem
theorem ix_0 (a : D) (l : List D) : ixD (.list (a :: l)) (.int 0) = some a := by
  show atI (a :: l) 0 = some a
  unfold atI ixN
  rw [if_pos (by decide), if_pos (by rw [List.length_cons]; omega)]; rfl
end Z
namespace Z
open PySem
theorem w_Ci {S : Sl} {p q : Sl → Fl} {φ : Fl → Prop} (h : Wp (zC p q S) φ) : Wp (p S) fun o => Wp (o.bind q) φ := wp_i (wp_i (wp_e (o := zC p q S) h))
end Z
namespace Z
theorem wp_mono {o : Fl} {φ ψ : Fl → Prop} (h : Wp o φ) (i : ∀ o, φ o → ψ o) : Wp o ψ := wp_i (i _ (wp_e h))
end Z
namespace Z
open PySem
/-- a loop over a list by the index -/
theorem w_idx {S : Sl} {body : D → Sl → Fl} {φ : Fl → Prop} (ds : List D) (P : Nat → Sl → Prop) (h0 : P 0 S) (st : ∀ i d S, ds[i]? = some d → P i S → Wp (body d S) fun o => (∃ S', (o = .nx S' ∨ o = .ct S') ∧ P (i + 1) S') ∨ ((∀ S', o ≠ .nx S' ∧ o ≠ .ct S' ∧ o ≠ .bk S') ∧ φ o)) (h : ∀ S', P ds.length S' → φ (.nx S')) : Wp (forL body ds S) φ := by
  refine w_inv (fun r S => ∃ i, r = ds.drop i ∧ i ≤ ds.length ∧ P i S) ⟨0, rfl, Nat.zero_le _, h0⟩ ?_ ?_
  · rintro d r S ⟨i, hr, hi, hP⟩
    have hlt : i < ds.length := by
      rcases Nat.lt_or_ge i ds.length with h | h
      · exact h
      · rw [List.drop_eq_nil_of_le h] at hr; cases hr
    have e : ds.drop i = ds[i] :: ds.drop (i + 1) := List.drop_eq_getElem_cons hlt
    rw [e] at hr
    cases hr
    have := wp_e (st i ds[i] S (List.getElem?_eq_getElem hlt) hP)
    refine wp_i ?_
    rcases this with ⟨S', e, q⟩ | z
    · exact .inl ⟨S', e, i + 1, rfl, hlt, q⟩
    · exact .inr z
  · rintro S ⟨i, hr, hi, hP⟩
    have : i = ds.length := by
      have h2 := congrArg List.length hr
      rw [List.length_nil, List.length_drop] at h2; omega
    rw [this] at hP
    exact h S hP
theorem rng_at {n i : Nat} {d : D} (h : (rng 0 n)[i]? = some d) : i < n ∧ d = .int (i : Nat) := by
  unfold rng at h
  rw [List.getElem?_map] at h
  by_cases hi : i < n
  · rw [List.getElem?_range hi] at h
    cases h
    exact ⟨hi, by show PyData.int (0 + (i : Int)) = _; rw [Int.zero_add]⟩
  · rw [List.getElem?_eq_none (by rw [List.length_range]; omega)] at h; cases h
theorem rng_len (lo : Int) (n : Nat) : (rng lo n).length = n := by unfold rng; rw [List.length_map, List.length_range]
theorem enum_at {ds : List D} {i : Nat} {d : D} (h : (enumD ds)[i]? = some d) : ∃ e, ds[i]? = some e ∧ d = .tuple [.int (i : Nat), e] := enumD_get h
theorem enum_len (ds : List D) : (enumD ds).length = ds.length := by unfold enumD; rw [List.length_map, List.length_zipIdx]
theorem range_snoc {α : Type} (f : Nat → α) (n : Nat) : (List.range (n + 1)).map f = (List.range n).map f ++ [f n] := by rw [List.range_succ, List.map_append]; rfl
theorem mulOk_b {i j : Int} (h : i.natAbs < 2 ^ 400) (h2 : j.natAbs < 2 ^ 400) : mulOk i j = true := by
  have lg : ∀ k : Int, k.natAbs < 2 ^ 400 → k.natAbs.log2 < 400 := fun k hk => by
    by_cases z : k.natAbs = 0
    · rw [z]; decide
    · exact (Nat.log2_lt z).mpr hk
  have a := lg i h
  have b := lg j h2
  unfold mulOk
  rw [decide_eq_true (show i.natAbs.log2 + j.natAbs.log2 < 1000000 by omega), Bool.or_true]
theorem zip_iD {α : Type} (q : α → D) (fs : List Int) (ms : List α) : zipD (iD fs) (ms.map q) = (fs.zip ms).map fun p => .tuple [.int p.1, q p.2] := by
  unfold zipD iD
  rw [List.zip_map, List.map_map]; rfl
theorem i_Zip {S S1 S2 : Sl} {a : Sl → O (List SV)} {x y : SV} {d e : D} {xs ys : List D} (h1 : a S = .ok [x, y] S1) (h2 : settleAll [x, y] S1 = .ok [d, e] S2) (h3 : itemsOf d = some xs) (h4 : itemsOf e = some ys) : iZip a S = .ok (zipD xs ys) S2 := by
  unfold iZip
  rw [h1]
  show zip2 [x, y] S1 = _
  unfold zip2
  dsimp only
  rw [h2]
  show O.of ((itemsOf d).bind _) S2 = _
  rw [h3]
  show O.of ((itemsOf e).map _) S2 = _
  rw [h4]; rfl
end Z

/-! Statements that say the slots behind them; what is shown. -/
namespace Z
open PySem
section
variable {S S1 S2 S3 S4 : Sl} {f g : Sl → O SV} {a : Sl → O (List SV)} {vs : List SV} {x y v w u : SV} {d : D} {i j l : Nat} {φ : Fl → Prop}
theorem w_SetS (h1 : f S = .ok x S1) (h2 : stow S1 x = .ok y S2) (h3 : put S2 i y = S3) (h : φ (.nx S3)) : Wp (zSet i f S) φ := by subst h3; exact w_Set h1 h2 h
theorem w_Set2S (h1 : a S = .ok vs S1) (h2 : stowAll vs S1 = .ok [v, w] S2) (h3 : put (put S2 i v) j w = S3) (h : φ (.nx S3)) : Wp (zSet2 i j a S) φ := by subst h3; exact w_Set2 h1 h2 h
theorem w_Set3S (h1 : a S = .ok vs S1) (h2 : stowAll vs S1 = .ok [v, w, u] S2) (h3 : put (put (put S2 i v) j w) l u = S3) (h : φ (.nx S3)) : Wp (zSet3 i j l a S) φ := by subst h3; exact w_Set3 h1 h2 h
theorem w_ExS (h1 : f S = .ok x S1) (h3 : S1 = S3) (h : φ (.nx S3)) : Wp (zEx f S) φ := by subst h3; exact w_Ex h1 h
theorem w_AugS1 {op : Operator} {a b k : Int} (h0 : S[i]? = some (some (.dat (.int a)))) (h1 : f S = .ok (.dat (.int b)) S1) (ho : augOk op = true) (hk : augI op a b = some k) (h3 : put S1 i (.dat (.int k)) = S3) (h : φ (.nx S3)) : Wp (augN i op f S) φ := by subst h3; exact w_Aug h0 h1 ho hk h
theorem w_SubS {xs : List D} {n : Int} {l : Nat} (h1 : f S = .ok x S1) (h2 : settle S1 x = .ok d S2) (h0 : S2[j]? = some (some (.own xs))) (h3 : g S2 = .ok y S3) (h4 : cont S3 y = some (.int n)) (h5 : S3[j]? = some (some (.own xs))) (h6 : ixN xs.length n = some l) (h7 : put S3 j (.own (xs.set l d)) = S4) (h : φ (.nx S4)) : Wp (zSub j g f S) φ := by subst h7; exact w_Sub h1 h2 h0 h3 h4 h5 h6 h
end
/-- one turn of a comprehension -/
theorem lc_y {turn : D → Sl → O (Option D)} {d x : D} {r acc : List D} {S S1 : Sl} (h : turn d S = .ok (some x) S1) (hl : acc.length ≤ 1000) : lcL turn (d :: r) acc S = lcL turn r (acc ++ [x]) S1 := by
  rw [lcL, h]
  exact if_pos (by unfold sizeLine; omega)
theorem lc_n {turn : D → Sl → O (Option D)} {d : D} {r acc : List D} {S S1 : Sl} (h : turn d S = .ok none S1) : lcL turn (d :: r) acc S = lcL turn r acc S1 := by
  rw [lcL, h]
/-! what is shown -/
def shC (d : D) (dp w : Nat) : Prop := d.showable = true ∧ d.leavesShort 100 = true ∧ d.weight ≤ w ∧ d.depth ≤ dp
theorem shC_int {i : Int} (h : i.natAbs < 10 ^ 99) : shC (.int i) 0 400 := by
  have l : i.natAbs.log2 < 330 := by
    by_cases z : i.natAbs = 0
    · rw [z]; decide
    · refine (Nat.log2_lt z).mpr (Nat.lt_of_lt_of_le h (by decide +kernel))
  have t : (PyData.shown (.int i)).length ≤ 100 := by
    have e := int_text_length_le10 (k := 99) (by decide) h
    show (Str.ofString (toString i)).length ≤ 100
    rw [ofString_length]; omega
  refine ⟨?_, ?_, ?_, Nat.le_refl _⟩
  · unfold PyData.showable; exact decide_eq_true (by omega)
  · unfold PyData.leavesShort; exact decide_eq_true t
  · unfold PyData.weight; split <;> omega
theorem allC {ds : List D} {n : Nat} (h : ∀ d ∈ ds, d.showable = true ∧ d.leavesShort 100 = true ∧ d.weight ≤ n) : PyData.showableAll ds = true ∧ PyData.leavesShortAll 100 ds = true ∧ PyData.weightAll ds ≤ ds.length * (n + 1) := by
  induction ds with
  | nil => exact ⟨rfl, rfl, Nat.zero_le _⟩
  | cons a r ih =>
    obtain ⟨i1, i2, i3⟩ := ih fun d hd => h d (List.mem_cons_of_mem _ hd)
    obtain ⟨a1, a2, a3⟩ := h a (List.mem_cons_self ..)
    refine ⟨?_, ?_, ?_⟩
    · unfold PyData.showableAll; rw [a1, i1]; rfl
    · unfold PyData.leavesShortAll; rw [a2, i2]; rfl
    · unfold PyData.weightAll
      rw [List.length_cons, Nat.succ_mul]; omega
theorem shC_tup {ds : List D} {dp w n : Nat} (h : ∀ d ∈ ds, shC d dp w) (hl : ds.length ≤ n) : shC (.tuple ds) (dp + 1) (n * (w + 1)) := by
  obtain ⟨a, b, c⟩ := allC (n := w) fun d hd => ⟨(h d hd).1, (h d hd).2.1, (h d hd).2.2.1⟩
  have e := depth_all (n := dp) fun d hd => (h d hd).2.2.2
  refine ⟨by unfold PyData.showable; exact a, by unfold PyData.leavesShort; exact b, ?_, ?_⟩
  · unfold PyData.weight; exact Nat.le_trans c (Nat.mul_le_mul_right _ hl)
  · unfold PyData.depth; omega
theorem shC_lst {ds : List D} {dp w n : Nat} (h : ∀ d ∈ ds, shC d dp w) (hl : ds.length ≤ n) : shC (.list ds) (dp + 1) (n * (w + 1)) := by
  obtain ⟨a, b, c⟩ := allC (n := w) fun d hd => ⟨(h d hd).1, (h d hd).2.1, (h d hd).2.2.1⟩
  have e := depth_all (n := dp) fun d hd => (h d hd).2.2.2
  refine ⟨by unfold PyData.showable; exact a, by unfold PyData.leavesShort; exact b, ?_, ?_⟩
  · unfold PyData.weight; exact Nat.le_trans c (Nat.mul_le_mul_right _ hl)
  · unfold PyData.depth; omega
theorem repC {d : D} {dp w : Nat} (h : shC d dp w) (h2 : dp ≤ 20) (h3 : w ≤ 160000) : reprD d = some (.str d.shown) := by
  have z := PyData.shown_le 100 (by decide) d h.2.1
  have h4 := h.2.2.1
  have h5 := h.2.2.2
  have l : d.shown.length ≤ sizeLine := by
    have h5 : (100 + 2) * d.weight ≤ 102 * 160000 := Nat.mul_le_mul (by decide) (by omega)
    unfold sizeLine; omega
  unfold reprD
  rw [h.1, decide_eq_true (show d.depth ≤ 20 by omega), decide_eq_true l]; rfl
theorem shC_ints {l : List Int} {n : Nat} (h : ∀ x ∈ l, x.natAbs < 10 ^ 99) (hl : l.length ≤ n) : shC (.tuple (iD l)) 1 (n * 401) := by
  refine shC_tup (dp := 0) (w := 400) (fun d hd => ?_) (by rw [iD_len]; exact hl)
  obtain ⟨x, hx, rfl⟩ := List.mem_map.mp hd
  exact shC_int (h x hx)
theorem rep_list {ds : List D} {dp w n : Nat} (h : ∀ d ∈ ds, shC d dp w) (hl : ds.length ≤ n) (h2 : dp ≤ 19) (h3 : n * (w + 1) ≤ 160000) : reprD (.list ds) = some (.str (PyData.shown (.list ds))) := repC (shC_lst h hl) (by omega) h3
/-- plain equality of a tuple of numbers -/
theorem flat_tup (l : List Int) : flatD (.tuple (iD l)) = true := (show flatD (.tuple (l.map .int)) = flatD (.list (l.map .int)) from rfl).trans (flatD_of (W.ke_shaped_ints l))
theorem tup_nil {l : List Int} (h : l ≠ []) : cmpD .Eq (.tuple (iD l)) (.tuple []) = some false := by
  show (if flatD (.tuple (iD l)) && flatD (.tuple []) then some (PyData.eqv (.tuple (iD l)) (.tuple [])) else none) = _
  rw [flat_tup l, if_pos (by decide)]
  cases l with
  | nil => exact absurd rfl h
  | cons a b => simp [iD, PyData.eqv, PyData.eqvAll]
theorem flat_repD (d : D) : ∀ k : Nat, (List.replicate k [d]).flatten = List.replicate k d
  | 0 => rfl
  | k + 1 => by rw [List.replicate_succ, List.flatten_cons, flat_repD d k]; rfl
/-- (x,) * n -/
theorem rep1T (d : D) {n : Int} {k : Nat} (hn : n = (k : Nat)) (h1 : 1 ≤ k) (h2 : k ≤ 4000) : binD .Mult (.tuple [d]) (.int n) = some (.dat (.tuple (List.replicate k d))) := by
  subst hn
  by_cases h : k = 1
  · subst h; rfl
  · show (if decide (2 ≤ (k : Int)) && decide ((k : Int) ≤ 4000) && decide ([d].length ≤ 4000) && !([d] : List D).isEmpty then some (SV.dat (.tuple (List.replicate (k : Int).toNat [d]).flatten)) else _) = _
    rw [if_pos (by rw [decide_eq_true (by omega), decide_eq_true (by omega)]; rfl), Int.toNat_natCast, flat_repD]
theorem noL_ints (l : List Int) : noLst (.tuple (iD l)) = true := by
  show noLsts (iD l) = true
  induction l with
  | nil => rfl
  | cons a r ih => exact ih
end Z
namespace Z
open PySem
/-- for i, x in enumerate(xs): the first x that is not as asked ends the walk -/
theorem w_first {S : Sl} {body : D → Sl → Fl} {φ : Fl → Prop} (xs : List D) (p : D → Bool) (Q : Sl → Prop) (h0 : Q S)
    (good : ∀ (i : Nat) x S, xs[i]? = some x → p x = true → Q S → Wp (body (.tuple [.int (i : Nat), x]) S) fun o => ∃ S', (o = .nx S' ∨ o = .ct S') ∧ Q S')
    (bad : ∀ (i : Nat) x S, xs[i]? = some x → xs.findIdx? (fun y => !p y) = some i → Q S → Wp (body (.tuple [.int (i : Nat), x]) S) fun o => (∀ S', o ≠ .nx S' ∧ o ≠ .ct S' ∧ o ≠ .bk S') ∧ φ o)
    (h : ∀ S', xs.findIdx? (fun y => !p y) = none → Q S' → φ (.nx S')) : Wp (forL body (enumD xs) S) φ := by
  refine w_idx (enumD xs) (fun i S => (∀ j, j < i → ∀ x, xs[j]? = some x → p x = true) ∧ Q S) ⟨fun j hj => by omega, h0⟩ ?_ ?_
  · rintro i d S hd ⟨hp, hQ⟩
    obtain ⟨x, hx, rfl⟩ := enum_at hd
    cases e : p x with
    | true =>
      refine wp_mono (good i x S hx e hQ) ?_
      rintro o ⟨S', e', q⟩
      refine .inl ⟨S', e', fun j hj y hy => ?_, q⟩
      by_cases hji : j = i
      · subst hji; rw [hx] at hy; cases hy; exact e
      · exact hp j (by omega) y hy
    | false =>
      refine wp_mono (bad i x S hx ?_ hQ) fun o z => .inr z
      have hi : i < xs.length := by
        rcases Nat.lt_or_ge i xs.length with h | h
        · exact h
        · rw [List.getElem?_eq_none h] at hx; cases hx
      have ex : xs[i] = x := by rw [List.getElem?_eq_getElem hi] at hx; exact Option.some.inj hx
      refine List.findIdx?_eq_some_iff_getElem.mpr ⟨hi, by rw [ex, e]; rfl, fun j hj => ?_⟩
      have := hp j hj xs[j] (List.getElem?_eq_getElem (by omega))
      rw [this]; decide
  · rintro S ⟨hp, hQ⟩
    rw [enum_len] at hp
    refine h S (List.findIdx?_eq_none_iff.mpr fun x hx => ?_) hQ
    obtain ⟨j, hj, rfl⟩ := List.getElem_of_mem hx
    rw [hp j hj _ (List.getElem?_eq_getElem hj)]; rfl
theorem all_none {α : Type} (p : α → Bool) (xs : List α) : (xs.findIdx? fun y => !p y).isNone = xs.all p := by
  cases h : xs.findIdx? (fun y => !p y) with
  | none =>
    have := List.findIdx?_eq_none_iff.mp h
    symm
    exact List.all_eq_true.mpr fun x hx => by simpa using this x hx
  | some i =>
    obtain ⟨hi, e, _⟩ := List.findIdx?_eq_some_iff_getElem.mp h
    symm
    show xs.all p = false
    refine List.all_eq_false.mpr ⟨xs[i], List.getElem_mem hi, ?_⟩
    simpa using e
/-- 1 <= len(x) <= m -/
theorem q_len {S : Sl} {i m n : Nat} {xs : List D} (h : S[i]? = some (some (.dat (.tuple xs)))) (hn : xs.length = n) : qChain .LtE .LtE (xK (.int 1)) (xBi "len" (aC (xV i) aN)) (xK (.int (m : Nat))) S = .ok (decide (1 ≤ n) && decide (n ≤ m)) S := by
  subst hn
  have e : xBi "len" (aC (xV i) aN) S = .ok (.dat (.int (xs.length : Nat))) S := r_Bi (a_C (r_V h) a_N) rfl
  by_cases h1 : 1 ≤ xs.length
  · rw [decide_eq_true h1, Bool.true_and]
    refine q_chain r_K e (show some (decide ((1 : Int) ≤ (xs.length : Nat))) = _ by rw [decide_eq_true (by omega)]) r_K ?_
    show some (decide (((xs.length : Nat) : Int) ≤ (m : Nat))) = _
    congr 1
    exact decide_eq_decide.mpr (by omega)
  · rw [decide_eq_false h1, Bool.false_and]
    exact q_chainF r_K e (show some (decide ((1 : Int) ≤ (xs.length : Nat))) = _ by rw [decide_eq_false (by omega)])
end Z
namespace Z
theorem nb {b : Bool} (h : (!b) = true) : b = false := by cases b <;> first | rfl | cases h
theorem nt {b : Bool} (h : (!b) = false) : b = true := by cases b <;> first | rfl | cases h
end Z
namespace Z
open PySem
theorem rep_same {d : D} {k dp w : Nat} (h : shC d dp w) (h2 : dp ≤ 19) (h3 : k * (w + 1) ≤ 160000) : reprD (.list (List.replicate k d)) = some (.str (PyData.shown (.list (List.replicate k d)))) :=
  rep_list (dp := dp) (w := w) (n := k) (fun e he => by rw [List.eq_of_mem_replicate he]; exact h) (by rw [List.length_replicate]; exact Nat.le_refl _) h2 h3
theorem at_natD {xs : List D} {i : Nat} (h : i < xs.length) : atI xs (i : Nat) = some xs[i] := by
  unfold atI ixN
  rw [if_pos (by omega), if_pos (by omega)]
  show xs[((i : Nat) : Int).toNat]? = _
  rw [Int.toNat_natCast, List.getElem?_eq_getElem h]
/-- the first that is as asked, as a list -/
theorem take1_find {xs : List D} (p : D → Bool) : (((List.range xs.length).filter fun k => p (xs.getD k .none)).take 1) = match xs.findIdx? p with
    | none => []
    | some i => [i] := by
  cases h : xs.findIdx? p with
  | none =>
    have z := List.findIdx?_eq_none_iff.mp h
    rw [List.filter_eq_nil_iff.mpr]; rfl
    intro k hk
    have hk := List.mem_range.mp hk
    rw [List.getD_eq_getElem?_getD, List.getElem?_eq_getElem hk]
    have := z xs[k] (List.getElem_mem hk)
    simp [this]
  | some i =>
    obtain ⟨hi, e, z⟩ := List.findIdx?_eq_some_iff_getElem.mp h
    obtain ⟨m, hm⟩ : ∃ m, xs.length = i + (m + 1) := ⟨xs.length - i - 1, by omega⟩
    rw [hm, List.range_add, List.filter_append, List.filter_eq_nil_iff.mpr, List.nil_append, List.range_succ_eq_map, List.map_cons, List.filter_cons_of_pos]
    · rfl
    · rw [Nat.add_zero, List.getD_eq_getElem?_getD, List.getElem?_eq_getElem hi]; exact e
    · intro k hk
      have hk := List.mem_range.mp hk
      rw [List.getD_eq_getElem?_getD, List.getElem?_eq_getElem (by omega)]
      exact z k hk
theorem cut1 (xs : List D) : cut xs none (some 1) = xs.take 1 := by
  have e : sIx xs.length xs.length (some 1) = min 1 xs.length := rfl
  unfold cut
  rw [e]
  show (xs.drop 0).take (min 1 xs.length - 0) = _
  rw [List.drop_zero, Nat.sub_zero, ← List.take_eq_take_min]
end Z
namespace Z
open PySem
theorem c_io1 {F : Fn} {vs as : List SV} {S : Sl} {i : Nat} {res : SV} {xs : List D} {kk : Nat} (hi : F.io = some kk) (h1 : hand S (some kk) 0 vs = some as) (h2 : F.run as = .ok res xs) (h3 : vs[kk]? = some (.bor i)) (h4 : bors vs = [i]) : callF F vs S = .ok res (put S i (.own xs)) := by
  unfold callF; rw [hi, h1]; dsimp only; rw [h2]; dsimp only
  have e : ioAt (some kk) vs = some i := by unfold ioAt; dsimp only; rw [h3]
  rw [e]; dsimp only; rw [h4, if_pos (by simp)]
theorem shB_le {d : D} {dp w dp' w' : Nat} (h : shB d dp w) (h1 : dp ≤ dp') (h2 : w ≤ w') : shB d dp' w' := ⟨h.1, h.2.1, Nat.le_trans h.2.2.1 h2, Nat.le_trans h.2.2.2 h1⟩
theorem cut_mem {xs : List D} {lo hi : Option Int} {y : D} (h : y ∈ cut xs lo hi) : y ∈ xs := List.mem_of_mem_drop (List.mem_of_mem_take h)
theorem cut_len (xs : List D) (lo hi : Option Int) : (cut xs lo hi).length ≤ xs.length := by
  unfold cut
  rw [List.length_take, List.length_drop]; omega
theorem eq_nilT {xs : List D} (h : xs ≠ []) (hf : flatD (.tuple xs) = true) : cmpD .Eq (.tuple xs) (.tuple []) = some false := by
  show (if flatD (.tuple xs) && flatD (.tuple []) then some (PyData.eqv (.tuple xs) (.tuple [])) else none) = _
  rw [hf, if_pos (by decide)]
  cases xs with
  | nil => exact absurd rfl h
  | cons a b => simp [PyData.eqv, PyData.eqvAll]
/-- a wish of a def's whole run that the kernel can look at -/
def isTrue : Fl → Bool
  | .ret (.dat (.bool true)) _ => true
  | _ => false
theorem w_true {o : Fl} (h : isTrue o = true) : Wp o (FinR none fun o => ∃ xs, o = .ok (.dat (.bool true)) xs) := by
  refine wp_i ?_
  unfold isTrue at h
  split at h
  · exact ⟨_, rfl⟩
  · cases h
end Z
namespace Z
open PySem
section
variable {S S1 S2 S3 S4 : Sl} {f : Sl → O SV} {a : Sl → O (List SV)} {x y : SV} {d : D}
theorem r_Step {lo hi st : Sl → O (Option Int)} {l h k : Option Int} (h1 : f S = .ok x S1) (h2 : lo S1 = .ok l S2) (h3 : hi S2 = .ok h S3) (h4 : st S3 = .ok k S4) (h5 : cont S4 x = some d) (h6 : stepD l h k d = some y) : xStep f lo hi st S = .ok y S4 := by
  simp only [xStep, O.bind, h1, h2, h3, h4, h5, O.of, h6]
theorem i_R3 {i j c : Int} (h1 : a S = .ok [.dat (.int i), .dat (.int j), .dat (.int c)] S1) (h2 : rngOk i j c = true) : iR3 a S = .ok (rngC i c (Builtin.Range.rangeSize i j c).toNat) S1 := by
  simp only [iR3, O.bind, h1, rng3, h2, if_true]
end
end Z
namespace Z
open PySem
/-- the number in a slot -/
def slotI (S : Sl) (i : Nat) : Int := match S[i]? with
  | some (some (.dat (.int k))) => k
  | _ => 0
end Z
namespace Z
theorem settle_dats (S : Sl) : ∀ ds : List D, settleAll ((ds.map SV.dat ++ []).drop 0) S = .ok ds S
  | [] => rfl
  | d :: r => by
    have i := settle_dats S r
    show (settle S (.dat d)).bind _ = _
    show (settleAll (r.map SV.dat ++ []) S).bind _ = _
    rw [show settleAll (r.map SV.dat ++ []) S = .ok r S from i]; rfl
end Z

/-! Rows of whole numbers that return: sums over residues, differences, spectra. -/
namespace Z
open PySem
/-- a finite sum -/
def Sm : Nat → (Nat → Int) → Int
  | 0, _ => 0
  | n + 1, f => Sm n f + f n
theorem Sm_congr {n : Nat} {f g : Nat → Int} (h : ∀ i, i < n → f i = g i) : Sm n f = Sm n g := by
  induction n with
  | zero => rfl
  | succ n ih => unfold Sm; rw [ih fun i hi => h i (by omega), h n (by omega)]
theorem Sm_zero (n : Nat) : Sm n (fun _ => 0) = 0 := by
  induction n with
  | zero => rfl
  | succ n ih => unfold Sm; rw [ih]; rfl
theorem Sm_add (n : Nat) (f g : Nat → Int) : Sm n (fun i => f i + g i) = Sm n f + Sm n g := by
  induction n with
  | zero => rfl
  | succ n ih => show Sm n (fun i => f i + g i) + (f n + g n) = (Sm n f + f n) + (Sm n g + g n); rw [ih]; omega
theorem Sm_mulL (n : Nat) (c : Int) (f : Nat → Int) : Sm n (fun i => c * f i) = c * Sm n f := by
  induction n with
  | zero => unfold Sm; rw [Int.mul_zero]
  | succ n ih => unfold Sm; rw [ih, Int.mul_add]
theorem Sm_mulR (n : Nat) (c : Int) (f : Nat → Int) : Sm n (fun i => f i * c) = Sm n f * c := by
  induction n with
  | zero => unfold Sm; rw [Int.zero_mul]
  | succ n ih => unfold Sm; rw [ih, Int.add_mul]
theorem Sm_swap (m n : Nat) (f : Nat → Nat → Int) : Sm m (fun i => Sm n fun j => f i j) = Sm n fun j => Sm m fun i => f i j := by
  induction m with
  | zero => show (0 : Int) = Sm n fun _ => 0; rw [Sm_zero]
  | succ m ih =>
    show Sm m (fun i => Sm n fun j => f i j) + Sm n (fun j => f m j) = Sm n fun j => Sm m (fun i => f i j) + f m j
    rw [Sm_add, ih]
theorem Sm_one {n p : Nat} (hp : p < n) (f : Nat → Int) : Sm n (fun i => if i = p then f i else 0) = f p := by
  induction n with
  | zero => omega
  | succ n ih =>
    show Sm n (fun i => if i = p then f i else 0) + (if n = p then f n else 0) = f p
    by_cases h : n = p
    · rw [if_pos h, Sm_congr (g := fun _ => 0) (fun i hi => by rw [if_neg (by omega)]), Sm_zero, h]; omega
    · rw [if_neg h, ih (by omega)]; omega
theorem Sm_none {n p : Nat} (hp : n ≤ p) (f : Nat → Int) : Sm n (fun i => if i = p then f i else 0) = 0 := by
  rw [Sm_congr (g := fun _ => 0) (fun i hi => by rw [if_neg (by omega)]), Sm_zero]
theorem Sm_app (a b : Nat) (f : Nat → Int) : Sm (a + b) f = Sm a f + Sm b fun i => f (a + i) := by
  induction b with
  | zero => show Sm a f = Sm a f + 0; omega
  | succ b ih => show Sm (a + b) f + f (a + b) = Sm a f + (Sm b (fun i => f (a + i)) + f (a + b)); rw [ih]; omega
theorem Sm_first (n : Nat) (f : Nat → Int) : Sm (n + 1) f = f 0 + Sm n fun i => f (i + 1) := by
  rw [Nat.add_comm, Sm_app]
  show (0 + f 0) + _ = _
  rw [Int.zero_add]
  congr 1
  exact Sm_congr fun i _ => by rw [Nat.add_comm]
theorem Sm_rev (n : Nat) (f : Nat → Int) : Sm n (fun i => f (n - 1 - i)) = Sm n f := by
  induction n generalizing f with
  | zero => rfl
  | succ n ih =>
    rw [Sm_first]
    show f (n + 1 - 1 - 0) + _ = Sm n f + f n
    rw [show n + 1 - 1 - 0 = n by omega, Sm_congr (g := fun i => f (n - 1 - i)) (fun i hi => by rw [show n + 1 - 1 - (i + 1) = n - 1 - i by omega]), ih]; omega
theorem Sm_sum (n : Nat) (f : Nat → Int) : ((List.range n).map f).sum = Sm n f := by
  induction n with
  | zero => rfl
  | succ n ih => rw [List.range_succ, List.map_append, List.sum_append, ih]; show _ + (f n + 0) = _; rw [Int.add_zero]; rfl
/-- a row that returns -/
def Per (n : Nat) (X : Int → Int) : Prop := ∀ k, X (k + n) = X k
theorem Per.mulN {n : Nat} {X : Int → Int} (h : Per n X) (c : Nat) (k : Int) : X (k + n * c) = X k := by
  induction c with
  | zero => rw [Int.natCast_zero, Int.mul_zero, Int.add_zero]
  | succ c ih =>
    rw [show k + (n : Int) * ((c + 1 : Nat) : Int) = k + n * c + n by rw [Int.natCast_add, Int.mul_add]; omega, h, ih]
theorem Per.mul {n : Nat} {X : Int → Int} (h : Per n X) (c k : Int) : X (k + n * c) = X k := by
  rcases Int.lt_or_le c 0 with hc | hc
  · obtain ⟨m, rfl⟩ : ∃ m : Nat, c = -(m : Int) := ⟨c.natAbs, by omega⟩
    have := h.mulN m (k + n * -(m : Int))
    rw [← this]
    congr 1
    rw [Int.mul_neg]; omega
  · obtain ⟨m, rfl⟩ : ∃ m : Nat, c = (m : Int) := ⟨c.toNat, by omega⟩
    exact h.mulN m k
theorem Per.dvd {m n : Nat} {X : Int → Int} (h : Per m X) (d : m ∣ n) : Per n X := fun k => by
  obtain ⟨c, rfl⟩ := d
  rw [Int.natCast_mul]; exact h.mul c k
theorem Per.eq {n : Nat} {X : Int → Int} (h : Per n X) {a b : Int} (d : (n : Int) ∣ a - b) : X a = X b := by
  obtain ⟨c, e⟩ := d
  rw [show a = b + n * c by omega]; exact h.mul c b
theorem Per.sh {n : Nat} {X : Int → Int} (h : Per n X) (w : Int) : Per n fun k => X (k + w) := fun k => by
  show X (k + n + w) = X (k + w)
  rw [show k + (n : Int) + w = k + w + n by omega, h]
/-- two periods: their greatest common divisor, too -/
theorem Per.gcd {m n : Nat} {X : Int → Int} (h : Per m X) (h2 : Per n X) : Per (Nat.gcd m n) X := by
  induction m, n using Nat.gcd.induction with
  | H0 n => rw [Nat.gcd_zero_left]; exact h2
  | H1 m n hm ih =>
    rw [Nat.gcd_rec]
    refine ih (fun k => ?_) h
    have e : k + ((n % m : Nat) : Int) = (k + n) + m * (-((n / m : Nat) : Int)) := by
      have z := Nat.mod_add_div n m
      have z2 : ((n % m : Nat) : Int) + (m : Int) * ((n / m : Nat) : Int) = (n : Int) := by rw [← Int.natCast_mul, ← Int.natCast_add, z]
      rw [Int.mul_neg]; omega
    rw [e, h.mul, h2]
/-- the sum over a period -/
def PS (n : Nat) (g : Int → Int) : Int := Sm n fun i => g (i : Nat)
theorem PS_congr {n : Nat} {f g : Int → Int} (h : ∀ k, f k = g k) : PS n f = PS n g := Sm_congr fun i _ => h i
theorem PS_add (n : Nat) (f g : Int → Int) : PS n (fun k => f k + g k) = PS n f + PS n g := Sm_add n _ _
theorem PS_mul (n : Nat) (c : Int) (f : Int → Int) : PS n (fun k => c * f k) = c * PS n f := Sm_mulL n c _
theorem PS_sh1 {n : Nat} {g : Int → Int} (h : Per n g) : PS n (fun i => g (i + 1)) = PS n g := by
  cases n with
  | zero => rfl
  | succ n =>
    unfold PS
    rw [Sm_first n fun i => g (i : Nat)]
    show Sm n (fun i => g ((i : Nat) + 1)) + g ((n : Nat) + 1) = _
    have e : g (((n : Nat) : Int) + 1) = g ((0 : Nat) : Int) := by
      have := h 0
      rw [Int.zero_add] at this
      exact this
    rw [e, Sm_congr (g := fun i => g (((i + 1 : Nat)) : Int)) (fun i _ => by rw [Int.natCast_add]; rfl)]
    omega
theorem PS_shN {n : Nat} {g : Int → Int} (h : Per n g) (w : Nat) : PS n (fun i => g (i + w)) = PS n g := by
  induction w with
  | zero => exact PS_congr fun k => by rw [Int.natCast_zero, Int.add_zero]
  | succ w ih =>
    rw [← ih, ← PS_sh1 (h.sh w)]
    exact PS_congr fun k => by rw [Int.natCast_add]; congr 1; omega
theorem PS_sh {n : Nat} {g : Int → Int} (h : Per n g) (w : Int) : PS n (fun i => g (i + w)) = PS n g := by
  rcases Nat.eq_zero_or_pos n with rfl | hn
  · rfl
  · have e : ∀ k, g (k + w) = g (k + ((w % n).toNat : Nat)) := fun k => h.eq ⟨w / n, by
      rw [Int.toNat_of_nonneg (Int.emod_nonneg _ (by omega))]
      have := Int.mul_ediv_add_emod w n
      omega⟩
    rw [PS_congr e, PS_shN h]
theorem PS_neg {n : Nat} {g : Int → Int} (h : Per n g) : PS n (fun i => g (-i)) = PS n g := by
  rw [← PS_sh1 (g := fun i => g (-i)) (fun k => by show g (-(k + n)) = g (-k); rw [show -(k + (n : Int)) = -k + n * (-1) by omega, h.mul])]
  unfold PS
  rw [← Sm_rev n fun i => g (i : Nat)]
  refine Sm_congr fun i hi => ?_
  exact h.eq ⟨-1, by omega⟩
/-- the sums over residues -/
def Sd (n d : Nat) (X : Int → Int) (k : Int) : Int := PS n fun i => if (d : Int) ∣ i - k then X i else 0
theorem Sd_per (n d : Nat) (X : Int → Int) : Per d (Sd n d X) := fun k => PS_congr fun i => by
  have : ((d : Int) ∣ i - (k + d)) ↔ ((d : Int) ∣ i - k) := by
    constructor
    · rintro ⟨c, e⟩; exact ⟨c + 1, by rw [Int.mul_add]; omega⟩
    · rintro ⟨c, e⟩; exact ⟨c - 1, by rw [Int.mul_sub]; omega⟩
  simp only [this]
theorem per_if {n d : Nat} {X : Int → Int} (h : Per n X) (hd : d ∣ n) (k : Int) : Per n fun i => if (d : Int) ∣ i - k then X i else 0 := fun i => by
  obtain ⟨c, rfl⟩ := hd
  have : ((d : Int) ∣ i + ((d * c : Nat) : Int) - k) ↔ ((d : Int) ∣ i - k) := by
    rw [Int.natCast_mul]
    constructor
    · rintro ⟨a, e⟩; exact ⟨a - c, by rw [Int.mul_sub]; omega⟩
    · rintro ⟨a, e⟩; exact ⟨a + c, by rw [Int.mul_add]; omega⟩
  simp only [this, h i]
/-- sums of a row that is turned or mirrored -/
theorem Sd_aff {n d : Nat} {X : Int → Int} (h : Per n X) (hd : d ∣ n) (w k : Int) {ep : Int} (he : ep = 1 ∨ ep = -1) : Sd n d (fun k => X (ep * k + w)) k = Sd n d X (ep * k + w) := by
  have P := per_if h hd (ep * k + w)
  unfold Sd
  rw [← PS_sh P w]
  rcases he with rfl | rfl
  · refine PS_congr fun i => ?_
    have : ((d : Int) ∣ i - k) ↔ ((d : Int) ∣ i + w - (1 * k + w)) := by rw [show i + w - (1 * k + w) = i - k by omega]
    simp only [this, Int.one_mul]
  · rw [← PS_neg (P.sh w)]
    refine PS_congr fun i => ?_
    have : ((d : Int) ∣ i - k) ↔ ((d : Int) ∣ -i + w - (-1 * k + w)) := by
      rw [show -i + w - (-1 * k + w) = -(i - k) by omega, Int.dvd_neg]
    simp only [this]
    rw [show (-1 : Int) * i + w = -i + w by omega]
theorem Sd_sh {n d : Nat} {X : Int → Int} (h : Per n X) (hd : d ∣ n) (w k : Int) : Sd n d (fun k => X (k + w)) k = Sd n d X (k + w) := by
  have := Sd_aff h hd w k (ep := 1) (.inl rfl)
  simpa using this
theorem Sd_add (n d : Nat) (X Y : Int → Int) (k : Int) : Sd n d (fun k => X k + Y k) k = Sd n d X k + Sd n d Y k := by
  unfold Sd
  rw [← PS_add]
  exact PS_congr fun i => by split <;> simp
theorem Sd_mul (n d : Nat) (c : Int) (X : Int → Int) (k : Int) : Sd n d (fun k => c * X k) k = c * Sd n d X k := by
  unfold Sd
  rw [← PS_mul]
  exact PS_congr fun i => by split <;> simp
theorem Sd_sub (n d : Nat) (X Y : Int → Int) (k : Int) : Sd n d (fun k => X k - Y k) k = Sd n d X k - Sd n d Y k := by
  have e : (fun k => X k - Y k) = fun k => X k + (-1) * Y k := by funext k; omega
  rw [e, Sd_add, Sd_mul]; omega
theorem one_res {e : Nat} (he : 0 < e) (k : Int) : PS e (fun i => if (e : Int) ∣ i - k then 1 else 0) = 1 := by
  have r1 := Int.emod_nonneg k (show (e : Int) ≠ 0 by omega)
  have r2 := Int.emod_lt_of_pos k (show (0 : Int) < e by omega)
  unfold PS
  rw [Sm_congr (g := fun i => if i = (k % e).toNat then 1 else 0) (fun i hi => ?_), Sm_one (p := (k % e).toNat) (by omega) (fun _ => 1)]
  have z := Int.mul_ediv_add_emod k e
  have : ((e : Int) ∣ (i : Int) - k) ↔ i = (k % e).toNat := by
    constructor
    · rintro ⟨c, h⟩
      have h2 : (i : Int) = k % e + e * (c + k / e) := by rw [Int.mul_add]; omega
      have h3 : (i : Int) % e = k % e := by rw [h2, Int.add_mul_emod_self_left, Int.emod_emod]
      rw [Int.emod_eq_of_lt (by omega) (by omega)] at h3
      omega
    · intro h
      exact ⟨-(k / e), by rw [Int.mul_neg]; omega⟩
  simp only [this]
theorem cnt_res {e c : Nat} (he : 0 < e) (k : Int) : PS (e * c) (fun i => if (e : Int) ∣ i - k then 1 else 0) = c := by
  induction c with
  | zero => rfl
  | succ c ih =>
    unfold PS at ih ⊢
    rw [Nat.mul_succ, Sm_app, ih]
    have := one_res he k
    unfold PS at this
    rw [Sm_congr (g := fun i => if (e : Int) ∣ (i : Int) - k then 1 else 0) (fun i hi => ?_), this]; rfl
    have : ((e : Int) ∣ ((e * c + i : Nat) : Int) - k) ↔ ((e : Int) ∣ (i : Int) - k) := by
      rw [Int.natCast_add, Int.natCast_mul]
      constructor
      · rintro ⟨a, h⟩; exact ⟨a - c, by rw [Int.mul_sub]; omega⟩
      · rintro ⟨a, h⟩; exact ⟨a + c, by rw [Int.mul_add]; omega⟩
    simp only [this]
theorem Sd_of_per {e c : Nat} (he : 0 < e) {Y : Int → Int} (h : Per e Y) (k : Int) : Sd (e * c) e Y k = c * Y k := by
  rw [← cnt_res he k]
  unfold Sd
  rw [Int.mul_comm, ← PS_mul]
  refine PS_congr fun i => ?_
  by_cases d : (e : Int) ∣ i - k
  · rw [if_pos d, if_pos d, h.eq d, Int.mul_one]
  · rw [if_neg d, if_neg d, Int.mul_zero]
theorem Sd_self {n : Nat} (hn : 0 < n) {X : Int → Int} (h : Per n X) (k : Int) : Sd n n X k = X k := by
  have := Sd_of_per (c := 1) hn h k
  rw [Nat.mul_one] at this
  rw [this]; show ((1 : Nat) : Int) * X k = X k
  simp
theorem Sd_Sd {e d c : Nat} (hd : 0 < d) (h : e ∣ d) (X : Int → Int) (k : Int) : Sd (d * c) e (Sd (d * c) d X) k = c * Sd (d * c) e X k := by
  unfold Sd PS
  rw [← Sm_mulL]
  rw [Sm_congr (n := d * c) (g := fun i => Sm (d * c) fun j => if (e : Int) ∣ (i : Int) - k then (if (d : Int) ∣ (j : Int) - i then X j else 0) else 0) (fun i _ => ?_), Sm_swap]
  · refine Sm_congr fun j _ => ?_
    have ct := cnt_res (c := c) hd (j : Int)
    unfold PS at ct
    show _ = (c : Int) * (if (e : Int) ∣ (j : Int) - k then X j else 0)
    by_cases hj : (e : Int) ∣ (j : Int) - k
    · rw [if_pos hj, ← ct, Int.mul_comm, ← Sm_mulL]
      refine Sm_congr fun i _ => ?_
      show _ = X j * (if (d : Int) ∣ (i : Int) - j then 1 else 0)
      by_cases hi : (d : Int) ∣ (j : Int) - i
      · have h1 : (d : Int) ∣ (i : Int) - j := by rw [show (i : Int) - j = -((j : Int) - i) by omega, Int.dvd_neg]; exact hi
        have h2 : (e : Int) ∣ (i : Int) - k := by
          have := Int.dvd_sub hj (Int.dvd_trans (Int.natCast_dvd_natCast.mpr h) hi)
          rwa [show (j : Int) - k - (j - i) = i - k by omega] at this
        rw [if_pos h2, if_pos hi, if_pos h1, Int.mul_one]
      · have h1 : ¬ (d : Int) ∣ (i : Int) - j := fun z => hi (by rw [show (j : Int) - i = -((i : Int) - j) by omega, Int.dvd_neg]; exact z)
        rw [if_neg h1, if_neg hi, Int.mul_zero]; split <;> rfl
    · rw [if_neg hj, Int.mul_zero, Sm_congr (g := fun _ => 0), Sm_zero]
      intro i _
      by_cases hi : (d : Int) ∣ (j : Int) - i
      · have h2 : ¬ (e : Int) ∣ (i : Int) - k := fun z => hj (by
          have := Int.dvd_add z (Int.dvd_trans (Int.natCast_dvd_natCast.mpr h) hi)
          rwa [show (i : Int) - k + (j - i) = j - k by omega] at this)
        rw [if_neg h2]
      · rw [if_neg hi]; split <;> rfl
  · show (if (e : Int) ∣ (i : Int) - k then Sm (d * c) (fun j => if (d : Int) ∣ (j : Int) - i then X j else 0) else 0) = Sm (d * c) fun j => if (e : Int) ∣ (i : Int) - k then (if (d : Int) ∣ (j : Int) - i then X j else 0) else 0
    by_cases hi : (e : Int) ∣ (i : Int) - k
    · simp only [hi, if_true]
    · simp only [hi, if_false, Sm_zero]
end Z
namespace Z
/-! ### prime parts -/
def isp (k p : Nat) : Bool := decide (2 ≤ p) && decide (k % p = 0) && (List.range p).all fun q => decide (q < 2) || decide (p % q ≠ 0)
def pp (k : Nat) : List Nat := (List.range (k + 1)).filter (isp k)
theorem isp_iff {k p : Nat} : isp k p = true ↔ 2 ≤ p ∧ p ∣ k ∧ ∀ q, 2 ≤ q → q < p → ¬ q ∣ p := by
  unfold isp
  rw [Bool.and_eq_true, Bool.and_eq_true, decide_eq_true_eq, decide_eq_true_eq, List.all_eq_true, and_assoc, ← Nat.dvd_iff_mod_eq_zero]
  refine and_congr_right fun h2 => and_congr_right fun _ => ⟨fun h q q2 qp d => ?_, fun h q hq => ?_⟩
  · have := h q (List.mem_range.mpr qp)
    rw [Bool.or_eq_true, decide_eq_true_eq, decide_eq_true_eq] at this
    rcases this with z | z
    · omega
    · exact z (Nat.mod_eq_zero_of_dvd d)
  · rw [Bool.or_eq_true, decide_eq_true_eq, decide_eq_true_eq]
    by_cases z : q < 2
    · exact .inl z
    · exact .inr fun e => h q (by omega) (List.mem_range.mp hq) (Nat.dvd_of_mod_eq_zero e)
theorem pp_mem {k p : Nat} (hk : 0 < k) : p ∈ pp k ↔ 2 ≤ p ∧ p ∣ k ∧ ∀ q, 2 ≤ q → q < p → ¬ q ∣ p := by
  unfold pp
  rw [List.mem_filter, isp_iff, List.mem_range]
  exact ⟨fun h => h.2, fun h => ⟨Nat.lt_succ_of_le (Nat.le_of_dvd hk h.2.1), h⟩⟩
theorem least_div (t : Nat) (h : 2 ≤ t) : ∃ p, 2 ≤ p ∧ p ∣ t ∧ ∀ q, 2 ≤ q → q < p → ¬ q ∣ p := by
  induction t using Nat.strongRecOn with
  | ind t ih =>
    by_cases z : ∃ q, 2 ≤ q ∧ q < t ∧ q ∣ t
    · obtain ⟨q, q2, qt, qd⟩ := z
      obtain ⟨p, a, b, c⟩ := ih q qt q2
      exact ⟨p, a, Nat.dvd_trans b qd, c⟩
    · exact ⟨t, h, Nat.dvd_refl _, fun q q2 qt qd => z ⟨q, q2, qt, qd⟩⟩
/-- a proper divisor divides d / p for a prime part p -/
theorem pp_proper {d g : Nat} (hd : 0 < d) (h : g ∣ d) (hg : g ≠ d) : ∃ p ∈ pp d, g ∣ d / p := by
  obtain ⟨t, rfl⟩ := h
  have ht : 2 ≤ t := by
    rcases Nat.lt_or_ge t 2 with z | z
    · have : t = 0 ∨ t = 1 := by omega
      rcases this with rfl | rfl
      · simp at hd
      · simp at hg
    · exact z
  obtain ⟨p, a, b, c⟩ := least_div t ht
  refine ⟨p, (pp_mem hd).mpr ⟨a, Nat.dvd_trans b (Nat.dvd_mul_left _ _), c⟩, ?_⟩
  obtain ⟨s, rfl⟩ := b
  rw [show g * (p * s) = g * s * p by rw [Nat.mul_comm p s, Nat.mul_assoc], Nat.mul_div_cancel _ (by omega)]
  exact Nat.dvd_mul_right _ _
/-! ### differences, the residue -/
def Df (e : Nat) (X : Int → Int) : Int → Int := fun k => X (k + e) - X k
def Rs (ps : List Nat) (d : Nat) (Y : Int → Int) : Int → Int := ps.foldl (fun Z p => Df (d / p) Z) Y
/-- the members of the spectrum -/
def InS (n d : Nat) (X : Int → Int) : Prop := ∃ k, Rs (pp d) d (Sd n d X) k ≠ 0
theorem Df_per {n e : Nat} {X : Int → Int} (h : Per n X) : Per n (Df e X) := fun k => by
  unfold Df
  rw [show k + (n : Int) + e = k + e + n by omega, h, h]
theorem Rs_per {n d : Nat} : ∀ (ps : List Nat) {X : Int → Int}, Per n X → Per n (Rs ps d X)
  | [], _, h => h
  | _ :: ps, _, h => Rs_per ps (Df_per h)
theorem Rs_add (d : Nat) : ∀ (ps : List Nat) (X Y : Int → Int), Rs ps d (fun k => X k + Y k) = fun k => Rs ps d X k + Rs ps d Y k
  | [], _, _ => rfl
  | p :: ps, X, Y => by
    show Rs ps d (Df (d / p) fun k => X k + Y k) = _
    rw [show (Df (d / p) fun k => X k + Y k) = fun k => Df (d / p) X k + Df (d / p) Y k by funext k; show (X (k + ((d / p : Nat) : Int)) + Y (k + ((d / p : Nat) : Int))) - (X k + Y k) = (X (k + ((d / p : Nat) : Int)) - X k) + (Y (k + ((d / p : Nat) : Int)) - Y k); omega]
    exact Rs_add d ps _ _
theorem Rs_mul (d : Nat) (c : Int) : ∀ (ps : List Nat) (X : Int → Int), Rs ps d (fun k => c * X k) = fun k => c * Rs ps d X k
  | [], _ => rfl
  | p :: ps, X => by
    show Rs ps d (Df (d / p) fun k => c * X k) = _
    rw [show (Df (d / p) fun k => c * X k) = fun k => c * Df (d / p) X k by funext k; unfold Df; rw [Int.mul_sub]]
    exact Rs_mul d c ps _
theorem Rs_zero (d : Nat) (ps : List Nat) : Rs ps d (fun _ => 0) = fun _ => 0 := by
  have := Rs_mul d 0 ps (fun _ => 0)
  simpa using this
/-- turned or mirrored -/
theorem Rs_aff (d : Nat) {ep : Int} (he : ep = 1 ∨ ep = -1) : ∀ (ps : List Nat) (X : Int → Int) (w : Int), ∃ (s w' : Int), (s = 1 ∨ s = -1) ∧ Rs ps d (fun k => X (ep * k + w)) = fun k => s * Rs ps d X (ep * k + w')
  | [], X, w => ⟨1, w, .inl rfl, by funext k; show X _ = 1 * X _; omega⟩
  | p :: ps, X, w => by
    have key : ∃ (s0 w0 : Int), (s0 = 1 ∨ s0 = -1) ∧ (Df (d / p) fun k => X (ep * k + w)) = fun k => s0 * Df (d / p) X (ep * k + w0) := by
      rcases he with rfl | rfl
      · refine ⟨1, w, .inl rfl, ?_⟩
        funext k
        show X (1 * (k + ((d / p : Nat) : Int)) + w) - X (1 * k + w) = 1 * (X (1 * k + w + ((d / p : Nat) : Int)) - X (1 * k + w))
        rw [Int.one_mul (X _ - _), show 1 * (k + ((d / p : Nat) : Int)) + w = 1 * k + w + ((d / p : Nat) : Int) by omega]
      · refine ⟨-1, w - ((d / p : Nat) : Int), .inr rfl, ?_⟩
        funext k
        show X (-1 * (k + ((d / p : Nat) : Int)) + w) - X (-1 * k + w) = -1 * (X (-1 * k + (w - ((d / p : Nat) : Int)) + ((d / p : Nat) : Int)) - X (-1 * k + (w - ((d / p : Nat) : Int))))
        rw [show -1 * (k + ((d / p : Nat) : Int)) + w = -1 * k + (w - ((d / p : Nat) : Int)) by omega, show -1 * k + (w - ((d / p : Nat) : Int)) + ((d / p : Nat) : Int) = -1 * k + w by omega]
        omega
    obtain ⟨s0, w0, h0, e0⟩ := key
    obtain ⟨s1, w1, h1, e1⟩ := Rs_aff d he ps (Df (d / p) X) w0
    refine ⟨s0 * s1, w1, ?_, ?_⟩
    · rcases h0 with rfl | rfl <;> rcases h1 with rfl | rfl <;> simp
    · show Rs ps d (Df (d / p) fun k => X (ep * k + w)) = _
      rw [e0, Rs_mul, e1]
      funext k
      show s0 * (s1 * _) = s0 * s1 * _
      rw [Int.mul_assoc]; rfl
theorem InS_aff {n d : Nat} {X : Int → Int} (h : Per n X) (hd : d ∣ n) (w : Int) {ep : Int} (he : ep = 1 ∨ ep = -1) : InS n d (fun k => X (ep * k + w)) ↔ InS n d X := by
  have e1 : Sd n d (fun k => X (ep * k + w)) = fun k => Sd n d X (ep * k + w) := by funext k; exact Sd_aff h hd w k he
  obtain ⟨s, w', hs, e2⟩ := Rs_aff d he (pp d) (Sd n d X) w
  unfold InS
  rw [e1, e2]
  constructor
  · rintro ⟨k, hk⟩
    exact ⟨ep * k + w', fun z => hk (by show s * _ = 0; rw [z, Int.mul_zero])⟩
  · rintro ⟨k, hk⟩
    refine ⟨ep * (k - w'), fun z => hk ?_⟩
    have z : s * Rs (pp d) d (Sd n d X) (ep * (ep * (k - w')) + w') = 0 := z
    have e : ep * (ep * (k - w')) + w' = k := by rcases he with rfl | rfl <;> omega
    rw [e] at z
    rcases hs with rfl | rfl <;> omega
/-- sums over residues of differences -/
theorem Sd_Df {n e : Nat} (hd : e ∣ n) (a : Nat) {Y : Int → Int} (h : Per n Y) : Sd n e (Df a Y) = Df a (Sd n e Y) := by
  funext k
  unfold Df
  rw [Sd_sub, Sd_sh h hd]
/-- if the residue returns, and the sums over the smaller residues, so does the row -/
theorem per_of_res {n g d : Nat} (hn : 0 < n) : ∀ (ps : List Nat), (∀ p ∈ ps, 0 < p ∧ p ∣ d) → ∀ {Y : Int → Int}, d ∣ n → Per d Y → (∀ p ∈ ps, Per g (Sd n (d / p) Y)) → Per g (Rs ps d Y) → Per g Y
  | [], _, _, _, _, _, h => h
  | p :: ps, hp, Y, dn, hY, hs, h => by
    have dp : 0 < d := Nat.pos_of_dvd_of_pos dn hn
    obtain ⟨p0, p1⟩ := hp p (List.mem_cons_self ..)
    have e1 : d / p ∣ d := Nat.div_dvd_of_dvd p1
    have en : d / p ∣ n := Nat.dvd_trans e1 dn
    have hYn := hY.dvd dn
    have ep0 : 0 < d / p := Nat.pos_of_dvd_of_pos e1 dp
    -- the first difference returns
    have hZ : Per g (Df (d / p) Y) := per_of_res hn ps (fun q hq => hp q (List.mem_cons_of_mem _ hq)) dn (Df_per hY) (fun q hq => by
      have q1 : d / q ∣ n := Nat.dvd_trans (Nat.div_dvd_of_dvd (hp q (List.mem_cons_of_mem _ hq)).2) dn
      rw [Sd_Df q1 (d / p) hYn]
      exact Df_per (hs q (List.mem_cons_of_mem _ hq))) h
    -- W, the difference by g, returns by d / p, and its sums are nothing
    have hW : Per (d / p) (Df g Y) := fun k => by
      have z := hZ k
      unfold Df at z ⊢
      rw [show k + (g : Int) + ((d / p : Nat) : Int) = k + ((d / p : Nat) : Int) + g by omega] at z
      omega
    have hWn : Per n (Df g Y) := hW.dvd en
    obtain ⟨c, hc⟩ := en
    have cpos : 0 < c := Nat.pos_of_ne_zero fun z => by rw [z, Nat.mul_zero] at hc; omega
    intro k
    have z1 := Sd_of_per (c := c) ep0 hW k
    rw [← hc, Sd_Df ⟨c, hc⟩ g hYn] at z1
    have z2 := hs p (List.mem_cons_self ..) k
    unfold Df at z1
    rw [z2, Int.sub_self] at z1
    have z3 : Y (k + g) - Y k = 0 := by
      rcases Int.mul_eq_zero.mp z1.symm with z | z
      · omega
      · exact z
    omega
/-- a row whose spectrum divides m returns by m -/
theorem spec_per {n m : Nat} (hn : 0 < n) {X : Int → Int} (h : Per n X) (hm : m ∣ n) (hs : ∀ d, d ∣ n → ¬ d ∣ m → ¬ InS n d X) : Per m X := by
  have key : ∀ d, d ∣ n → Per (Nat.gcd d m) (Sd n d X) := by
    intro d
    induction d using Nat.strongRecOn with
    | ind d ih =>
      intro dn
      have dp : 0 < d := Nat.pos_of_dvd_of_pos dn hn
      by_cases dm : d ∣ m
      · rw [Nat.gcd_eq_left dm]; exact Sd_per n d X
      · have mem : ∀ p ∈ pp d, 0 < p ∧ p ∣ d := fun p hp => by
          have := (pp_mem dp).mp hp
          exact ⟨by omega, this.2.1⟩
        refine per_of_res hn (pp d) mem dn (Sd_per n d X) (fun p hp => ?_) ?_
        · obtain ⟨p0, p1⟩ := mem p hp
          have p2 : 2 ≤ p := ((pp_mem dp).mp hp).1
          have e1 : d / p ∣ d := Nat.div_dvd_of_dvd p1
          obtain ⟨c, hc⟩ := dn
          have e2 : Sd n (d / p) (Sd n d X) = fun k => c * Sd n (d / p) X k := by
            funext k; rw [hc]; exact Sd_Sd dp e1 X k
          have i := ih (d / p) (Nat.div_lt_self dp (by omega)) (Nat.dvd_trans e1 ⟨c, hc⟩)
          have i2 : Per (Nat.gcd d m) (Sd n (d / p) X) := i.dvd (Nat.gcd_dvd_gcd_of_dvd_left _ e1)
          rw [e2]
          intro k
          show (c : Int) * _ = (c : Int) * _
          rw [i2 k]
        · have z := hs d dn dm
          have e0 : Rs (pp d) d (Sd n d X) = fun _ => 0 := by
            funext k
            by_cases e : Rs (pp d) d (Sd n d X) k = 0
            · exact e
            · exact absurd ⟨k, e⟩ z
          rw [e0]
          intro k; rfl
  have := key n (Nat.dvd_refl n)
  rw [Nat.gcd_eq_right hm] at this
  intro k
  have z := this k
  rw [Sd_self hn h, Sd_self hn h] at z
  exact z
theorem Df_zero {e : Nat} {Y : Int → Int} (h : Per e Y) : Df e Y = fun _ => 0 := by
  funext k; unfold Df; rw [h]; omega
theorem Rs_kill {d e : Nat} : ∀ (ps : List Nat) {Y : Int → Int}, (∃ p ∈ ps, d / p = e) → Per e Y → Rs ps d Y = fun _ => 0
  | [], _, ⟨p, hp, _⟩, _ => nomatch hp
  | p :: ps, Y, ⟨q, hq, e1⟩, h => by
    show Rs ps d (Df (d / p) Y) = _
    by_cases z : d / p = e
    · rw [z, Df_zero h, Rs_zero]
    · rcases List.mem_cons.mp hq with rfl | hq
      · exact absurd e1 z
      · exact Rs_kill ps ⟨q, hq, e1⟩ (Df_per h)
/-- a row that returns by m: its spectrum divides m -/
theorem per_spec {n m d : Nat} (hn : 0 < n) {X : Int → Int} (h : Per n X) (hX : Per m X) (dn : d ∣ n) (dm : ¬ d ∣ m) : ¬ InS n d X := by
  have dp : 0 < d := Nat.pos_of_dvd_of_pos dn hn
  have p1 : Per m (Sd n d X) := fun k => by
    have e : Sd n d X (k + m) = Sd n d (fun k => X (k + m)) k := (Sd_sh h dn m k).symm
    rw [e]
    have : (fun k : Int => X (k + m)) = X := by funext k; exact hX k
    rw [this]
  have p2 : Per (Nat.gcd d m) (Sd n d X) := (Sd_per n d X).gcd p1
  have gd := Nat.gcd_dvd_left d m
  obtain ⟨p, hp, hg⟩ := pp_proper dp gd fun e => dm (by rw [← e]; exact Nat.gcd_dvd_right d m)
  rintro ⟨k, hk⟩
  exact hk (by rw [Rs_kill (e := d / p) (pp d) ⟨p, hp, rfl⟩ (p2.dvd hg)])
end Z
namespace Z
open PySem
theorem tooth_per {g : List Int} (h : 1 ≤ g.length) : Per g.length (tooth g) := fun k => by
  have e := tooth_mod (g := g) (k + g.length) 0
  have e2 := tooth_mod (g := g) k 0
  rw [Int.add_emod_right] at e
  rw [Int.add_zero] at e e2
  rw [Int.add_zero] at e e2
  rw [← e, ← e2]
theorem tooth_nat {g : List Int} {k : Nat} (h : k < g.length) : tooth g (k : Nat) = g.getD k 0 := by
  unfold tooth
  rw [Int.fmod_eq_emod_of_nonneg _ (by omega), Int.emod_eq_of_lt (by omega) (by omega), Int.toNat_natCast]
theorem tooth_mem {g : List Int} (h : 1 ≤ g.length) (k : Int) : tooth g k ∈ g := (tooth_ix h).2
theorem tooth_map {n : Nat} (hn : 1 ≤ n) {F : Int → Int} (hF : Per n F) : tooth ((List.range n).map fun (k : Nat) => F k) = F := by
  funext k
  have hl : ((List.range n).map fun (k : Nat) => F k).length = n := by simp
  have r1 := Int.emod_nonneg k (show (n : Int) ≠ 0 by omega)
  have r2 := Int.emod_lt_of_pos k (show (0 : Int) < n by omega)
  unfold tooth
  rw [Int.fmod_eq_emod_of_nonneg _ (by omega), hl, List.getD_eq_getElem?_getD, List.getElem?_map, List.getElem?_range (by omega)]
  show F ((k % n).toNat : Nat) = F k
  refine hF.eq ⟨-(k / n), ?_⟩
  have := Int.mul_ediv_add_emod k n
  rw [Int.mul_neg]; omega
theorem list_ext_tooth {g h : List Int} (hl : g.length = h.length) (e : ∀ k : Nat, k < g.length → tooth g k = tooth h k) : g = h := by
  refine List.ext_getElem hl fun i h1 h2 => ?_
  have := e i h1
  rw [tooth_nat h1, tooth_nat h2, List.getD_eq_getElem?_getD, List.getD_eq_getElem?_getD, List.getElem?_eq_getElem h1, List.getElem?_eq_getElem h2] at this
  exact this
theorem tooth_rotF {g : List Int} (h : 1 ≤ g.length) (w : Int) : tooth (rot g w) = fun k => tooth g (k + w) := by
  funext k; exact tooth_rot h w k
/-- a row mirrored -/
def mir (g : List Int) : List Int := (List.range g.length).map fun (k : Nat) => tooth g (0 - (k : Int))
theorem mir_len (g : List Int) : (mir g).length = g.length := by unfold mir; simp
theorem tooth_mir {g : List Int} (h : 1 ≤ g.length) : tooth (mir g) = fun k => tooth g (-k) := by
  have P : Per g.length fun k => tooth g (0 - k) := fun k => by
    show tooth g (0 - (k + g.length)) = tooth g (0 - k)
    exact (tooth_per h).eq ⟨-1, by omega⟩
  have := tooth_map h P
  unfold mir
  rw [this]
  funext k
  show tooth g (0 - k) = tooth g (-k)
  rw [Int.zero_sub]
theorem mir_mir {g : List Int} (h : 1 ≤ g.length) : mir (mir g) = g := by
  refine list_ext_tooth (by rw [mir_len, mir_len]) fun k _ => ?_
  rw [tooth_mir (by rw [mir_len]; exact h), tooth_mir h]
  show tooth g (-(-(k : Int))) = _
  rw [Int.neg_neg]
theorem mir_rot {g : List Int} (h : 1 ≤ g.length) (w : Int) : mir (rot g w) = rot (mir g) (0 - w) := by
  refine list_ext_tooth (by rw [mir_len, rot_len, rot_len, mir_len]) fun k _ => ?_
  rw [tooth_mir (by rw [rot_len]; exact h), tooth_rotF h, tooth_rotF (by rw [mir_len]; exact h), tooth_mir h]
  show tooth g (-(k : Int) + w) = tooth g (-((k : Int) + (0 - w)))
  congr 1; omega
theorem Sd_sum {d c s : Nat} (hs : s < d) (X : Int → Int) : Sd (d * c) d X (s : Nat) = Sm c fun m => X ((s + m * d : Nat) : Int) := by
  induction c with
  | zero => rfl
  | succ c ih =>
    show _ = Sm c _ + X ((s + c * d : Nat) : Int)
    rw [← ih]
    unfold Sd PS
    rw [Nat.mul_succ, Sm_app]
    congr 1
    rw [Sm_congr (g := fun i => if i = s then X ((s + c * d : Nat) : Int) else 0) (fun i hi => ?_), Sm_one hs (fun _ => X ((s + c * d : Nat) : Int))]
    have : ((d : Int) ∣ ((d * c + i : Nat) : Int) - (s : Nat)) ↔ i = s := by
      rw [Int.natCast_add, Int.natCast_mul]
      constructor
      · rintro ⟨a, e⟩
        have e2 : (i : Int) = s + d * (a - c) := by rw [Int.mul_sub]; omega
        have e3 : (i : Int) % d = (s : Int) % d := by rw [e2, Int.add_mul_emod_self_left]
        rw [Int.emod_eq_of_lt (by omega) (by omega), Int.emod_eq_of_lt (by omega) (by omega)] at e3
        omega
      · rintro rfl
        exact ⟨c, by omega⟩
    show (if (d : Int) ∣ ((d * c + i : Nat) : Int) - (s : Nat) then X ((d * c + i : Nat) : Int) else 0) = _
    by_cases h : i = s
    · rw [if_pos (this.mpr h), if_pos h, h]
      congr 2
      rw [Nat.mul_comm d c]; omega
    · rw [if_neg (fun z => h (this.mp z)), if_neg h]
theorem pick_iD (x : List Int) (ks : List Nat) : pickN (iD x) ks = iD (pickN x ks) := by
  unfold pickN iD
  induction ks with
  | nil => rfl
  | cons k ks ih =>
    cases e : x[k]? with
    | none => rw [List.filterMap_cons_none (by rw [List.getElem?_map, e]; rfl), List.filterMap_cons_none e, ih]
    | some a => rw [List.filterMap_cons_some (b := .int a) (by rw [List.getElem?_map, e]; rfl), List.filterMap_cons_some e, List.map_cons, ih]
theorem pick_map (x : List Int) {ks : List Nat} (h : ∀ k ∈ ks, k < x.length) : pickN x ks = ks.map fun k => x.getD k 0 := by
  unfold pickN
  induction ks with
  | nil => rfl
  | cons k ks ih =>
    have hk := h k (List.mem_cons_self ..)
    rw [List.filterMap_cons_some (List.getElem?_eq_getElem hk), List.map_cons, ih fun j hj => h j (List.mem_cons_of_mem _ hj), List.getD_eq_getElem?_getD, List.getElem?_eq_getElem hk]; rfl
theorem step_from {d c s : Nat} (hs : s < d) (hc : 0 < c) : stepT (d * c) (some (s : Nat)) none (d : Nat) = (List.range c).map fun m => s + m * d := by
  have hle : d ≤ d * c := Nat.le_mul_of_pos_right d hc
  have e1 : Builtin.Slice.sliceAdjust (some (s : Nat)) none (d : Nat) ((d * c : Nat) : Int) = (((s : Nat) : Int), ((d * c : Nat) : Int)) := by
    unfold Builtin.Slice.sliceAdjust
    dsimp only
    rw [if_neg (by omega), if_neg (by omega), if_neg (by omega)]
    congr 1
    omega
  have e2 : Builtin.Slice.slicePlaces ((s : Nat) : Int) ((d * c : Nat) : Int) (d : Nat) = c := by
    unfold Builtin.Slice.slicePlaces
    rw [if_pos (by omega), if_pos (by omega)]
    have e3 : ((d * c : Nat) : Int) - (s : Nat) - 1 = (d - s - 1 : Int) + d * ((c : Int) - 1) := by
      rw [Int.natCast_mul, Int.mul_sub]; omega
    rw [e3, Int.add_mul_ediv_left _ _ (by omega), Int.ediv_eq_zero_of_lt (by omega) (by omega)]
    omega
  unfold stepT
  rw [e1]
  dsimp only
  rw [e2]
  refine List.map_congr_left fun m _ => ?_
  rw [← Int.natCast_mul, ← Int.natCast_add, Int.toNat_natCast]
theorem bi_sumT {S : Sl} {v : SV} (ns : List Int) (h1 : cont S v = some (.tuple (iD ns))) : biV S "sum" [v] = some (.dat (.int ns.sum)) := by
  show (cont S v).bind (fun y => biSum [y]) = _
  rw [h1]
  show (intsOf (iD ns)).map _ = _
  have e : iD ns = ns.map fun i => .int (id i) := rfl
  rw [e, ints_map id ns, List.map_id]; rfl
/-- a row folded -/
def fdL (x : List Int) (d : Nat) : List Int := (List.range d).map fun (s : Nat) => Sd x.length d (tooth x) s
theorem fdL_len (x : List Int) (d : Nat) : (fdL x d).length = d := by unfold fdL; simp
theorem tooth_fdL (x : List Int) {d : Nat} (hd : 1 ≤ d) : tooth (fdL x d) = Sd x.length d (tooth x) := tooth_map hd (Sd_per _ _ _)
theorem fold_sum {x : List Int} {d s : Nat} (hx : 1 ≤ x.length) (hd : d ∣ x.length) (hs : s < d) : stepD (some (s : Nat)) none (some ((d : Nat) : Int)) (tD x) = some (.dat (tD (pickN x (stepT x.length (some (s : Nat)) none (d : Nat))))) ∧ (pickN x (stepT x.length (some (s : Nat)) none (d : Nat))).sum = Sd x.length d (tooth x) s ∨ x.length > 100000 := by
  by_cases big : x.length > 100000
  · exact .inr big
  obtain ⟨c, hc⟩ := hd
  have cp : 0 < c := Nat.pos_of_ne_zero fun z => by rw [z, Nat.mul_zero] at hc; omega
  have dle : d ≤ d * c := Nat.le_mul_of_pos_right d cp
  have st := step_from hs cp
  have inr : ∀ k ∈ stepT x.length (some ((s : Nat) : Int)) none ((d : Nat) : Int), k < x.length := fun k hk => by
    rw [hc, st] at hk
    obtain ⟨m, hm, rfl⟩ := List.mem_map.mp hk
    have hm := List.mem_range.mp hm
    rw [hc]
    calc s + m * d < d + m * d := by omega
      _ = (m + 1) * d := by rw [Nat.succ_mul]; omega
      _ ≤ c * d := Nat.mul_le_mul_right _ hm
      _ = d * c := Nat.mul_comm _ _
  left
  constructor
  · show (some ((d : Nat) : Int)).bind (fun k => if k = 0 then none else if (pickN (iD x) (stepT (iD x).length _ none k)).length ≤ sizeLine then some (SV.dat (.tuple (pickN (iD x) (stepT (iD x).length _ none k)))) else none) = _
    rw [Option.bind_some, iD_len, pick_iD, if_neg (by omega), if_pos]
    rw [iD_len]
    refine Nat.le_trans (List.length_filterMap_le _ _) ?_
    rw [hc, st, List.length_map, List.length_range]
    have : c ≤ d * c := Nat.le_mul_of_pos_left c (by omega)
    unfold sizeLine; omega
  · rw [pick_map x inr]
    conv => rhs; rw [hc, Sd_sum hs]
    conv => lhs; rw [hc, st]
    rw [List.map_map, Sm_sum]
    refine Sm_congr fun m hm => ?_
    have : s + m * d < x.length := inr _ (by rw [hc, st]; exact List.mem_map.mpr ⟨m, List.mem_range.mpr hm, rfl⟩)
    rw [tooth_nat this]; rfl
/-- the residue of a folded row -/
def dfL (e : Nat) (y : List Int) : List Int := (List.range y.length).map fun (k : Nat) => Df e (tooth y) k
theorem dfL_len (e : Nat) (y : List Int) : (dfL e y).length = y.length := by unfold dfL; simp
theorem tooth_dfL (e : Nat) {y : List Int} (h : 1 ≤ y.length) : tooth (dfL e y) = Df e (tooth y) := tooth_map h (Df_per (tooth_per h))
theorem dfL_zip {e : Nat} {y : List Int} (h : 1 ≤ y.length) : ((y.zip (rot y e)).map fun p => p.2 - p.1) = dfL e y := by
  refine List.ext_getElem (by simp [rot_len, dfL_len]) fun i h1 h2 => ?_
  have g : (dfL e y)[i] = Df e (tooth y) i := by simp [dfL]
  rw [g]
  rw [dfL_len] at h2
  rw [List.getElem_map, List.getElem_zip, rot_at]
  show _ = tooth y (i + e) - tooth y i
  rw [tooth_nat h2, List.getD_eq_getElem?_getD, List.getElem?_eq_getElem h2]; rfl
def rsL (ps : List Nat) (d : Nat) (y : List Int) : List Int := ps.foldl (fun z p => dfL (d / p) z) y
theorem rsL_len (d : Nat) : ∀ (ps : List Nat) (y : List Int), (rsL ps d y).length = y.length
  | [], _ => rfl
  | p :: ps, y => by show (rsL ps d (dfL (d / p) y)).length = _; rw [rsL_len d ps, dfL_len]
theorem tooth_rsL (d : Nat) : ∀ (ps : List Nat) {y : List Int}, 1 ≤ y.length → tooth (rsL ps d y) = Rs ps d (tooth y)
  | [], _, _ => rfl
  | p :: ps, y, h => by
    show tooth (rsL ps d (dfL (d / p) y)) = Rs ps d (Df (d / p) (tooth y))
    rw [tooth_rsL d ps (by rw [dfL_len]; exact h), tooth_dfL _ h]
def nzB (l : List Int) : Bool := l.any fun i => decide (i ≠ 0)
theorem nzB_iff {l : List Int} (h : 1 ≤ l.length) : nzB l = true ↔ ∃ k, tooth l k ≠ 0 := by
  unfold nzB
  rw [List.any_eq_true]
  constructor
  · rintro ⟨i, hi, e⟩
    obtain ⟨k, hk, rfl⟩ := List.getElem_of_mem hi
    refine ⟨k, ?_⟩
    rw [tooth_nat hk, List.getD_eq_getElem?_getD, List.getElem?_eq_getElem hk]
    exact of_decide_eq_true e
  · rintro ⟨k, hk⟩
    exact ⟨_, tooth_mem h k, decide_eq_true hk⟩
def resB (x : List Int) (d : Nat) : Bool := nzB (rsL (pp d) d (fdL x d))
theorem resB_iff {x : List Int} {d : Nat} (hd : 1 ≤ d) : resB x d = true ↔ InS x.length d (tooth x) := by
  have l : 1 ≤ (fdL x d).length := by rw [fdL_len]; exact hd
  unfold resB InS
  rw [nzB_iff (by rw [rsL_len]; exact l), tooth_rsL _ _ l, tooth_fdL _ hd]
/-- the divisors, ascending -/
def dvs (n : Nat) : List Nat := ((List.range n).map (· + 1)).filter fun k => decide (n % k = 0)
theorem dvs_mem {n d : Nat} (hn : 0 < n) : d ∈ dvs n ↔ d ∣ n := by
  unfold dvs
  rw [List.mem_filter, List.mem_map, decide_eq_true_eq, ← Nat.dvd_iff_mod_eq_zero]
  constructor
  · exact fun h => h.2
  · intro h
    have h1 := Nat.pos_of_dvd_of_pos h hn
    have h2 := Nat.le_of_dvd hn h
    exact ⟨⟨d - 1, List.mem_range.mpr (by omega), by omega⟩, h⟩
/-- the spectrum -/
def spL (x : List Int) : List Nat := (dvs x.length).filter (resB x)
theorem spL_mem {x : List Int} (h : 1 ≤ x.length) {d : Nat} : d ∈ spL x ↔ d ∣ x.length ∧ InS x.length d (tooth x) := by
  unfold spL
  rw [List.mem_filter, dvs_mem h]
  exact and_congr_right fun hd => resB_iff (Nat.pos_of_dvd_of_pos hd h)
theorem spL_aff {x y : List Int} (h : 1 ≤ x.length) (hl : y.length = x.length) {ep w : Int} (he : ep = 1 ∨ ep = -1) (e : tooth y = fun k => tooth x (ep * k + w)) : spL y = spL x := by
  unfold spL
  rw [hl]
  refine List.filter_congr fun d hd => ?_
  have hd := (dvs_mem h).mp hd
  have d1 := Nat.pos_of_dvd_of_pos hd h
  rw [Bool.eq_iff_iff, resB_iff d1, resB_iff d1, hl, e]
  exact InS_aff (tooth_per h) hd w he
theorem spL_rot {x : List Int} (h : 1 ≤ x.length) (w : Int) : spL (rot x w) = spL x := spL_aff h (rot_len x w) (w := w) (.inl rfl) (by rw [tooth_rotF h]; funext k; rw [Int.one_mul])
theorem spL_mir {x : List Int} (h : 1 ≤ x.length) : spL (mir x) = spL x := spL_aff h (mir_len x) (w := 0) (.inr rfl) (by rw [tooth_mir h]; funext k; rw [Int.add_zero, Int.neg_mul, Int.one_mul])
end Z
namespace Z
open PySem
theorem at_int {l : List Int} {i : Int} (h0 : 0 ≤ i) (h1 : i < l.length) : atI (iD l) i = some (.int (l.getD i.toNat 0)) := by
  unfold atI ixN
  rw [if_pos h0, if_pos (by rw [iD_len]; exact h1)]
  show (iD l)[i.toNat]? = _
  rw [iD_at, List.getD_eq_getElem?_getD, List.getElem?_eq_getElem (by omega)]; rfl
theorem getD_memI {l : List Int} {i : Nat} (h : i < l.length) : l.getD i 0 ∈ l := by
  rw [List.getD_eq_getElem?_getD, List.getElem?_eq_getElem h]; exact List.getElem_mem _
/-- a loop that can be shown -/
def VL (x : List Int) : Prop := 1 ≤ x.length ∧ x.length ≤ 36 ∧ ∀ i ∈ x, i.natAbs ≤ 10 ^ 30
/-- how great an item of a drawn line is -/
def cB (i : Nat) : Nat := 10 ^ 9 * (10 ^ 5) ^ (i / 12) * 2 ^ (i % 12)
theorem cB_step : ∀ i, i < 36 → 12 ≤ i → 48271 * cB (i - 12) + cB (i - 7) + i ≤ cB i := by decide +kernel
theorem cB_le : ∀ i, i < 36 → 306783379 ≤ cB i ∧ cB i ≤ 10 ^ 23 := by decide +kernel
end Z
namespace Z
/-! ### the least period -/
def lcmN (ms : List Nat) : Nat := ms.foldl Nat.lcm 1
theorem lcmN_snoc (ms : List Nat) (m : Nat) : lcmN (ms ++ [m]) = Nat.lcm (lcmN ms) m := by unfold lcmN; rw [List.foldl_append]; rfl
theorem foldl_lcm_dvd : ∀ (ms : List Nat) (a n : Nat), a ∣ n → (∀ m ∈ ms, m ∣ n) → ms.foldl Nat.lcm a ∣ n
  | [], _, _, h, _ => h
  | m :: ms, a, n, h, hm => foldl_lcm_dvd ms _ n (Nat.lcm_dvd h (hm m (List.mem_cons_self ..))) fun k hk => hm k (List.mem_cons_of_mem _ hk)
theorem lcmN_dvd {ms : List Nat} {n : Nat} (h : ∀ m ∈ ms, m ∣ n) : lcmN ms ∣ n := foldl_lcm_dvd ms 1 n (Nat.one_dvd _) h
theorem foldl_dvd_lcm : ∀ (ms : List Nat) (a : Nat), a ∣ ms.foldl Nat.lcm a ∧ ∀ m ∈ ms, m ∣ ms.foldl Nat.lcm a
  | [], a => ⟨Nat.dvd_refl _, fun _ h => nomatch h⟩
  | k :: ms, a => by
    obtain ⟨h1, h2⟩ := foldl_dvd_lcm ms (Nat.lcm a k)
    refine ⟨Nat.dvd_trans (Nat.dvd_lcm_left a k) h1, fun m hm => ?_⟩
    rcases List.mem_cons.mp hm with rfl | hm
    · exact Nat.dvd_trans (Nat.dvd_lcm_right a m) h1
    · exact h2 m hm
theorem dvd_lcmN {ms : List Nat} {m : Nat} (h : m ∈ ms) : m ∣ lcmN ms := (foldl_dvd_lcm ms 1).2 m h
/-- the least period -/
def mP (x : List Int) : Nat := lcmN (spL x)
theorem mP_dvd {x : List Int} (h : 1 ≤ x.length) : mP x ∣ x.length := lcmN_dvd fun m hm => ((spL_mem h).mp hm).1
theorem mP_pos {x : List Int} (h : 1 ≤ x.length) : 1 ≤ mP x := Nat.pos_of_dvd_of_pos (mP_dvd h) h
theorem mP_per {x : List Int} (h : 1 ≤ x.length) : Per (mP x) (tooth x) := spec_per h (tooth_per h) (mP_dvd h) fun d dn dm hi => dm (dvd_lcmN ((spL_mem h).mpr ⟨dn, hi⟩))
theorem mP_least {x : List Int} (h : 1 ≤ x.length) {m : Nat} (hm : Per m (tooth x)) : mP x ∣ m := by
  have g := hm.gcd (tooth_per h)
  refine Nat.dvd_trans (lcmN_dvd fun d hd => ?_) (Nat.gcd_dvd_left m x.length)
  obtain ⟨dn, hi⟩ := (spL_mem h).mp hd
  by_cases z : d ∣ Nat.gcd m x.length
  · exact z
  · exact absurd hi (per_spec h (tooth_per h) g dn z)
theorem mP_eq {x y : List Int} (hx : 1 ≤ x.length) (hy : 1 ≤ y.length) (e : tooth x = tooth y) : mP x = mP y :=
  Nat.dvd_antisymm (mP_least hx (e ▸ mP_per hy)) (mP_least hy (e ▸ mP_per hx))
theorem per_rot {x : List Int} (h : 1 ≤ x.length) {m : Nat} : rot x m = x ↔ Per m (tooth x) := by
  constructor
  · intro e k
    have := congrFun (tooth_rotF h (m : Int)) k
    rw [e] at this
    exact this.symm
  · intro p
    refine list_ext_tooth (rot_len x m) fun k _ => ?_
    rw [tooth_rotF h]
    exact p k
/-- a row put together of copies -/
theorem tooth_app {x y : List Int} (hx : 1 ≤ x.length) (hy : Per x.length (tooth y)) (hl : x.length ∣ y.length) (hy1 : 1 ≤ y.length) (h : ∀ k : Nat, k < x.length → tooth y k = tooth x k) : tooth y = tooth x := by
  funext k
  have r1 := Int.emod_nonneg k (show (x.length : Int) ≠ 0 by omega)
  have r2 := Int.emod_lt_of_pos k (show (0 : Int) < x.length by omega)
  have z := Int.mul_ediv_add_emod k x.length
  have e : ∀ X : Int → Int, Per x.length X → X k = X ((k % (x.length : Int)).toNat : Nat) := fun X hX => hX.eq ⟨k / x.length, by omega⟩
  rw [e _ hy, e _ (tooth_per hx), h _ (by omega)]
theorem flat_at (x : List Int) : ∀ (c i : Nat), i < c * x.length → ((List.replicate c x).flatten).getD i 0 = x.getD (i % x.length) 0
  | 0, i, h => by omega
  | c + 1, i, h => by
    rw [List.replicate_succ, List.flatten_cons, List.getD_eq_getElem?_getD]
    by_cases hi : i < x.length
    · rw [List.getElem?_append_left hi, Nat.mod_eq_of_lt hi, ← List.getD_eq_getElem?_getD]
    · have hx : 0 < x.length := Nat.pos_of_ne_zero fun z => by rw [z, Nat.mul_zero] at h; omega
      rw [Nat.succ_mul] at h
      rw [List.getElem?_append_right (by omega), ← List.getD_eq_getElem?_getD, flat_at x c (i - x.length) (by omega), ← Nat.mod_eq_sub_mod (by omega)]
theorem tooth_flat {x : List Int} (hx : 1 ≤ x.length) {c : Nat} (hc : 1 ≤ c) : tooth ((List.replicate c x).flatten) = tooth x := by
  have l : ((List.replicate c x).flatten).length = c * x.length := rep_len x c
  have cl : x.length ≤ c * x.length := Nat.le_mul_of_pos_left _ hc
  funext k
  have r1 := Int.emod_nonneg k (show ((c * x.length : Nat) : Int) ≠ 0 by omega)
  have r2 := Int.emod_lt_of_pos k (show (0 : Int) < ((c * x.length : Nat) : Int) by omega)
  have lt : (k % ((c * x.length : Nat) : Int)).toNat < c * x.length := by omega
  have e1 : tooth ((List.replicate c x).flatten) k = ((List.replicate c x).flatten).getD (k % ((c * x.length : Nat) : Int)).toNat 0 := by
    unfold tooth
    rw [l, Int.fmod_eq_emod_of_nonneg _ (by omega)]
  have hm := Nat.mod_lt (k % ((c * x.length : Nat) : Int)).toNat (show 0 < x.length by omega)
  rw [e1, flat_at x c _ lt, ← tooth_nat hm]
  refine (tooth_per hx).eq ?_
  have z1 := Int.mul_ediv_add_emod k ((c * x.length : Nat) : Int)
  have z2 := Nat.mod_add_div (k % ((c * x.length : Nat) : Int)).toNat x.length
  have z3 : (((k % ((c * x.length : Nat) : Int)).toNat % x.length : Nat) : Int) + (x.length : Int) * (((k % ((c * x.length : Nat) : Int)).toNat / x.length : Nat) : Int) = k % ((c * x.length : Nat) : Int) := by
    rw [← Int.natCast_mul, ← Int.natCast_add, z2, Int.toNat_of_nonneg r1]
  refine ⟨-(c * (k / ((c * x.length : Nat) : Int))) - (((k % ((c * x.length : Nat) : Int)).toNat / x.length : Nat) : Int), ?_⟩
  rw [Int.mul_sub, Int.mul_neg]
  have z4 : (x.length : Int) * (c * (k / ((c * x.length : Nat) : Int))) = ((c * x.length : Nat) : Int) * (k / ((c * x.length : Nat) : Int)) := by
    rw [Int.natCast_mul, ← Int.mul_assoc, Int.mul_comm (x.length : Int) (c : Int)]
  rw [z4]
  generalize ((c * x.length : Nat) : Int) * (k / ((c * x.length : Nat) : Int)) = A at *
  generalize (x.length : Int) * (((k % ((c * x.length : Nat) : Int)).toNat / x.length : Nat) : Int) = Bq at *
  omega
end Z
namespace Z
open PySem
theorem eqv_ints : ∀ a b : List Int, PyData.eqvAll (iD a) (iD b) = decide (a = b)
  | [], [] => rfl
  | [], _ :: _ => rfl
  | _ :: _, [] => rfl
  | x :: a, y :: b => by
    have ih := eqv_ints a b
    show (PyData.eqv (.int x) (.int y) && PyData.eqvAll (iD a) (iD b)) = _
    have e : PyData.eqv (.int x) (.int y) = decide (x = y) := by
      have h := Option.some.inj ((show some (PyData.eqv (.int x) (.int y)) = cmpD .Eq (.int x) (.int y) from rfl).trans (eq_int x y))
      exact h
    rw [ih, e, ← Bool.decide_and]
    exact decide_eq_decide.mpr (by simp)
theorem eq_tup (a b : List Int) : cmpD .Eq (tD a) (tD b) = some (decide (a = b)) := by
  show (if flatD (tD a) && flatD (tD b) then some (PyData.eqv (tD a) (tD b)) else none) = _
  rw [flat_tup a, flat_tup b, if_pos (by decide)]
  have : PyData.eqv (.tuple (iD a)) (.tuple (iD b)) = PyData.eqvAll (iD a) (iD b) := by simp [PyData.eqv]
  rw [this, eqv_ints]
theorem cut_rot {x : List Int} {m : Nat} (hx : 1 ≤ x.length) (hx2 : x.length ≤ 900) (hm : m < x.length) : sliceD (some (m : Nat)) none (tD x) = some (.dat (tD (x.drop m))) ∧ sliceD none (some (m : Nat)) (tD x) = some (.dat (tD (x.take m))) ∧ binD .Add (tD (x.drop m)) (tD (x.take m)) = some (.dat (tD (rot x m))) := by
  refine ⟨?_, ?_, ?_⟩
  · show some (SV.dat (.tuple (cut (iD x) (some (m : Nat)) none))) = _
    rw [cut_r (by omega) (by omega), Int.toNat_natCast]
  · show some (SV.dat (.tuple (cut (iD x) none (some (m : Nat))))) = _
    rw [cut_l (by omega) (by omega), Int.toNat_natCast]
  · have := rot_cut hx (m : Nat)
    rw [Int.emod_eq_of_lt (by omega) (by omega), Int.toNat_natCast] at this
    rw [b_tup (le_line (by rw [iD_len, iD_len, List.length_drop, List.length_take]; omega)), iD_app, this]
end Z

/-! Spectra of rows that are thinned, added. -/
namespace Z
open PySem
/-! ### differences at several distances -/
def DfL (ss : List Nat) (X : Int → Int) : Int → Int := ss.foldl (fun Z s => Df s Z) X
theorem DfL_zero : ∀ ss : List Nat, DfL ss (fun _ => 0) = fun _ => 0
  | [] => rfl
  | s :: ss => by
    show DfL ss (Df s fun _ => 0) = _
    rw [show (Df s fun _ => 0) = fun _ => (0 : Int) from by funext k; rfl]
    exact DfL_zero ss
theorem DfL_mul (c : Int) : ∀ (ss : List Nat) (X : Int → Int), DfL ss (fun k => c * X k) = fun k => c * DfL ss X k
  | [], _ => rfl
  | s :: ss, X => by
    show DfL ss (Df s fun k => c * X k) = _
    rw [show (Df s fun k => c * X k) = fun k => c * Df s X k by funext k; unfold Df; rw [Int.mul_sub]]
    exact DfL_mul c ss _
theorem DfL_per {n : Nat} : ∀ (ss : List Nat) {X : Int → Int}, Per n X → Per n (DfL ss X)
  | [], _, h => h
  | _ :: ss, _, h => DfL_per ss (Df_per h)
theorem Df_comm (a b : Nat) (X : Int → Int) : Df a (Df b X) = Df b (Df a X) := by
  funext k
  show X (k + a + b) - X (k + a) - (X (k + b) - X k) = X (k + b + a) - X (k + b) - (X (k + a) - X k)
  rw [show k + (a : Int) + b = k + b + a by omega]; omega
theorem DfL_Df (a : Nat) : ∀ (ss : List Nat) (X : Int → Int), DfL ss (Df a X) = Df a (DfL ss X)
  | [], _ => rfl
  | s :: ss, X => by
    show DfL ss (Df s (Df a X)) = Df a (DfL ss (Df s X))
    rw [Df_comm, DfL_Df a ss]
theorem DfL_kill {s : Nat} : ∀ (ss : List Nat) {X : Int → Int}, s ∈ ss → Per s X → DfL ss X = fun _ => 0
  | [], _, h, _ => nomatch h
  | t :: ss, X, h, hX => by
    show DfL ss (Df t X) = _
    by_cases e : t = s
    · rw [e, Df_zero hX, DfL_zero]
    · rcases List.mem_cons.mp h with z | z
      · exact absurd z.symm e
      · exact DfL_kill ss z (Df_per hX)
theorem Rs_DfL (d : Nat) : ∀ (ps ss : List Nat) (X : Int → Int), Rs ps d (DfL ss X) = DfL ss (Rs ps d X)
  | [], _, _ => rfl
  | p :: ps, ss, X => by
    show Rs ps d (Df (d / p) (DfL ss X)) = DfL ss (Rs ps d (Df (d / p) X))
    rw [← DfL_Df, Rs_DfL d ps]
theorem Sd_DfL {n e : Nat} (hd : e ∣ n) : ∀ (ss : List Nat) {Y : Int → Int}, Per n Y → Sd n e (DfL ss Y) = DfL ss (Sd n e Y)
  | [], _, _ => rfl
  | s :: ss, Y, h => by
    show Sd n e (DfL ss (Df s Y)) = DfL ss (Df s (Sd n e Y))
    rw [Sd_DfL hd ss (Df_per h), Sd_Df hd s h]
/-- if each member of the spectrum divides one of the distances, nothing is left -/
theorem fit {n : Nat} (hn : 0 < n) {X : Int → Int} (h : Per n X) (ss : List Nat) (hs : ∀ d, d ∣ n → InS n d X → ∃ s ∈ ss, d ∣ s) : DfL ss X = fun _ => 0 := by
  have key : ∀ d, d ∣ n → DfL ss (Sd n d X) = fun _ => 0 := by
    intro d
    induction d using Nat.strongRecOn with
    | ind d ih =>
      intro dn
      have dp : 0 < d := Nat.pos_of_dvd_of_pos dn hn
      by_cases z : ∃ s ∈ ss, d ∣ s
      · obtain ⟨s, s1, s2⟩ := z
        exact DfL_kill ss s1 ((Sd_per n d X).dvd s2)
      · have ni : ¬ InS n d X := fun hi => z (hs d dn hi)
        have e0 : Rs (pp d) d (Sd n d X) = fun _ => 0 := by
          funext k
          by_cases e : Rs (pp d) d (Sd n d X) k = 0
          · exact e
          · exact absurd ⟨k, e⟩ ni
        have mem : ∀ p ∈ pp d, 0 < p ∧ p ∣ d := fun p hp => by
          have := (pp_mem dp).mp hp
          exact ⟨by omega, this.2.1⟩
        obtain ⟨c, hc⟩ := dn
        have sub : ∀ p ∈ pp d, Sd n (d / p) (DfL ss (Sd n d X)) = fun _ => 0 := fun p hp => by
          obtain ⟨p0, p1⟩ := mem p hp
          have p2 : 2 ≤ p := ((pp_mem dp).mp hp).1
          have e1 : d / p ∣ d := Nat.div_dvd_of_dvd p1
          have e3 : d / p ∣ n := Nat.dvd_trans e1 ⟨c, hc⟩
          rw [Sd_DfL e3 ss ((Sd_per n d X).dvd ⟨c, hc⟩)]
          have e2 : Sd n (d / p) (Sd n d X) = fun k => c * Sd n (d / p) X k := by
            funext k; rw [hc]; exact Sd_Sd dp e1 X k
          rw [e2, DfL_mul, ih (d / p) (Nat.div_lt_self dp (by omega)) e3]
          funext k; exact Int.mul_zero _
        have p1 : Per 1 (DfL ss (Sd n d X)) := by
          refine per_of_res (g := 1) hn (pp d) mem ⟨c, hc⟩ (DfL_per ss (Sd_per n d X)) (fun p hp => ?_) ?_
          · rw [sub p hp]; intro k; rfl
          · rw [Rs_DfL, e0, DfL_zero]; intro k; rfl
        cases hps : pp d with
        | nil =>
          have e4 : Rs (pp d) d (Sd n d X) = Sd n d X := by rw [hps]; rfl
          rw [← e4, e0, DfL_zero]
        | cons p ps =>
          have hp : p ∈ pp d := by rw [hps]; exact List.mem_cons_self ..
          obtain ⟨p0, p2⟩ := mem p hp
          have e1 : d / p ∣ d := Nat.div_dvd_of_dvd p2
          have ep0 : 0 < d / p := Nat.pos_of_dvd_of_pos e1 dp
          obtain ⟨b, hb⟩ := Nat.dvd_trans e1 ⟨c, hc⟩
          have bp : 0 < b := Nat.pos_of_ne_zero fun z => by rw [z, Nat.mul_zero] at hb; omega
          funext k
          have z1 := Sd_of_per (c := b) ep0 (p1.dvd (Nat.one_dvd (d / p))) k
          rw [← hb, sub p hp] at z1
          rcases Int.mul_eq_zero.mp z1.symm with z | z
          · omega
          · exact z
  have := key n (Nat.dvd_refl n)
  rwa [show Sd n n X = X by funext k; exact Sd_self hn h k] at this
/-- and the other way round -/
theorem fit_conv {n : Nat} (hn : 0 < n) {X : Int → Int} (h : Per n X) (ss : List Nat) (h0 : DfL ss X = fun _ => 0) {d : Nat} (dn : d ∣ n) (hi : InS n d X) : ∃ s ∈ ss, d ∣ s := by
  have dp : 0 < d := Nat.pos_of_dvd_of_pos dn hn
  -- a primitive row: returns by d, its sums over the smaller residues are nothing
  have prim : ∀ p ∈ pp d, ∀ ps, (∀ q ∈ ps, q ∈ pp d) → p ∈ ps → Sd n (d / p) (Rs ps d (Sd n d X)) = fun _ => 0 := by
    intro p hp ps hps hm
    have pm := (pp_mem dp).mp hp
    have e1 : d / p ∣ d := Nat.div_dvd_of_dvd pm.2.1
    have en : d / p ∣ n := Nat.dvd_trans e1 dn
    have comm : ∀ (qs : List Nat) {Y : Int → Int}, Per n Y → Sd n (d / p) (Rs qs d Y) = Rs qs d (Sd n (d / p) Y) := by
      intro qs
      induction qs with
      | nil => intro Y _; rfl
      | cons q qs ih =>
        intro Y hY
        show Sd n (d / p) (Rs qs d (Df (d / q) Y)) = Rs qs d (Df (d / q) (Sd n (d / p) Y))
        rw [ih (Df_per hY), Sd_Df en (d / q) hY]
    rw [comm ps ((Sd_per n d X).dvd dn)]
    exact Rs_kill ps ⟨p, hm, rfl⟩ (Sd_per n (d / p) (Sd n d X))
  have W0 : DfL ss (Rs (pp d) d (Sd n d X)) = fun _ => 0 := by
    rw [← Rs_DfL, ← Sd_DfL dn ss h, h0]
    have : Sd n d (fun _ => 0) = fun _ => 0 := by
      funext k
      have := Sd_mul n d 0 X k
      simp only [Int.zero_mul] at this
      exact this
    rw [this, Rs_zero]
  -- differences at distances that d does not divide keep such rows
  have keep : ∀ (ts : List Nat) (W : Int → Int), (∀ t ∈ ts, ¬ d ∣ t) → Per d W → (∀ p ∈ pp d, Sd n (d / p) W = fun _ => 0) → DfL ts W = (fun _ => 0) → W = fun _ => 0 := by
    intro ts
    induction ts with
    | nil => intro W _ _ _ h; exact h
    | cons t ts ih =>
      intro W ht hW hs hz
      have z : Df t W = fun _ => 0 := ih (Df t W) (fun q hq => ht q (List.mem_cons_of_mem _ hq)) (Df_per hW) (fun p hp => by
        have pm := (pp_mem dp).mp hp
        rw [Sd_Df (Nat.dvd_trans (Nat.div_dvd_of_dvd pm.2.1) dn) t (hW.dvd dn), hs p hp]
        funext k; rfl) hz
      have pt : Per t W := fun k => by
        have := congrFun z k
        unfold Df at this
        omega
      have pg := hW.gcd pt
      obtain ⟨p, hp, hg⟩ := pp_proper dp (Nat.gcd_dvd_left d t) fun e => ht t (List.mem_cons_self ..) (by rw [← e]; exact Nat.gcd_dvd_right d t)
      have pm := (pp_mem dp).mp hp
      have e1 : d / p ∣ d := Nat.div_dvd_of_dvd pm.2.1
      have ep0 : 0 < d / p := Nat.pos_of_dvd_of_pos e1 dp
      obtain ⟨b, hb⟩ := Nat.dvd_trans e1 dn
      have bp : 0 < b := Nat.pos_of_ne_zero fun z => by rw [z, Nat.mul_zero] at hb; omega
      funext k
      have z1 := Sd_of_per (c := b) ep0 (pg.dvd hg) k
      rw [← hb, hs p hp] at z1
      rcases Int.mul_eq_zero.mp z1.symm with z | z
      · omega
      · exact z
  by_cases z : ∃ s ∈ ss, d ∣ s
  · exact z
  · obtain ⟨k, hk⟩ := hi
    have := keep ss (Rs (pp d) d (Sd n d X)) (fun t ht dt => z ⟨t, ht, dt⟩) (Rs_per _ (Sd_per n d X)) (fun p hp => prim p hp (pp d) (fun q hq => hq) hp) W0
    exact absurd (congrFun this k) hk
/-! ### sums in another order -/
theorem bezout (a m : Nat) : ∃ x y : Int, (a : Int) * x + m * y = (Nat.gcd a m : Nat) := by
  induction a, m using Nat.gcd.induction with
  | H0 m => exact ⟨0, 1, by rw [Nat.gcd_zero_left]; omega⟩
  | H1 a m ha ih =>
    obtain ⟨x, y, e⟩ := ih
    rw [Nat.gcd_rec]
    refine ⟨y - (m / a : Nat) * x, x, ?_⟩
    rw [← e]
    have z := Nat.mod_add_div m a
    have z2 : ((m % a : Nat) : Int) = (m : Int) - (a : Int) * ((m / a : Nat) : Int) := by
      have : ((m % a : Nat) : Int) + (a : Int) * ((m / a : Nat) : Int) = (m : Int) := by rw [← Int.natCast_mul, ← Int.natCast_add, z]
      omega
    rw [z2, Int.mul_sub, Int.sub_mul, Int.mul_assoc]
    omega
theorem PS_perm {m : Nat} (hm : 0 < m) {a : Nat} (hc : Nat.gcd a m = 1) {G : Int → Int} (hG : Per m G) : PS m (fun j => G (a * j)) = PS m G := by
  obtain ⟨b, y, e⟩ := bezout a m
  rw [hc] at e
  have e : (a : Int) * b + m * y = 1 := e
  have st : ∀ j : Int, G (a * j) = PS m fun i => if (m : Int) ∣ i - a * j then G i else 0 := fun j => (Sd_self hm hG (a * j)).symm
  rw [PS_congr st]
  unfold PS
  rw [Sm_swap]
  refine Sm_congr fun i _ => ?_
  have o := one_res hm (b * i)
  unfold PS at o
  rw [Sm_congr (g := fun j => G (i : Nat) * if (m : Int) ∣ (j : Int) - b * i then 1 else 0) (fun j _ => ?_), Sm_mulL, o, Int.mul_one]
  show (if (m : Int) ∣ (i : Int) - a * j then G i else 0) = _
  have : ((m : Int) ∣ (i : Int) - a * j) ↔ ((m : Int) ∣ (j : Int) - b * i) := by
    constructor
    · rintro ⟨c, h⟩
      refine ⟨y * j - b * c, ?_⟩
      have h1 : (j : Int) = (a * b + m * y) * j := by rw [e, Int.one_mul]
      have h2 : b * ((i : Int) - a * j) = b * (m * c) := by rw [h]
      rw [Int.mul_sub] at h2 ⊢
      rw [Int.add_mul] at h1
      have h3 : (a : Int) * b * j = b * (a * j) := by rw [Int.mul_comm (a : Int) b, Int.mul_assoc]
      have h4 : b * ((m : Int) * c) = m * (b * c) := by rw [← Int.mul_assoc, Int.mul_comm b, Int.mul_assoc]
      have h5 : (m : Int) * y * j = m * (y * j) := Int.mul_assoc ..
      omega
    · rintro ⟨c, h⟩
      refine ⟨y * i - a * c, ?_⟩
      have h1 : (i : Int) = (a * b + m * y) * i := by rw [e, Int.one_mul]
      have h2 : (a : Int) * ((j : Int) - b * i) = a * (m * c) := by rw [h]
      rw [Int.mul_sub] at h2 ⊢
      rw [Int.add_mul] at h1
      have h3 : (a : Int) * b * i = a * (b * i) := Int.mul_assoc ..
      have h4 : (a : Int) * ((m : Int) * c) = m * (a * c) := by rw [← Int.mul_assoc, Int.mul_comm (a : Int), Int.mul_assoc]
      have h5 : (m : Int) * y * i = m * (y * i) := Int.mul_assoc ..
      omega
  by_cases hd : (m : Int) ∣ (i : Int) - a * j
  · rw [if_pos hd, if_pos (this.mp hd), Int.mul_one]
  · rw [if_neg hd, if_neg (fun z => hd (this.mpr z)), Int.mul_zero]
theorem PS_blocks {m c : Nat} {G : Int → Int} (h : Per m G) : PS (m * c) G = c * PS m G := by
  induction c with
  | zero => show (0 : Int) = ((0 : Nat) : Int) * _; rw [Int.natCast_zero, Int.zero_mul]
  | succ c ih =>
    unfold PS at ih ⊢
    rw [Nat.mul_succ, Sm_app, ih, Int.natCast_add, Int.add_mul]
    congr 1
    show _ = ((1 : Nat) : Int) * _
    rw [Int.natCast_one, Int.one_mul]
    refine Sm_congr fun i _ => ?_
    rw [Int.natCast_add, Int.natCast_mul, Int.add_comm]
    exact h.mul c i
theorem Sd_blocks {m c d : Nat} {Y : Int → Int} (h : Per m Y) (hd : d ∣ m) : Sd (m * c) d Y = fun k => c * Sd m d Y k := by
  funext k
  exact PS_blocks (per_if h hd k)
theorem InS_blocks {m c d : Nat} (hc : 0 < c) {Y : Int → Int} (h : Per m Y) (hd : d ∣ m) : InS (m * c) d Y ↔ InS m d Y := by
  unfold InS
  rw [Sd_blocks h hd, Rs_mul]
  constructor
  · rintro ⟨k, hk⟩
    exact ⟨k, fun z => hk (by show (c : Int) * _ = 0; rw [z, Int.mul_zero])⟩
  · rintro ⟨k, hk⟩
    refine ⟨k, fun z => ?_⟩
    rcases Int.mul_eq_zero.mp (show (c : Int) * Rs (pp d) d (Sd m d Y) k = 0 from z) with z | z
    · omega
    · exact hk z
/-- the members of the spectrum by any common number of ticks -/
theorem spL_memN {x : List Int} (h : 1 ≤ x.length) {n : Nat} (hn : 0 < n) (hd : x.length ∣ n) {d : Nat} : d ∈ spL x ↔ d ∣ n ∧ InS n d (tooth x) := by
  rw [spL_mem h]
  obtain ⟨c, rfl⟩ := hd
  have cp : 0 < c := Nat.pos_of_ne_zero fun z => by rw [z, Nat.mul_zero] at hn; omega
  constructor
  · rintro ⟨a, b⟩
    exact ⟨Nat.dvd_trans a ⟨c, rfl⟩, (InS_blocks cp (tooth_per h) a).mpr b⟩
  · rintro ⟨a, b⟩
    by_cases z : d ∣ x.length
    · exact ⟨z, (InS_blocks cp (tooth_per h) z).mp b⟩
    · exact absurd b (per_spec hn ((tooth_per h).dvd ⟨c, rfl⟩) (tooth_per h) a z)
end Z
namespace Z
/-! ### rows that are thinned -/
theorem Sd_line {d c : Nat} (hd : 0 < d) {Y : Int → Int} (h : Per (d * c) Y) (k : Int) : Sd (d * c) d Y k = PS c fun j => Y (k + d * j) := by
  have e := Sd_sh h ⟨c, rfl⟩ k 0
  rw [Int.zero_add] at e
  rw [← e]
  have z := Sd_sum (c := c) hd (fun i => Y (i + k))
  rw [show ((0 : Nat) : Int) = 0 from rfl] at z
  rw [z]
  refine Sm_congr fun m _ => ?_
  show Y _ = Y _
  rw [Nat.zero_add, Int.natCast_mul, Int.add_comm, Int.mul_comm]
theorem Rs_thin (f d : Nat) : ∀ (ps : List Nat) (Z : Int → Int), Rs ps d (fun k => Z (f * k)) = fun k => DfL (ps.map fun p => f * (d / p)) Z (f * k)
  | [], _ => rfl
  | p :: ps, Z => by
    show Rs ps d (Df (d / p) fun k => Z (f * k)) = fun k => DfL (ps.map fun p => f * (d / p)) (Df (f * (d / p)) Z) (f * k)
    have e : (Df (d / p) fun k => Z (f * k)) = fun k => Df (f * (d / p)) Z (f * k) := by
      funext k
      show Z ((f : Int) * (k + ((d / p : Nat) : Int))) - Z (f * k) = Z (f * k + ((f * (d / p) : Nat) : Int)) - Z (f * k)
      rw [Int.mul_add, Int.natCast_mul]
    rw [e]
    exact Rs_thin f d ps (Df (f * (d / p)) Z)
theorem div_gcd {k f d : Nat} (hk : 0 < k) (h : k ∣ f * d) : k / Nat.gcd k f ∣ d := by
  have g0 : 0 < Nat.gcd k f := Nat.gcd_pos_of_pos_left _ hk
  have c : Nat.gcd (k / Nat.gcd k f) (f / Nat.gcd k f) = 1 := by
    rw [Nat.gcd_div (Nat.gcd_dvd_left k f) (Nat.gcd_dvd_right k f)]; exact Nat.div_self g0
  refine Nat.Coprime.dvd_of_dvd_mul_left c ?_
  obtain ⟨a, ha⟩ := Nat.gcd_dvd_left k f
  obtain ⟨b, hb⟩ := Nat.gcd_dvd_right k f
  obtain ⟨t, ht⟩ := h
  have e1 : k / Nat.gcd k f = a := by conv => lhs; lhs; rw [ha]
                                      exact Nat.mul_div_cancel_left a g0
  have e2 : f / Nat.gcd k f = b := by conv => lhs; lhs; rw [hb]
                                      exact Nat.mul_div_cancel_left b g0
  rw [e1, e2]
  refine ⟨t, Nat.eq_of_mul_eq_mul_left g0 ?_⟩
  calc Nat.gcd k f * (b * d) = (Nat.gcd k f * b) * d := (Nat.mul_assoc ..).symm
    _ = f * d := by rw [← hb]
    _ = k * t := ht
    _ = (Nat.gcd k f * a) * t := by rw [← ha]
    _ = Nat.gcd k f * (a * t) := Nat.mul_assoc ..
theorem Sd_thin {n f d : Nat} (hn : 0 < n) {X : Int → Int} (h : Per n X) (hf : 0 < f) (dn : d ∣ n) : ∃ b : Int, Sd n d (fun k => X (f * k)) = fun k => b * Sd n (Nat.gcd (f * d) n) X (f * k) := by
  have dp := Nat.pos_of_dvd_of_pos dn hn
  have hY : Per n fun k => X (f * k) := fun k => by
    show X ((f : Int) * (k + n)) = X (f * k)
    rw [Int.mul_add, Int.mul_comm (f : Int) (n : Int)]; exact h.mul f _
  have fd : 0 < f * d := Nat.mul_pos hf dp
  have e0 : 0 < Nat.gcd (f * d) n := Nat.gcd_pos_of_pos_left _ fd
  obtain ⟨c, hc⟩ := dn
  obtain ⟨a, ha⟩ := Nat.gcd_dvd_left (f * d) n
  obtain ⟨c2, hc2⟩ := Nat.gcd_dvd_right (f * d) n
  obtain ⟨b, hb⟩ : d ∣ Nat.gcd (f * d) n := Nat.dvd_gcd (Nat.dvd_mul_left _ _) ⟨c, hc⟩
  generalize he : Nat.gcd (f * d) n = e at *
  have c2p : 0 < c2 := Nat.pos_of_ne_zero fun z => by rw [z, Nat.mul_zero] at hc2; omega
  have ac : Nat.gcd a c2 = 1 := by
    have z : Nat.gcd (f * d) n = e * Nat.gcd a c2 := by
      conv => lhs; rw [ha, hc2]
      exact Nat.gcd_mul_left e a c2
    rw [he] at z
    exact Nat.eq_of_mul_eq_mul_left e0 (by rw [Nat.mul_one]; exact z.symm)
  have cb : c = c2 * b := Nat.eq_of_mul_eq_mul_left dp (by rw [← hc, hc2, hb, Nat.mul_assoc, Nat.mul_comm b])
  refine ⟨b, ?_⟩
  funext k
  have G : Per c2 fun j => X (f * k + e * j) := fun j => by
    show X ((f : Int) * k + e * (j + c2)) = X (f * k + e * j)
    rw [show (f : Int) * k + e * (j + c2) = f * k + e * j + n by rw [hc2, Int.natCast_mul, Int.mul_add]; omega, h]
  have Ga : Per c2 fun j => X (f * k + e * (a * j)) := fun j => by
    show X ((f : Int) * k + e * (a * (j + c2))) = X (f * k + e * (a * j))
    rw [show (f : Int) * k + e * (a * (j + c2)) = f * k + e * (a * j) + n * a by
      rw [hc2, Int.natCast_mul, Int.mul_add, Int.mul_add, Int.mul_comm (a : Int) c2, ← Int.mul_assoc (e : Int) c2]; omega, h.mul]
  have l1 : Sd n d (fun k => X (f * k)) k = PS c fun j => X (f * k + e * (a * j)) := by
    have := Sd_line (c := c) dp (Y := fun k => X (f * k)) (by rw [← hc]; exact hY) k
    rw [← hc] at this
    rw [this]
    refine PS_congr fun j => ?_
    show X ((f : Int) * (k + d * j)) = _
    congr 1
    have z : (f : Int) * d = e * a := by rw [← Int.natCast_mul, ha, Int.natCast_mul]
    rw [Int.mul_add, ← Int.mul_assoc, z, Int.mul_assoc]
  have l2 : Sd n e X (f * k) = PS c2 fun j => X (f * k + e * j) := by
    have := Sd_line (c := c2) e0 (Y := X) (by rw [← hc2]; exact h) (f * k)
    rwa [← hc2] at this
  rw [l1, l2, cb, PS_blocks Ga]
  congr 1
  exact PS_perm c2p ac (G := fun j => X (f * k + e * j)) G
/-- the spectrum of a thinned row -/
theorem thin_spec {n f d : Nat} (hn : 0 < n) {X : Int → Int} (h : Per n X) (hf : 0 < f) (dn : d ∣ n) (hi : InS n d fun k => X (f * k)) : ∃ k, k ∣ n ∧ InS n k X ∧ d = k / Nat.gcd k f := by
  by_cases z : ∃ k, k ∣ n ∧ InS n k X ∧ d = k / Nat.gcd k f
  · exact z
  exfalso
  have dp := Nat.pos_of_dvd_of_pos dn hn
  obtain ⟨b, eb⟩ := Sd_thin hn h hf dn
  have en : Nat.gcd (f * d) n ∣ n := Nat.gcd_dvd_right _ _
  have ep : 0 < Nat.gcd (f * d) n := Nat.pos_of_dvd_of_pos en hn
  have ft := fit hn ((Sd_per n (Nat.gcd (f * d) n) X).dvd en) ((pp d).map fun p => f * (d / p)) fun k kn hk => by
    have kp := Nat.pos_of_dvd_of_pos kn hn
    have ke : k ∣ Nat.gcd (f * d) n := by
      by_cases q : k ∣ Nat.gcd (f * d) n
      · exact q
      · exact absurd hk (per_spec hn ((Sd_per n (Nat.gcd (f * d) n) X).dvd en) (Sd_per n _ X) kn q)
    have kX : InS n k X := by
      obtain ⟨c, hc⟩ := en
      obtain ⟨t, ht⟩ := hk
      have e2 : Sd n k (Sd n (Nat.gcd (f * d) n) X) = fun t => c * Sd n k X t := by
        funext t
        have := Sd_Sd (c := c) ep ke X t
        rwa [← hc] at this
      rw [e2, Rs_mul] at ht
      exact ⟨t, fun q => ht (by show (c : Int) * _ = 0; rw [q, Int.mul_zero])⟩
    have kd := div_gcd kp (Nat.dvd_trans ke (Nat.gcd_dvd_left _ _))
    obtain ⟨p, hp, hq⟩ := pp_proper dp kd fun q => z ⟨k, kn, kX, q.symm⟩
    refine ⟨f * (d / p), List.mem_map.mpr ⟨p, hp, rfl⟩, ?_⟩
    have : k = Nat.gcd k f * (k / Nat.gcd k f) := (Nat.mul_div_cancel' (Nat.gcd_dvd_left k f)).symm
    rw [this]
    exact Nat.mul_dvd_mul (Nat.gcd_dvd_right k f) hq
  obtain ⟨t, ht⟩ := hi
  rw [eb, Rs_mul, Rs_thin, ft] at ht
  exact ht (Int.mul_zero _)
theorem thin_same {n P f d : Nat} (hn : 0 < n) {X : Int → Int} (h : Per n X) (hP : Per P X) (Pn : P ∣ n) (hc : Nat.gcd P f = 1) (hf : 0 < f) (dn : d ∣ n) : InS n d (fun k => X (f * k)) ↔ InS n d X := by
  have Pp := Nat.pos_of_dvd_of_pos Pn hn
  have one : ∀ {Z : Int → Int} {g k : Nat}, Per n Z → Per P Z → Nat.gcd P g = 1 → k ∣ n → InS n k Z → k / Nat.gcd k g = k := fun {Z g k} hZ hZP hg kn hk => by
    have kP : k ∣ P := by
      by_cases q : k ∣ P
      · exact q
      · exact absurd hk (per_spec hn hZ hZP kn q)
    have : Nat.gcd k g ∣ 1 := by rw [← hg]; exact Nat.gcd_dvd_gcd_of_dvd_left _ kP
    rw [Nat.dvd_one.mp this, Nat.div_one]
  constructor
  · intro hi
    obtain ⟨k, kn, hk, e⟩ := thin_spec hn h hf dn hi
    rw [e, one h hP hc kn hk]; exact hk
  · intro hi
    obtain ⟨x, y, e⟩ := bezout P f
    rw [hc] at e
    have e : (P : Int) * x + f * y = 1 := e
    have hY : Per n fun k => X (f * k) := fun k => by
      show X ((f : Int) * (k + n)) = X (f * k)
      rw [Int.mul_add, Int.mul_comm (f : Int) (n : Int)]; exact h.mul f _
    have hYP : Per P fun k => X (f * k) := fun k => by
      show X ((f : Int) * (k + P)) = X (f * k)
      rw [Int.mul_add, Int.mul_comm (f : Int) (P : Int)]; exact hP.mul f _
    obtain ⟨g, hg⟩ : ∃ g : Nat, (P : Int) ∣ y - g ∧ 0 < g := by
      have r := Int.emod_nonneg y (show (P : Int) ≠ 0 by omega)
      refine ⟨(y % P).toNat + P, ⟨y / P - 1, ?_⟩, by omega⟩
      have := Int.mul_ediv_add_emod y P
      rw [Int.mul_sub]; omega
    obtain ⟨⟨t, ht⟩, gp⟩ := hg
    have fg : (P : Int) * (x + f * t) + f * g = 1 := by
      have : y = g + P * t := by omega
      rw [this, Int.mul_add] at e
      rw [Int.mul_add]
      have q : (f : Int) * (P * t) = P * (f * t) := by rw [← Int.mul_assoc, Int.mul_comm (f : Int), Int.mul_assoc]
      omega
    have gc : Nat.gcd P g = 1 := by
      have d1 : ((Nat.gcd P g : Nat) : Int) ∣ 1 := by
        rw [← fg]
        exact Int.dvd_add (Int.dvd_trans (Int.natCast_dvd_natCast.mpr (Nat.gcd_dvd_left P g)) (Int.dvd_mul_right ..)) (Int.dvd_trans (Int.natCast_dvd_natCast.mpr (Nat.gcd_dvd_right P g)) (Int.dvd_mul_left ..))
      have : (Nat.gcd P g) ∣ 1 := Int.natCast_dvd_natCast.mp d1
      exact Nat.dvd_one.mp this
    have back : (fun k => X (f * (g * k))) = X := by
      funext k
      refine hP.eq ⟨-(k * (x + f * t)), ?_⟩
      have e3 : (f : Int) * (g * k) = (f * g) * k := (Int.mul_assoc ..).symm
      have e4 : (f : Int) * g = 1 - P * (x + f * t) := by omega
      rw [e3, e4, Int.sub_mul, Int.one_mul, Int.mul_neg, Int.mul_assoc, Int.mul_comm (x + (f : Int) * t) k]
      omega
    have hi2 : InS n d fun k => (fun k => X (f * k)) (g * k) := by rw [show (fun k => (fun k => X (f * k)) ((g : Int) * k)) = X from back]; exact hi
    obtain ⟨k, kn, hk, e5⟩ := thin_spec hn hY gp dn hi2
    rw [e5, one hY hYP gc kn hk]; exact hk
end Z

/-! What is shown, by the number of its parts; long comprehensions; sums of rows. -/
namespace Z
open PySem
/-- shown, not deep, of at most b parts -/
def shK (d : D) (dp b : Nat) : Prop := d.showable = true ∧ d.leavesShort 100 = true ∧ d.bulk ≤ b ∧ d.depth ≤ dp
theorem shK_of {d : D} {dp w b : Nat} (h : shC d dp w) (hb : d.bulk ≤ b) : shK d dp b := ⟨h.1, h.2.1, hb, h.2.2.2⟩
theorem shK_int {i : Int} (h : i.natAbs < 10 ^ 99) : shK (.int i) 0 0 := shK_of (shC_int h) (by unfold PyData.bulk; exact Nat.le_refl _)
theorem allK {ds : List D} {n : Nat} (h : ∀ d ∈ ds, d.showable = true ∧ d.leavesShort 100 = true ∧ d.bulk ≤ n) : PyData.showableAll ds = true ∧ PyData.leavesShortAll 100 ds = true ∧ PyData.bulkAll ds ≤ ds.length * (n + 1) := by
  induction ds with
  | nil => exact ⟨rfl, rfl, Nat.zero_le _⟩
  | cons a r ih =>
    obtain ⟨i1, i2, i3⟩ := ih fun d hd => h d (List.mem_cons_of_mem _ hd)
    obtain ⟨a1, a2, a3⟩ := h a (List.mem_cons_self ..)
    refine ⟨?_, ?_, ?_⟩
    · unfold PyData.showableAll; rw [a1, i1]; rfl
    · unfold PyData.leavesShortAll; rw [a2, i2]; rfl
    · unfold PyData.bulkAll
      rw [List.length_cons, Nat.succ_mul]; omega
theorem shK_tup {ds : List D} {dp w n : Nat} (h : ∀ d ∈ ds, shK d dp w) (hl : ds.length ≤ n) : shK (.tuple ds) (dp + 1) (n * (w + 1)) := by
  obtain ⟨a, b, c⟩ := allK (n := w) fun d hd => ⟨(h d hd).1, (h d hd).2.1, (h d hd).2.2.1⟩
  have e := depth_all (n := dp) fun d hd => (h d hd).2.2.2
  refine ⟨by unfold PyData.showable; exact a, by unfold PyData.leavesShort; exact b, ?_, ?_⟩
  · unfold PyData.bulk; exact Nat.le_trans c (Nat.mul_le_mul_right _ hl)
  · unfold PyData.depth; omega
theorem shK_lst {ds : List D} {dp w n : Nat} (h : ∀ d ∈ ds, shK d dp w) (hl : ds.length ≤ n) : shK (.list ds) (dp + 1) (n * (w + 1)) := by
  obtain ⟨a, b, c⟩ := allK (n := w) fun d hd => ⟨(h d hd).1, (h d hd).2.1, (h d hd).2.2.1⟩
  have e := depth_all (n := dp) fun d hd => (h d hd).2.2.2
  refine ⟨by unfold PyData.showable; exact a, by unfold PyData.leavesShort; exact b, ?_, ?_⟩
  · unfold PyData.bulk; exact Nat.le_trans c (Nat.mul_le_mul_right _ hl)
  · unfold PyData.depth; omega
theorem repK {d : D} {dp w : Nat} (h : shK d dp w) (h2 : dp ≤ 20) (h3 : w ≤ 160000) : reprD d = some (.str d.shown) := by
  have z := PyData.shown_le_bulk 100 (by decide) d h.2.1
  have h4 := h.2.2.1
  have h5 := h.2.2.2
  have l : d.shown.length ≤ sizeLine := by
    have h5 : (100 + 2) * d.bulk ≤ 102 * 160000 := Nat.mul_le_mul (by decide) (by omega)
    unfold sizeLine; omega
  unfold reprD
  rw [h.1, decide_eq_true (show d.depth ≤ 20 by omega), decide_eq_true l]; rfl
theorem shK_ints {l : List Int} {n : Nat} (h : ∀ x ∈ l, x.natAbs < 10 ^ 99) (hl : l.length ≤ n) : shK (.tuple (iD l)) 1 (n * 1) := by
  refine shK_tup (dp := 0) (w := 0) (fun d hd => ?_) (by rw [iD_len]; exact hl)
  obtain ⟨x, hx, rfl⟩ := List.mem_map.mp hd
  exact shK_int (h x hx)
theorem repK_same {d : D} {k dp w : Nat} (h : shK d dp w) (h2 : dp ≤ 19) (h3 : k * (w + 1) ≤ 160000) : reprD (.list (List.replicate k d)) = some (.str (PyData.shown (.list (List.replicate k d)))) :=
  repK (shK_lst (n := k) (fun e he => by rw [List.eq_of_mem_replicate he]; exact h) (by rw [List.length_replicate]; exact Nat.le_refl _)) (by omega) h3
/-! long comprehensions -/
theorem lc_mapW {α : Type} {turn : D → Sl → O (Option D)} {S : Sl} {q : α → D} {f : α → D} : ∀ {ws : List α} {acc : List D}, (∀ w ∈ ws, turn (q w) S = .ok (some (f w)) S) → acc.length + ws.length ≤ 100000 → lcL turn (ws.map q) acc S = .ok (acc ++ ws.map f) S
  | [], acc, _, _ => by rw [List.map_nil, List.map_nil, List.append_nil]; rfl
  | a :: r, acc, h, l => by
    rw [List.length_cons] at l
    rw [List.map_cons, List.map_cons]
    unfold lcL
    rw [h a (List.mem_cons_self ..)]
    dsimp only
    rw [if_pos (by unfold sizeLine; omega), lc_mapW (fun w hw => h w (List.mem_cons_of_mem _ hw)) (by rw [List.length_append, List.length_singleton]; omega), List.append_assoc]; rfl
theorem rng0 (n : Nat) : rng 0 n = (List.range n).map fun i : Nat => PyData.int (i : Nat) := by
  unfold rng
  exact List.map_congr_left fun k _ => by show PyData.int (0 + (k : Int)) = _; rw [Int.zero_add]
/-! the spectrum of a sum -/
theorem InS_add {n d : Nat} {X Y : Int → Int} (h : InS n d fun k => X k + Y k) : InS n d X ∨ InS n d Y := by
  obtain ⟨k, hk⟩ := h
  have e : Sd n d (fun k => X k + Y k) = fun k => Sd n d X k + Sd n d Y k := by funext k; exact Sd_add n d X Y k
  rw [e, Rs_add] at hk
  by_cases z : Rs (pp d) d (Sd n d X) k = 0
  · exact .inr ⟨k, fun z2 => hk (by show _ + _ = _; rw [z, z2]; rfl)⟩
  · exact .inl ⟨k, z⟩
theorem InS_zero {n d : Nat} : ¬ InS n d fun _ => 0 := by
  rintro ⟨k, hk⟩
  have : Sd n d (fun _ => 0) = fun _ => 0 := by
    funext k
    have := Sd_mul n d 0 (fun _ => 0) k
    simp only [Int.zero_mul] at this
    exact this
  rw [this, Rs_zero] at hk
  exact hk rfl
theorem InS_sumG {n d : Nat} : ∀ gs : List (List Int), InS n d (fun k => sumG gs k) → ∃ g ∈ gs, InS n d (tooth g)
  | [], h => absurd h (by exact InS_zero)
  | g :: gs, h => by
    have e : (fun k => sumG (g :: gs) k) = fun k => tooth g k + sumG gs k := by funext k; rfl
    rw [e] at h
    rcases InS_add h with h | h
    · exact ⟨g, List.mem_cons_self .., h⟩
    · obtain ⟨g', m, h'⟩ := InS_sumG gs h
      exact ⟨g', List.mem_cons_of_mem _ m, h'⟩
theorem sumG_per {n : Nat} : ∀ gs : List (List Int), (∀ g ∈ gs, 1 ≤ g.length ∧ g.length ∣ n) → Per n fun k => sumG gs k
  | [], _ => fun _ => rfl
  | g :: gs, h => fun k => by
    show tooth g (k + n) + sumG gs (k + n) = tooth g k + sumG gs k
    obtain ⟨h1, h2⟩ := h g (List.mem_cons_self ..)
    rw [(tooth_per h1).dvd h2 k, show sumG gs (k + n) = sumG gs k from sumG_per gs (fun g hg => h g (List.mem_cons_of_mem _ hg)) k]
/-- the loop of a machine -/
def lpG (gs : List (List Int)) (L : Nat) : List Int := (List.range L).map fun (k : Nat) => sumG gs k
theorem lpG_len (gs : List (List Int)) (L : Nat) : (lpG gs L).length = L := by unfold lpG; simp
theorem tooth_lpG {gs : List (List Int)} {L : Nat} (hL : 1 ≤ L) (h : ∀ g ∈ gs, 1 ≤ g.length ∧ g.length ∣ L) : tooth (lpG gs L) = fun k => sumG gs k := tooth_map hL (sumG_per gs h)
theorem sumG_bd {B : Nat} {gs : List (List Int)} (h : ∀ g ∈ gs, 1 ≤ g.length ∧ ∀ x ∈ g, x.natAbs ≤ B) (k : Int) : (sumG gs k).natAbs ≤ gs.length * B := by
  unfold sumG
  have := sum_b (B := B) (ns := gs.map fun g => tooth g k) fun n hn => by
    obtain ⟨g, hg, rfl⟩ := List.mem_map.mp hn
    exact (h g hg).2 _ (tooth_mem (h g hg).1 k)
  rwa [List.length_map] at this
end Z

set_option maxHeartbeats 8000000
/-! The spectrum of a product: a row is, up to a factor, a sum of rows whose periods are members that cover its spectrum. -/
namespace Z
open PySem
theorem per_up {d n : Nat} {X : Int → Int} (h : Per d X) (hd : d ∣ n) : Per n X := fun k => by
  obtain ⟨c, rfl⟩ := hd
  rw [Int.natCast_mul]
  exact h.mulN c k
theorem InS_cut {n e : Nat} {c : Int} {X : Int → Int} (h : InS n e fun k => c * X k) : InS n e X := by
  obtain ⟨k, hk⟩ := h
  have q : Sd n e (fun k => c * X k) = fun k => c * Sd n e X k := by funext k; exact Sd_mul n e c X k
  rw [q, Rs_mul] at hk
  exact ⟨k, fun z => hk (by show c * _ = 0; rw [z, Int.mul_zero])⟩
theorem InS_times {n e : Nat} {c : Int} (hc : c ≠ 0) {X : Int → Int} (h : InS n e X) : InS n e fun k => c * X k := by
  obtain ⟨k, hk⟩ := h
  have q : Sd n e (fun k => c * X k) = fun k => c * Sd n e X k := by funext k; exact Sd_mul n e c X k
  refine ⟨k, ?_⟩
  rw [q, Rs_mul]
  exact Int.mul_ne_zero hc hk
/-- what is left of a row when its part of period d is taken away -/
theorem part_off {d c : Nat} (hd : 0 < d) (hc : 0 < c) {X : Int → Int} (h : Per (d * c) X) : Per (d * c) (fun k => (c : Int) * X k - Sd (d * c) d X k) ∧ ∀ e, e ∣ d * c → InS (d * c) e (fun k => (c : Int) * X k - Sd (d * c) d X k) → ¬ e ∣ d ∧ InS (d * c) e X := by
  have n0 : 0 < d * c := Nat.mul_pos hd hc
  have ps := per_up (Sd_per (d * c) d X) (Nat.dvd_mul_right d c)
  refine ⟨fun k => by show (c : Int) * X (k + _) - Sd _ d X (k + _) = _; rw [h k, ps k], fun e en hi => ?_⟩
  have ne : ¬ e ∣ d := fun ed => by
    obtain ⟨k, hk⟩ := hi
    have q : Sd (d * c) e (fun k => (c : Int) * X k - Sd (d * c) d X k) = fun _ => 0 := by
      funext k
      rw [Sd_sub, Sd_mul, Sd_Sd hd ed]; omega
    rw [q] at hk
    exact InS_zero (n := d * c) (d := e) ⟨k, by
      have q2 : Sd (d * c) e (fun _ => (0 : Int)) = fun _ => 0 := by
        funext k
        have := Sd_mul (d * c) e 0 (fun _ => (0 : Int)) k
        simpa using this
      rw [q2]; exact hk⟩
  refine ⟨ne, ?_⟩
  have q : (fun k => (c : Int) * X k - Sd (d * c) d X k) = fun k => (c : Int) * X k + (-1) * Sd (d * c) d X k := by funext k; omega
  rw [q] at hi
  rcases InS_add (X := fun k => (c : Int) * X k) (Y := fun k => (-1) * Sd (d * c) d X k) hi with z | z
  · exact InS_cut z
  · exact absurd (InS_cut z) (per_spec n0 ps (Sd_per (d * c) d X) en ne)
/-- a row, up to a factor, by rows of given periods -/
theorem by_parts {n : Nat} (hn : 0 < n) : ∀ (ds : List Nat) (X : Int → Int), (∀ d ∈ ds, d ∣ n) → Per n X → (∀ e, e ∣ n → InS n e X → ∃ d ∈ ds, e ∣ d) → ∃ (c : Int) (Xs : List (Nat × (Int → Int))), c ≠ 0 ∧ (∀ p ∈ Xs, p.1 ∈ ds ∧ Per p.1 p.2) ∧ ∀ k, c * X k = (Xs.map fun p => p.2 k).sum
  | [], X, _, h, hs => by
    refine ⟨1, [], by decide, (by intro p hp; cases hp), fun k => ?_⟩
    have none : ∀ e, e ∣ n → ¬ InS n e X := fun e en hi => by obtain ⟨d, hd, _⟩ := hs e en hi; cases hd
    have p1 : Per 1 X := spec_per hn h (Nat.one_dvd n) fun d dn _ => none d dn
    have z : Sd n 1 X k = 0 := Classical.byContradiction fun c => none 1 (Nat.one_dvd n) ⟨k, c⟩
    have e := Sd_of_per (c := n) (Nat.one_pos) p1 k
    rw [Nat.one_mul, z] at e
    have : X k = 0 := by
      rcases Int.mul_eq_zero.mp e.symm with a | a
      · omega
      · exact a
    rw [this]; rfl
  | d :: ds, X, hd, h, hs => by
    obtain ⟨c0, rfl⟩ := hd d (List.mem_cons_self ..)
    have dp : 0 < d := Nat.pos_of_ne_zero fun z => by rw [z, Nat.zero_mul] at hn; omega
    have cp : 0 < c0 := Nat.pos_of_ne_zero fun z => by rw [z, Nat.mul_zero] at hn; omega
    obtain ⟨pn, sp⟩ := part_off dp cp h
    obtain ⟨c, Xs, hc, hX, e⟩ := by_parts hn ds (fun k => (c0 : Int) * X k - Sd (d * c0) d X k) (fun y hy => hd y (List.mem_cons_of_mem _ hy)) pn fun y yn hy => by
      obtain ⟨nd, iy⟩ := sp y yn hy
      obtain ⟨f, hf, yf⟩ := hs y yn iy
      rcases List.mem_cons.mp hf with rfl | hf
      · exact absurd yf nd
      · exact ⟨f, hf, yf⟩
    refine ⟨c * c0, (d, fun k => c * Sd (d * c0) d X k) :: Xs, Int.mul_ne_zero hc (by omega), fun p hp => ?_, fun k => ?_⟩
    · rcases List.mem_cons.mp hp with rfl | hp
      · exact ⟨List.mem_cons_self .., fun k => by show c * Sd _ d X (k + _) = _; rw [Sd_per (d * c0) d X k]⟩
      · exact ⟨List.mem_cons_of_mem _ (hX p hp).1, (hX p hp).2⟩
    · have z : c * ((c0 : Int) * X k - Sd (d * c0) d X k) = (Xs.map fun p => p.2 k).sum := e k
      show c * c0 * X k = c * Sd (d * c0) d X k + (Xs.map fun p => p.2 k).sum
      rw [← z, Int.mul_sub, Int.mul_assoc]; omega
theorem InS_list {n e : Nat} : ∀ Xs : List (Int → Int), InS n e (fun k => (Xs.map fun f => f k).sum) → ∃ f ∈ Xs, InS n e f
  | [], h => absurd h InS_zero
  | f :: r, h => by
    have h : InS n e fun k => f k + (r.map fun f => f k).sum := h
    rcases InS_add h with z | z
    · exact ⟨f, List.mem_cons_self .., z⟩
    · obtain ⟨g, hg, hi⟩ := InS_list r z
      exact ⟨g, List.mem_cons_of_mem _ hg, hi⟩
theorem sum_times (a : Int) : ∀ l : List Int, a * l.sum = (l.map fun b => a * b).sum
  | [] => Int.mul_zero a
  | b :: r => by
    show a * (b + r.sum) = a * b + (r.map fun b => a * b).sum
    rw [Int.mul_add, sum_times a r]
/-- the spectrum of a product -/
theorem spec_times {n e : Nat} (hn : 0 < n) {X Y : Int → Int} (hX : Per n X) (hY : Per n Y) {ds fs : List Nat} (hd : ∀ d ∈ ds, d ∣ n) (hf : ∀ d ∈ fs, d ∣ n) (cX : ∀ e, e ∣ n → InS n e X → ∃ d ∈ ds, e ∣ d) (cY : ∀ e, e ∣ n → InS n e Y → ∃ d ∈ fs, e ∣ d) (en : e ∣ n) (h : InS n e fun k => X k * Y k) : ∃ d ∈ ds, ∃ f ∈ fs, e ∣ Nat.lcm d f := by
  obtain ⟨c, Xs, hc, pX, eX⟩ := by_parts hn ds X hd hX cX
  obtain ⟨b, Ys, hb, pY, eY⟩ := by_parts hn fs Y hf hY cY
  have z := InS_times (Int.mul_ne_zero hc hb) h
  have q : (fun k => c * b * (X k * Y k)) = fun k => ((Xs.map fun p => fun k => p.2 k * (b * Y k)).map fun f => f k).sum := by
    funext k
    have a : c * b * (X k * Y k) = b * Y k * (c * X k) := by
      rw [Int.mul_comm c b, Int.mul_assoc, ← Int.mul_assoc c, Int.mul_comm (c * X k), ← Int.mul_assoc]
    rw [a, eX k, sum_times, List.map_map, List.map_map]
    congr 1
    exact List.map_congr_left fun p _ => Int.mul_comm _ _
  rw [q] at z
  obtain ⟨g, hg, hi⟩ := InS_list _ z
  obtain ⟨p, hp, rfl⟩ := List.mem_map.mp hg
  have q2 : (fun k => p.2 k * (b * Y k)) = fun k => ((Ys.map fun r => fun k => p.2 k * r.2 k).map fun f => f k).sum := by
    funext k
    rw [eY k, sum_times, List.map_map, List.map_map]; rfl
  rw [q2] at hi
  obtain ⟨g2, hg2, hi2⟩ := InS_list _ hi
  obtain ⟨r, hr, rfl⟩ := List.mem_map.mp hg2
  obtain ⟨p1, p2⟩ := pX p hp
  obtain ⟨r1, r2⟩ := pY r hr
  refine ⟨p.1, p1, r.1, r1, ?_⟩
  apply Classical.byContradiction
  intro nd
  have pl : Per (Nat.lcm p.1 r.1) fun k => p.2 k * r.2 k := fun k => by
    show p.2 (k + _) * r.2 (k + _) = _
    rw [per_up p2 (Nat.dvd_lcm_left _ _) k, per_up r2 (Nat.dvd_lcm_right _ _) k]
  exact per_spec hn (per_up pl (Nat.lcm_dvd (hd _ p1) (hf _ r1))) pl en nd hi2
end Z

set_option maxHeartbeats 4000000
/-! Lists by their places; general comprehensions; comparisons with itself. -/
namespace Z
open PySem
theorem iteP {α : Type} {a b : Prop} [Decidable a] [Decidable b] {x y : α} (h : a ↔ b) : (if a then x else y) = if b then x else y := by
  by_cases z : a
  · rw [if_pos z, if_pos (h.mp z)]
  · rw [if_neg z, if_neg fun w => z (h.mpr w)]
theorem lc_G {α : Type} {turn : D → Sl → O (Option D)} {S : Sl} {q : α → D} {p : α → Bool} {f : α → D} {ws : List α} (h : ∀ w ∈ ws, turn (q w) S = .ok (if p w then some (f w) else none) S) (hl : ws.length ≤ 10000) : lcL turn (ws.map q) [] S = .ok ((ws.filter p).map f) S := by
  have key : ∀ (l : List α) (acc : List D), (∀ w ∈ l, turn (q w) S = .ok (if p w then some (f w) else none) S) → acc.length + l.length ≤ 10000 → lcL turn (l.map q) acc S = .ok (acc ++ (l.filter p).map f) S := by
    intro l
    induction l with
    | nil => intro acc _ _; show _ = O.ok (acc ++ []) S; rw [List.append_nil]; rfl
    | cons a r ih =>
      intro acc h hl
      rw [List.length_cons] at hl
      have e := h a (List.mem_cons_self ..)
      have hr : ∀ w ∈ r, turn (q w) S = .ok (if p w then some (f w) else none) S := fun w hw => h w (List.mem_cons_of_mem _ hw)
      show lcL turn (q a :: r.map q) acc S = _
      cases z : p a with
      | true =>
        rw [z, if_pos rfl] at e
        rw [lcL, e]
        show (if acc.length < sizeLine then lcL turn (r.map q) (acc ++ [f a]) S else .bad) = _
        rw [if_pos (by unfold sizeLine; omega), ih _ hr (by rw [List.length_append, List.length_singleton]; omega), List.filter_cons_of_pos z, List.append_assoc]; rfl
      | false =>
        rw [z, if_neg (by decide)] at e
        rw [lc_n e, ih _ hr (by omega), List.filter_cons_of_neg (by rw [z]; decide)]
  have := key ws [] h (by simpa using hl)
  rwa [List.nil_append] at this
theorem set_map {n p : Nat} {f : Nat → Int} {v : Int} (h : p < n) : (iD ((List.range n).map f)).set p (.int v) = iD ((List.range n).map fun k => if k = p then v else f k) := by
  refine List.ext_getElem (by simp [iD_len]) fun i h1 h2 => ?_
  rw [List.getElem_set]
  simp only [iD, List.getElem_map, List.getElem_range]
  split
  · rename_i e; rw [if_pos e.symm]
  · rename_i e; rw [if_neg fun z => e z.symm]
theorem at_mapD {n p : Nat} {f : Nat → Int} (h : p < n) : atI (iD ((List.range n).map f)) (p : Nat) = some (.int (f p)) := by
  rw [at_natD (by rw [iD_len, List.length_map, List.length_range]; exact h)]
  simp only [iD, List.getElem_map, List.getElem_range]
theorem at_iD {l : List Int} {p : Nat} (h : p < l.length) : atI (iD l) (p : Nat) = some (.int l[p]) := by
  rw [at_natD (by rw [iD_len]; exact h)]
  simp only [iD, List.getElem_map]
theorem ixN_nat {n p : Nat} (h : p < n) : ixN n (p : Nat) = some p := by
  unfold ixN
  rw [if_pos (by omega), if_pos (by omega), Int.toNat_natCast]
theorem eq_lstS (a : List Int) : cmpD .Eq (.list (iD a)) (.list (iD a)) = some true := by
  have h := eq_tup a a
  have h2 : cmpD .Eq (.tuple (iD a)) (.tuple (iD a)) = if flatD (.tuple (iD a)) && flatD (.tuple (iD a)) then some (PyData.eqv (.tuple (iD a)) (.tuple (iD a))) else none := rfl
  have h : cmpD .Eq (.tuple (iD a)) (.tuple (iD a)) = some (decide (a = a)) := h
  rw [h2, flat_tup a, if_pos (by decide), decide_eq_true rfl] at h
  have e : PyData.eqv (.tuple (iD a)) (.tuple (iD a)) = PyData.eqvAll (iD a) (iD a) := by simp [PyData.eqv]
  have e2 : PyData.eqv (.list (iD a)) (.list (iD a)) = PyData.eqvAll (iD a) (iD a) := by simp [PyData.eqv]
  rw [e] at h
  have f : flatD (.list (iD a)) = true := flat_tup a
  show (if flatD (.list (iD a)) && flatD (.list (iD a)) then some (PyData.eqv (.list (iD a)) (.list (iD a))) else none) = _
  rw [f, if_pos (by decide), e2]; exact h
theorem ne_tup (a : List Int) : cmpD .NotEq (.tuple (iD a)) (.tuple (iD a)) = some false := ne_self (S := []) (flat_tup a)
theorem q_AndB2 {t u : Sl → O Bool} {S : Sl} {b1 b2 : Bool} (h1 : t S = .ok b1 S) (h2 : u S = .ok b2 S) : qAnd t u S = .ok (b1 && b2) S := by
  cases b1 with
  | true => exact q_AndT h1 h2
  | false => exact q_AndF h1
theorem r_TupR {f : Sl → O SV} {S S1 : Sl} {j : Int} {ds : List D} (h1 : f S = .ok (.dat (.int j)) S1) (h2 : (small j && decide (j.toNat ≤ sizeLine)) = true) (h3 : rng 0 j.toNat = ds) : xTupR f S = .ok (.dat (.tuple ds)) S1 := by
  unfold xTupR
  rw [h1]
  show tupR (.dat (.int j)) S1 = _
  show (if (small j && decide (j.toNat ≤ sizeLine)) = true then O.ok (SV.dat (.tuple (rng 0 j.toNat))) S1 else .bad) = _
  rw [if_pos h2, h3]
theorem cutD_to {xs : List D} {k : Nat} (h : k ≤ xs.length) : cut xs none (some (k : Nat)) = xs.take k := by
  have e : sIx xs.length xs.length (some (k : Nat)) = k := by
    show (if ((k : Nat) : Int) < 0 then (((k : Nat) : Int) + (xs.length : Nat)).toNat else min ((k : Nat) : Int).toNat xs.length) = k
    rw [if_neg (by omega), Int.toNat_natCast]; omega
  unfold cut
  rw [e]
  show (xs.drop 0).take (k - 0) = _
  rw [List.drop_zero, Nat.sub_zero]
theorem cutD_from {xs : List D} {k : Nat} (h : k ≤ xs.length) : cut xs (some (k : Nat)) none = xs.drop k := by
  have e : sIx xs.length 0 (some (k : Nat)) = k := by
    show (if ((k : Nat) : Int) < 0 then (((k : Nat) : Int) + (xs.length : Nat)).toNat else min ((k : Nat) : Int).toNat xs.length) = k
    rw [if_neg (by omega), Int.toNat_natCast]; omega
  unfold cut
  rw [e]
  show (xs.drop k).take (xs.length - k) = _
  rw [List.take_of_length_le (by rw [List.length_drop]; exact Nat.le_refl _)]
theorem iD_take (l : List Int) (k : Nat) : (iD l).take k = iD (l.take k) := List.map_take.symm
theorem iD_drop (l : List Int) (k : Nat) : (iD l).drop k = iD (l.drop k) := List.map_drop.symm
/-- the first item that is no integer -/
theorem find_odd (l : List Int) {odd : D} (r : List D) (h : isI odd = false) : (iD l ++ odd :: r).findIdx? (fun y => !isI y) = some l.length := by
  refine List.findIdx?_eq_some_iff_getElem.mpr ⟨by rw [List.length_append, iD_len, List.length_cons]; omega, ?_, fun j hj => ?_⟩
  · rw [List.getElem_append_right (by rw [iD_len]; exact Nat.le_refl _)]
    simp [iD_len, h]
  · rw [List.getElem_append_left (by rw [iD_len]; exact hj)]
    have : ∃ n, (iD l)[j]'(by rw [iD_len]; exact hj) = .int n := by
      unfold iD
      rw [List.getElem_map]; exact ⟨_, rfl⟩
    obtain ⟨n, e⟩ := this
    rw [e]; exact fun z => by cases z
end Z

set_option maxHeartbeats 0
namespace Z
namespace L
open PySem PySem.Spec PyProof.Rows L2
abbrev pr : PySem.Program := PySem.Challenge.pw_sumwheels_k42_loops_checked_and_folded
abbrev lw : PySem.W.OpenLaw := PySem.Challenge.rw_sumwheels_k42_loops_checked_and_folded
def tp (i : Nat) : Stmt := pr.main.body.getD i (.Pass ⟨0, 0, 0, 0⟩)
def clB : Stmt → List Stmt
  | .ClassDef _ _ _ b _ _ _ _ _ _ _ => b
  | _ => []
def dsc : Dsc where
  cls := [("InvalidLoop", ⟨"position", some .none⟩), ("InvalidNumber", ⟨"value", none⟩)]
  vals := [("MAX_NUMBER", (.int 5040))]
  bis := ["len", "min", "sum", "tuple", "repr", "isinstance", "range", "enumerate", "int", "bool"]
  tyO := ["WheelError", "RunError", "InvalidLoop", "InvalidNotes", "InvalidMachine", "InvalidNumber", "InvalidTick", "Clashing", "NotTold", "AlreadyTold", "TooLong"]
  tyB := [("ValueError", "ValueError"), ("RuntimeError", "RuntimeError")]
  isx := ([(("InvalidLoop", "WheelError"), true), (("InvalidLoop", "RunError"), false), (("InvalidLoop", "InvalidLoop"), true), (("InvalidLoop", "InvalidNotes"), false), (("InvalidLoop", "InvalidMachine"), false), (("InvalidLoop", "InvalidNumber"), false), (("InvalidLoop", "InvalidTick"), false), (("InvalidLoop", "Clashing"), false), (("InvalidLoop", "NotTold"), false), (("InvalidLoop", "AlreadyTold"), false), (("InvalidLoop", "TooLong"), false), (("InvalidLoop", "ValueError"), true), (("InvalidLoop", "RuntimeError"), false), (("InvalidNumber", "WheelError"), true), (("InvalidNumber", "RunError"), false), (("InvalidNumber", "InvalidLoop"), false), (("InvalidNumber", "InvalidNotes"), false), (("InvalidNumber", "InvalidMachine"), false), (("InvalidNumber", "InvalidNumber"), true), (("InvalidNumber", "InvalidTick"), false), (("InvalidNumber", "Clashing"), false), (("InvalidNumber", "NotTold"), false), (("InvalidNumber", "AlreadyTold"), false), (("InvalidNumber", "TooLong"), false), (("InvalidNumber", "ValueError"), true), (("InvalidNumber", "RuntimeError"), false)] : List ((Str × Str) × Bool))
  rs := [("InvalidLoop", "WheelError"), ("InvalidNumber", "WheelError")]
  fns := (["is_integer", "check_loop", "check_part", "own_folded", "folded", "_law_cell", "_law_drawn", "_law_told", "_law_same", "_law_dividers", "_law_bent", "_law_checked_right", "_law_folded_right", "law"] : List Str)
abbrev s_is_integer : Stmt := tp 14
def N_is_integer : List Str := ["value", "least", "most"]
def g_is_integer : List (Str × Fn) := []
def c_is_integer : Ctx := mkC dsc g_is_integer N_is_integer (defScope s_is_integer) 1 none
def p_is_integer : List ((Nat × List Str) × List Src) := [((1, []), [.pos 0, .dfl .none, .dfl .none]), ((1, ["least"]), [.pos 0, .kw 0, .dfl .none])]
def F_is_integer : Fn := fnOf 60 c_is_integer (defBody s_is_integer) ["value", "least", "most"] (fun n ns => p_is_integer.lookup (n, ns))
abbrev s_check_loop : Stmt := tp 16
def N_check_loop : List Str := ["value", "index", "item"]
def g_check_loop : List (Str × Fn) := [("is_integer", F_is_integer)]
def c_check_loop : Ctx := mkC dsc g_check_loop N_check_loop (defScope s_check_loop) 2 none
def p_check_loop : List ((Nat × List Str) × List Src) := [((1, []), [.pos 0]), ((0, ["value"]), [.kw 0])]
def F_check_loop : Fn := fnOf 60 c_check_loop (defBody s_check_loop) ["value"] (fun n ns => p_check_loop.lookup (n, ns))
abbrev s_check_part : Stmt := tp 17
def N_check_part : List Str := ["loop", "number"]
def g_check_part : List (Str × Fn) := [("is_integer", F_is_integer)]
def c_check_part : Ctx := mkC dsc g_check_part N_check_part (defScope s_check_part) 2 none
def p_check_part : List ((Nat × List Str) × List Src) := [((2, []), [.pos 0, .pos 1])]
def F_check_part : Fn := fnOf 60 c_check_part (defBody s_check_part) ["loop", "number"] (fun n ns => p_check_part.lookup (n, ns))
abbrev s_own_folded : Stmt := tp 18
def N_own_folded : List Str := ["loop", "number", "start"]
def g_own_folded : List (Str × Fn) := []
def c_own_folded : Ctx := mkC dsc g_own_folded N_own_folded (defScope s_own_folded) 1 none
def p_own_folded : List ((Nat × List Str) × List Src) := [((2, []), [.pos 0, .pos 1])]
def F_own_folded : Fn := fnOf 60 c_own_folded (defBody s_own_folded) ["loop", "number"] (fun n ns => p_own_folded.lookup (n, ns))
abbrev s_folded : Stmt := tp 19
def N_folded : List Str := ["loop", "number"]
def g_folded : List (Str × Fn) := [("check_loop", F_check_loop), ("check_part", F_check_part), ("own_folded", F_own_folded)]
def c_folded : Ctx := mkC dsc g_folded N_folded (defScope s_folded) 3 none
def p_folded : List ((Nat × List Str) × List Src) := [((2, []), [.pos 0, .pos 1]), ((0, ["number", "loop"]), [.kw 1, .kw 0])]
def F_folded : Fn := fnOf 60 c_folded (defBody s_folded) ["loop", "number"] (fun n ns => p_folded.lookup (n, ns))
abbrev s_w_cell : Stmt := tp 21
def N_w_cell : List Str := ["_law_cells", "_law_spot", "_law_k", "_law_base", "_law_own", "_law_turn"]
def g_w_cell : List (Str × Fn) := []
def c_w_cell : Ctx := mkC dsc g_w_cell N_w_cell (defScope s_w_cell) 1 (some 1)
def p_w_cell : List ((Nat × List Str) × List Src) := [((2, []), [.pos 0, .pos 1])]
def F_w_cell : Fn := fnOf 60 c_w_cell (defBody s_w_cell) ["_law_cells", "_law_spot"] (fun n ns => p_w_cell.lookup (n, ns))
abbrev s_w_drawn : Stmt := tp 22
def N_w_drawn : List Str := ["_law_cells", "_law_spot", "_law_n", "_law_m", "_law_many", "_law_sizes_so", "_law_a", "_law_b", "_law_line", "_law_way", "_law_k", "_law_item", "_law_small", "_law_other"]
def g_w_drawn : List (Str × Fn) := [("_law_cell", F_w_cell)]
def c_w_drawn : Ctx := mkC dsc g_w_drawn N_w_drawn (defScope s_w_drawn) 2 (some 1)
def p_w_drawn : List ((Nat × List Str) × List Src) := [((2, []), [.pos 0, .pos 1])]
def F_w_drawn : Fn := fnOf 60 c_w_drawn (defBody s_w_drawn) ["_law_cells", "_law_spot"] (fun n ns => p_w_drawn.lookup (n, ns))
abbrev s_w_told : Stmt := tp 23
def N_w_told : List Str := ["_law_deed", "_law_error", "_law_found", "e", "_law_kinds", "_law_bases", "_law_at", "_law_word"]
def g_w_told : List (Str × Fn) := []
def c_w_told : Ctx := mkC dsc g_w_told N_w_told (defScope s_w_told) 5 none false true
def F_w_told : Fn := fnTOf 60 c_w_told (defBody s_w_told) ["_law_deed"]
abbrev s_w_same : Stmt := tp 24
def N_w_same : List Str := ["_law_found", "_law_due"]
def g_w_same : List (Str × Fn) := []
def c_w_same : Ctx := mkC dsc g_w_same N_w_same (defScope s_w_same) 1 none
def p_w_same : List ((Nat × List Str) × List Src) := [((2, []), [.pos 0, .pos 1])]
def F_w_same : Fn := fnOf 60 c_w_same (defBody s_w_same) ["_law_found", "_law_due"] (fun n ns => p_w_same.lookup (n, ns))
abbrev s_w_dividers : Stmt := tp 25
def N_w_dividers : List Str := ["_law_many", "_law_k"]
def g_w_dividers : List (Str × Fn) := []
def c_w_dividers : Ctx := mkC dsc g_w_dividers N_w_dividers (defScope s_w_dividers) 1 none
def p_w_dividers : List ((Nat × List Str) × List Src) := [((1, []), [.pos 0])]
def F_w_dividers : Fn := fnOf 60 c_w_dividers (defBody s_w_dividers) ["_law_many"] (fun n ns => p_w_dividers.lookup (n, ns))
abbrev s_w_bent : Stmt := tp 26
def N_w_bent : List Str := ["_law_cells", "_law_spot", "_law_line", "_law_n", "_law_m", "_law_odd", "_law_at"]
def g_w_bent : List (Str × Fn) := [("_law_cell", F_w_cell)]
def c_w_bent : Ctx := mkC dsc g_w_bent N_w_bent (defScope s_w_bent) 2 (some 1)
def p_w_bent : List ((Nat × List Str) × List Src) := [((3, []), [.pos 0, .pos 1, .pos 2])]
def F_w_bent : Fn := fnOf 60 c_w_bent (defBody s_w_bent) ["_law_cells", "_law_spot", "_law_line"] (fun n ns => p_w_bent.lookup (n, ns))
abbrev s_w_checked_right : Stmt := tp 27
def N_w_checked_right : List Str := ["_law_some", "_law_due", "_law_kept", "_law_found"]
def g_w_checked_right : List (Str × Fn) := [("_law_told", F_w_told), ("check_loop", F_check_loop), ("_law_same", F_w_same)]
def c_w_checked_right : Ctx := mkC dsc g_w_checked_right N_w_checked_right (defScope s_w_checked_right) 6 none true
def p_w_checked_right : List ((Nat × List Str) × List Src) := [((2, []), [.pos 0, .pos 1])]
def F_w_checked_right : Fn := fnOf 60 c_w_checked_right (defBody s_w_checked_right) ["_law_some", "_law_due"] (fun n ns => p_w_checked_right.lookup (n, ns))
abbrev s_w_folded_right : Stmt := tp 28
def N_w_folded_right : List Str := ["_law_line", "_law_d", "_law_due", "_law_kept", "_law_k", "_law_found"]
def g_w_folded_right : List (Str × Fn) := [("folded", F_folded), ("_law_same", F_w_same)]
def c_w_folded_right : Ctx := mkC dsc g_w_folded_right N_w_folded_right (defScope s_w_folded_right) 4 none
def p_w_folded_right : List ((Nat × List Str) × List Src) := [((2, []), [.pos 0, .pos 1])]
def F_w_folded_right : Fn := fnOf 60 c_w_folded_right (defBody s_w_folded_right) ["_law_line", "_law_d"] (fun n ns => p_w_folded_right.lookup (n, ns))
abbrev s_law : Stmt := tp 29
def N_law : List Str := ["_law_script", "_law_spot", "_law_turn", "_law_line", "_law_n", "_law_bent_here", "_law_at", "_law_d", "_law_odd", "_law_wide", "_law_some"]
def g_law : List (Str × Fn) := [("_law_drawn", F_w_drawn), ("_law_cell", F_w_cell), ("_law_bent", F_w_bent), ("_law_checked_right", F_w_checked_right), ("_law_dividers", F_w_dividers), ("_law_folded_right", F_w_folded_right), ("_law_told", F_w_told), ("folded", F_folded)]
def c_law : Ctx := mkC dsc g_law N_law (defScope s_law) 7 none true
def p_law : List ((Nat × List Str) × List Src) := [((1, []), [.pos 0])]
def F_law : Fn := fnOf 60 c_law (defBody s_law) ["_law_script"] (fun n ns => p_law.lookup (n, ns))
def b_is_integer_0a : Sl → Fl := (zC (zRet none (xK (.bool false))) z0)
def b_is_integer : Sl → Fl := (zC (zIf (qOr (qNot (qTr (xIs dsc true "int" (xV 0)))) (qTr (xIs dsc true "bool" (xV 0)))) b_is_integer_0a z0) (zC (zRet none (xAnd (xOr (xCmp .Is (xV 1) (xK .none)) (xCmp .GtE (xV 0) (xV 1))) (xOr (xCmp .Is (xV 2) (xK .none)) (xCmp .LtE (xV 0) (xV 2))))) z0))
theorem rz_is_integer (as : List SV) : F_is_integer.run as = runZ 3 none b_is_integer as := by kernel_rfl
def b_check_loop_0a : Sl → Fl := (zC (zRaise "InvalidLoop" ⟨"position", some .none⟩ aN) z0)
def b_check_loop_1l_0a : Sl → Fl := (zC (zRaise "InvalidLoop" ⟨"position", some .none⟩ (aC (xV 1) aN)) z0)
def b_check_loop_1l : Sl → Fl := (zC (zIf (qNot (qTr (xCall F_is_integer [.pos 0, .dfl .none, .dfl .none] (aC (xV 2) aN) aN))) b_check_loop_1l_0a z0) z0)
def b_check_loop : Sl → Fl := (zC (zIf (qOr (qNot (qTr (xIs dsc true "tuple" (xV 0)))) (qNot (qChain .LtE .LtE (xK (.int 1)) (xBi "len" (aC (xV 0) aN)) (xK (.int 5040))))) b_check_loop_0a z0) (zC (zFor (.tup [1, 2]) (iEn (aC (xV 0) aN)) b_check_loop_1l) z0))
theorem rz_check_loop (as : List SV) : F_check_loop.run as = runZ 3 none b_check_loop as := by kernel_rfl
def b_check_part_0a : Sl → Fl := (zC (zRaise "InvalidNumber" ⟨"value", none⟩ (aC (xV 1) aN)) z0)
def b_check_part : Sl → Fl := (zC (zIf (qOr (qNot (qTr (xCall F_is_integer [.pos 0, .kw 0, .dfl .none] (aC (xV 1) aN) (aC (xK (.int 1)) aN)))) (qCmp .NotEq (xBin .Mod (xBi "len" (aC (xV 0) aN)) (xV 1)) (xK (.int 0)))) b_check_part_0a z0) z0)
theorem rz_check_part (as : List SV) : F_check_part.run as = runZ 2 none b_check_part as := by kernel_rfl
def b_own_folded : Sl → Fl := (zC (zRet none (xLC [2] (.one 2) (iR1 (aC (xV 1) aN)) tYes (xBi "sum" (aC (xStep (xV 0) (oS (xV 2)) oN (oS (xV 1))) aN)))) z0)
theorem rz_own_folded (as : List SV) : F_own_folded.run as = runZ 3 none b_own_folded as := by kernel_rfl
def b_folded : Sl → Fl := (zC (zEx (xCall F_check_loop [.pos 0] (aC (xV 0) aN) aN)) (zC (zEx (xCall F_check_part [.pos 0, .pos 1] (aC (xV 0) (aC (xV 1) aN)) aN)) (zC (zRet none (xBi "tuple" (aC (xCall F_own_folded [.pos 0, .pos 1] (aC (xV 0) (aC (xV 1) aN)) aN) aN))) z0)))
theorem rz_folded (as : List SV) : F_folded.run as = runZ 2 none b_folded as := by kernel_rfl
def b_w_cell_3a_1l : Sl → Fl := (zC (zSet 4 (xBin .FloorDiv (xV 4) (xK (.int 306783379)))) z0)
def b_w_cell_3a_2a : Sl → Fl := (zC (zRet (some 1) (xBin .Mod (xV 4) (xK (.int 306783379)))) z0)
def b_w_cell_3a : Sl → Fl := (zC (zSet 4 (xIx (xV 0) (xBin .Mod (xV 2) (xBi "len" (aC (xV 0) aN))))) (zC (zFor (.one 5) (iR1 (aC (xBin .FloorDiv (xV 2) (xBi "len" (aC (xV 0) aN))) aN)) b_w_cell_3a_1l) (zC (zIf (qCmp .Gt (xV 4) (xK (.int 0))) b_w_cell_3a_2a z0) z0)))
def b_w_cell_4a : Sl → Fl := (zC (zSet 3 (xBin .Add (xV 3) (xBin .Mult (xBin .Mod (xIx (xV 0) (xBin .Mod (xV 2) (xBi "len" (aC (xV 0) aN)))) (xK (.int 2147483629))) (xBin .Add (xK (.int 1)) (xBin .FloorDiv (xV 2) (xBi "len" (aC (xV 0) aN))))))) z0)
def b_w_cell : Sl → Fl := (zC (zSub 1 (xK (.int 0)) (xBin .Add (xIx (xV 1) (xK (.int 0))) (xK (.int 1)))) (zC (zSet 2 (xIx (xV 1) (xK (.int 0)))) (zC (zSet 3 (xBin .Add (xBin .Mult (xBin .Mult (xK (.int 31)) (xV 2)) (xV 2)) (xBin .Mult (xK (.int 7919)) (xV 2)))) (zC (zIf (qAnd (qCmp .Gt (xBi "len" (aC (xV 0) aN)) (xK (.int 0))) (qAnd (qCmp .GtE (xIx (xV 0) (xBin .Mod (xV 2) (xBi "len" (aC (xV 0) aN)))) (xBin .Pow (xK (.int 10)) (xK (.int 18)))) (qCmp .Lt (xBin .FloorDiv (xV 2) (xBi "len" (aC (xV 0) aN))) (xK (.int 60))))) b_w_cell_3a z0) (zC (zIf (qCmp .Gt (xBi "len" (aC (xV 0) aN)) (xK (.int 0))) b_w_cell_4a z0) (zC (zRet (some 1) (xBin .FloorDiv (xBin .Mod (xBin .Pow (xBin .Mod (xV 3) (xK (.int 2147483647))) (xK (.int 5))) (xK (.int 2147483647))) (xK (.int 7)))) z0))))))
theorem rz_w_cell (as : List SV) : F_w_cell.run as = runZ 6 (some 1) b_w_cell as := by kernel_rfl
def b_w_drawn_5l : Sl → Fl := (zC (zSet 11 (xIf (qCmp .GtE (xV 10) (xK (.int 12))) (xBin .Add (xBin .Add (xBin .Mult (xIx (xV 8) (xBin .Sub (xV 10) (xK (.int 12)))) (xK (.int 48271))) (xIx (xV 8) (xBin .Sub (xV 10) (xK (.int 7))))) (xV 10)) (xK (.int 0)))) (zC (zEx (xApp 8 (aC (xIf (qCmp .Lt (xV 10) (xK (.int 12))) (xCall F_w_cell [.pos 0, .pos 1] (aC (xV 0) (aC (xV 1) aN)) aN) (xV 11)) aN))) z0))
def b_w_drawn_7a : Sl → Fl := (zC (zSet 13 (xRev (xV 12))) (zC (zRet (some 1) (xBi "tuple" (aC (xLC [10] (.one 10) (iR1 (aC (xV 4) aN)) tYes (xBin .Add (xIx (xV 12) (xBin .Mod (xV 10) (xV 6))) (xIx (xV 13) (xBin .Mod (xV 10) (xV 7))))) aN))) z0))
def b_w_drawn_8a : Sl → Fl := (zC (zRet (some 1) (xBi "tuple" (aC (xLC [10] (.one 10) (iR1 (aC (xV 4) aN)) tYes (xIx (xV 12) (xBin .Mod (xV 10) (xV 6)))) aN))) z0)
def b_w_drawn_9a : Sl → Fl := (zC (zRet (some 1) (xBi "tuple" (aC (xLC [11] (.one 11) (iSq (xV 8)) tYes (xBin .Add (xBin .Mult (xBin .Sub (xBin .Mod (xV 11) (xK (.int 1000003))) (xK (.int 500001))) (xBin .Pow (xK (.int 10)) (xK (.int 20)))) (xV 11))) aN))) z0)
def b_w_drawn : Sl → Fl := (zC (zSet2 2 3 (aC (xCall F_w_cell [.pos 0, .pos 1] (aC (xV 0) (aC (xV 1) aN)) aN) (aC (xCall F_w_cell [.pos 0, .pos 1] (aC (xV 0) (aC (xV 1) aN)) aN) aN))) (zC (zSet 4 (xIx (xLst (aC (xK (.int 1)) (aC (xK (.int 2)) (aC (xK (.int 3)) (aC (xK (.int 4)) (aC (xK (.int 5)) (aC (xK (.int 6)) (aC (xK (.int 8)) (aC (xK (.int 9)) (aC (xK (.int 10)) (aC (xK (.int 12)) (aC (xK (.int 15)) (aC (xK (.int 16)) (aC (xK (.int 18)) (aC (xK (.int 20)) (aC (xK (.int 24)) (aC (xK (.int 30)) (aC (xK (.int 36)) aN)))))))))))))))))) (xBin .Mod (xV 2) (xK (.int 17))))) (zC (zSet 5 (xLC [10] (.one 10) (iR2 (aC (xK (.int 1)) (aC (xBin .Add (xV 4) (xK (.int 1))) aN))) (qCmp .Eq (xBin .Mod (xV 4) (xV 10)) (xK (.int 0))) (xV 10))) (zC (zTup (.tup [6, 7]) (xTup (aC (xIx (xV 5) (xBin .Mod (xV 3) (xBi "len" (aC (xV 5) aN)))) (aC (xIx (xV 5) (xBin .Mod (xBin .FloorDiv (xV 3) (xK (.int 16))) (xBi "len" (aC (xV 5) aN)))) aN)))) (zC (zSet2 8 9 (aC (xLst aN) (aC (xBin .Mod (xBin .FloorDiv (xV 2) (xK (.int 17))) (xK (.int 6))) aN))) (zC (zFor (.one 10) (iR1 (aC (xV 4) aN)) b_w_drawn_5l) (zC (zSet 12 (xLC [11] (.one 11) (iSq (xV 8)) tYes (xBin .Sub (xBin .Mod (xV 11) (xK (.int 7))) (xK (.int 3))))) (zC (zIf (qCmp .Lt (xV 9) (xK (.int 2))) b_w_drawn_7a z0) (zC (zIf (qCmp .Eq (xV 9) (xK (.int 2))) b_w_drawn_8a z0) (zC (zIf (qCmp .Eq (xV 9) (xK (.int 3))) b_w_drawn_9a z0) (zC (zRet (some 1) (xIf (qCmp .Eq (xV 9) (xK (.int 4))) (xBi "tuple" (aC (xLC [11] (.one 11) (iSq (xV 8)) tYes (xBin .Mult (xK (.int 0)) (xV 11))) aN)) (xBi "tuple" (aC (xV 12) aN)))) z0)))))))))))
theorem rz_w_drawn (as : List SV) : F_w_drawn.run as = runZ 14 (some 1) b_w_drawn as := by kernel_rfl
def b_w_told_1t : Sl → Fl := (zC (zEx (xApp 2 (aC xThk aN))) z0)
def b_w_told_2a : Sl → Fl := (zC (zRet none (xV 2)) z0)
def b_w_told_9a : Sl → Fl := (zC (zRet none (xTup (aC (xK (.str "unknown")) aN))) z0)
def b_w_told_11a : Sl → Fl := (zC (zRet none (xTup (aC (xV 7) (aC (xFld dsc "position" (xV 1)) aN)))) z0)
def b_w_told_12a : Sl → Fl := (zC (zRet none (xTup (aC (xV 7) (aC (xFld dsc "clash" (xV 1)) aN)))) z0)
def b_w_told : Sl → Fl := (zC (zSet2 1 2 (aC (xK .none) (aC (xLst aN) aN))) (zC (zTry dsc "WheelError" "RunError" 3 1 b_w_told_1t) (zC (zIf (qCmp .Is (xV 1) (xK .none)) b_w_told_2a z0) (zC (zSet 4 (xLst (aC (xIs dsc false "InvalidLoop" (xV 1)) (aC (xIs dsc false "InvalidNotes" (xV 1)) (aC (xIs dsc false "InvalidMachine" (xV 1)) aN))))) (zC (zSet 4 (xBin .Add (xV 4) (xLst (aC (xIs dsc false "InvalidNumber" (xV 1)) (aC (xIs dsc false "InvalidTick" (xV 1)) (aC (xIs dsc false "Clashing" (xV 1)) aN)))))) (zC (zSet 4 (xBin .Add (xV 4) (xLst (aC (xIs dsc false "NotTold" (xV 1)) (aC (xIs dsc false "AlreadyTold" (xV 1)) (aC (xIs dsc false "TooLong" (xV 1)) aN)))))) (zC (zSet 5 (xLst (aC (xIs dsc false "WheelError" (xV 1)) (aC (xIs dsc false "ValueError" (xV 1)) aN)))) (zC (zSet 5 (xBin .Add (xV 5) (xLst (aC (xIs dsc false "RunError" (xV 1)) (aC (xIs dsc false "RuntimeError" (xV 1)) aN))))) (zC (zSet 6 (xIf (qCmp .Eq (xCount 4 (aC (xK (.bool true)) aN)) (xK (.int 1))) (xIndex 4 (aC (xK (.bool true)) aN)) (xK (.int 9)))) (zC (zIf (qOr (qCmp .Eq (xV 6) (xK (.int 9))) (qCmp .NotEq (xV 5) (xLst (aC (xCmp .Lt (xV 6) (xK (.int 5))) (aC (xCmp .Lt (xV 6) (xK (.int 5))) (aC (xCmp .Gt (xV 6) (xK (.int 4))) (aC (xCmp .Gt (xV 6) (xK (.int 4))) aN))))))) b_w_told_9a z0) (zC (zSet 7 (xIx (xLst (aC (xK (.str "loop")) (aC (xK (.str "notes")) (aC (xK (.str "machine")) (aC (xK (.str "number")) (aC (xK (.str "tick")) (aC (xK (.str "clash")) (aC (xK (.str "untold")) (aC (xK (.str "told")) (aC (xK (.str "long")) aN)))))))))) (xV 6))) (zC (zIf (qCmp .Lt (xV 6) (xK (.int 3))) b_w_told_11a z0) (zC (zIf (qCmp .Eq (xV 6) (xK (.int 5))) b_w_told_12a z0) (zC (zRet none (xTup (aC (xV 7) (aC (xIf (qCmp .Eq (xV 6) (xK (.int 8))) (xFld dsc "limit" (xV 1)) (xFld dsc "value" (xV 1))) aN)))) z0))))))))))))))
theorem rz_w_told (as : List SV) : F_w_told.run as = runZ 8 none b_w_told as := by kernel_rfl
def b_w_same : Sl → Fl := (zC (zRet none (xCmp .Eq (xBi "repr" (aC (xV 0) aN)) (xBi "repr" (aC (xBin .Mult (xLst (aC (xV 1) aN)) (xBi "len" (aC (xV 0) aN))) aN)))) z0)
theorem rz_w_same (as : List SV) : F_w_same.run as = runZ 2 none b_w_same as := by kernel_rfl
def b_w_dividers : Sl → Fl := (zC (zRet none (xLC [1] (.one 1) (iR2 (aC (xK (.int 1)) (aC (xBin .Add (xV 0) (xK (.int 1))) aN))) (qCmp .Eq (xBin .Mod (xV 0) (xV 1)) (xK (.int 0))) (xV 1))) z0)
theorem rz_w_dividers (as : List SV) : F_w_dividers.run as = runZ 2 none b_w_dividers as := by kernel_rfl
def b_w_bent : Sl → Fl := (zC (zSet2 3 4 (aC (xCall F_w_cell [.pos 0, .pos 1] (aC (xV 0) (aC (xV 1) aN)) aN) (aC (xCall F_w_cell [.pos 0, .pos 1] (aC (xV 0) (aC (xV 1) aN)) aN) aN))) (zC (zSet 5 (xIx (xLst (aC (xK .none) (aC (xK (.bool true)) (aC (xK (.str "1")) (aC (xTup (aC (xK (.int 1)) aN)) (aC (xLst aN) (aC (xK (.bool false)) (aC xDic aN)))))))) (xBin .Mod (xV 3) (xK (.int 7))))) (zC (zSet 6 (xBin .Mod (xV 4) (xBin .Add (xBi "len" (aC (xV 2) aN)) (xK (.int 1))))) (zC (zRet (some 1) (xLst (aC (xBin .Add (xBin .Add (xSl (xV 2) oN (oS (xV 6))) (xTup (aC (xV 5) aN))) (xSl (xV 2) (oS (xV 6)) oN)) (aC (xV 6) aN)))) z0))))
theorem rz_w_bent (as : List SV) : F_w_bent.run as = runZ 7 (some 1) b_w_bent as := by kernel_rfl
def b_w_checked_right : Sl → Fl := (zC (zSet2 2 3 (aC (xBi "repr" (aC (xV 0) aN)) (aC (xLst (aC (xLam F_w_told [0] (xCall F_check_loop [.pos 0] (aC (xV 0) aN) aN)) aN)) aN))) (zC (zEx (xApp 3 (aC (xLam F_w_told [0] (xCall F_check_loop [.kw 0] aN (aC (xV 0) aN))) aN))) (zC (zRet none (xAnd (xCall F_w_same [.pos 0, .pos 1] (aC (xV 3) (aC (xV 1) aN)) aN) (xCmp .Eq (xBi "repr" (aC (xV 0) aN)) (xV 2)))) z0)))
theorem rz_w_checked_right (as : List SV) : F_w_checked_right.run as = runZ 4 none b_w_checked_right as := by kernel_rfl
def b_w_folded_right_1l : Sl → Fl := (zC (zSub 2 (xBin .Mod (xV 4) (xV 1)) (xBin .Add (xIx (xV 2) (xBin .Mod (xV 4) (xV 1))) (xIx (xV 0) (xV 4)))) z0)
def b_w_folded_right : Sl → Fl := (zC (zSet2 2 3 (aC (xBin .Mult (xLst (aC (xK (.int 0)) aN)) (xV 1)) (aC (xBi "repr" (aC (xV 0) aN)) aN))) (zC (zFor (.one 4) (iR1 (aC (xBi "len" (aC (xV 0) aN)) aN)) b_w_folded_right_1l) (zC (zSet 5 (xLst (aC (xCall F_folded [.pos 0, .pos 1] (aC (xV 0) (aC (xV 1) aN)) aN) (aC (xCall F_folded [.kw 1, .kw 0] aN (aC (xV 1) (aC (xV 0) aN))) aN)))) (zC (zRet none (xAnd (xCall F_w_same [.pos 0, .pos 1] (aC (xV 5) (aC (xBi "tuple" (aC (xV 2) aN)) aN)) aN) (xCmp .Eq (xBi "repr" (aC (xV 0) aN)) (xV 3)))) z0))))
theorem rz_w_folded_right (as : List SV) : F_w_folded_right.run as = runZ 6 none b_w_folded_right as := by kernel_rfl
def b_law_1l_2a : Sl → Fl := (zC (zRet none (xK (.bool false))) z0)
def b_law_1l_3l_0a : Sl → Fl := (zC (zRet none (xK (.bool false))) z0)
def b_law_1l_3l : Sl → Fl := (zC (zIf (qNot (qTr (xCall F_w_folded_right [.pos 0, .pos 1] (aC (xV 3) (aC (xV 7) aN)) aN))) b_law_1l_3l_0a z0) z0)
def b_law_1l_4l_0a : Sl → Fl := (zC (zRet none (xK (.bool false))) z0)
def b_law_1l_4l : Sl → Fl := (zC (zIf (qAnd (qCmp .NotEq (xBin .Mod (xBi "len" (aC (xV 3) aN)) (xV 7)) (xK (.int 0))) (qCmp .NotEq (xLam F_w_told [7, 3] (xCall F_folded [.pos 0, .pos 1] (aC (xV 3) (aC (xV 7) aN)) aN)) (xTup (aC (xK (.str "number")) (aC (xV 7) aN))))) b_law_1l_4l_0a z0) z0)
def b_law_1l_6a : Sl → Fl := (zC (zRet none (xK (.bool false))) z0)
def b_law_1l_7a : Sl → Fl := (zC (zRet none (xK (.bool false))) z0)
def b_law_1l : Sl → Fl := (zC (zTup (.tup [3, 4]) (xTup (aC (xCall F_w_drawn [.pos 0, .pos 1] (aC (xV 0) (aC (xV 1) aN)) aN) (aC (xCall F_w_cell [.pos 0, .pos 1] (aC (xV 0) (aC (xV 1) aN)) aN) aN)))) (zC (zTup (.tup [5, 6]) (xCall F_w_bent [.pos 0, .pos 1, .pos 2] (aC (xV 0) (aC (xV 1) (aC (xV 3) aN))) aN)) (zC (zIf (qOr (qNot (qTr (xCall F_w_checked_right [.pos 0, .pos 1] (aC (xV 3) (aC (xLst (aC (xK .none) aN)) aN)) aN))) (qNot (qTr (xCall F_w_checked_right [.pos 0, .pos 1] (aC (xV 5) (aC (xTup (aC (xK (.str "loop")) (aC (xV 6) aN))) aN)) aN)))) b_law_1l_2a z0) (zC (zFor (.one 7) (iSq (xCall F_w_dividers [.pos 0] (aC (xBi "len" (aC (xV 3) aN)) aN) aN)) b_law_1l_3l) (zC (zFor (.one 7) (iR2 (aC (xK (.int 2)) (aC (xBi "len" (aC (xV 3) aN)) aN))) b_law_1l_4l) (zC (zSet 8 (xIx (xLst (aC (xK .none) (aC (xK (.bool true)) (aC (xK (.int 0)) (aC (xBin .Sub (xK (.int 0)) (xBi "len" (aC (xV 3) aN))) (aC (xBin .Mult (xK (.int 2)) (xBi "len" (aC (xV 3) aN))) (aC (xK (.str "1")) (aC (xTup (aC (xK (.int 1)) aN)) (aC (xBin .Add (xBi "len" (aC (xV 3) aN)) (xK (.int 1))) (aC (xBin .Pow (xK (.int 10)) (xK (.int 30))) aN)))))))))) (xBin .Mod (xV 4) (xK (.int 9))))) (zC (zIf (qCmp .NotEq (xLam F_w_told [3, 8] (xCall F_folded [.pos 0, .pos 1] (aC (xV 3) (aC (xV 8) aN)) aN)) (xTup (aC (xK (.str "number")) (aC (xV 8) aN)))) b_law_1l_6a z0) (zC (zIf (qCmp .NotEq (xLam F_w_told [5, 8] (xCall F_folded [.pos 0, .pos 1] (aC (xV 5) (aC (xV 8) aN)) aN)) (xTup (aC (xK (.str "loop")) (aC (xV 6) aN)))) b_law_1l_7a z0) z0))))))))
def b_law_3l_0a : Sl → Fl := (zC (zRet none (xK (.bool false))) z0)
def b_law_3l : Sl → Fl := (zC (zIf (qNot (qTr (xCall F_w_checked_right [.pos 0, .pos 1] (aC (xV 10) (aC (xTup (aC (xK (.str "loop")) (aC (xK .none) aN))) aN)) aN))) b_law_3l_0a z0) z0)
def b_law : Sl → Fl := (zC (zSet 1 (xLst (aC (xK (.int 0)) aN))) (zC (zFor (.one 2) (iR1 (aC (xBin .Add (xK (.int 3)) (xBi "min" (aC (xK (.int 9)) (aC (xBi "len" (aC (xV 0) aN)) aN)))) aN)) b_law_1l) (zC (zSet 9 (xTupR (xK (.int 5040)))) (zC (zFor (.one 10) (iSq (xTup (aC (xK .none) (aC (xK (.int 5)) (aC (xK (.str "loop")) (aC (xLst aN) (aC (xLst (aC (xK (.int 1)) aN)) (aC (xTup aN) (aC xDic (aC (xK (.bool true)) (aC (xBin .Add (xV 9) (xTup (aC (xK (.int 0)) aN))) aN))))))))))) b_law_3l) (zC (zRet none (xAnd (xCall F_w_checked_right [.pos 0, .pos 1] (aC (xV 9) (aC (xLst (aC (xK .none) aN)) aN)) aN) (xAnd (xCmp .Eq (xCall F_folded [.pos 0, .pos 1] (aC (xV 9) (aC (xK (.int 1)) aN)) aN) (xTup (aC (xK (.int 12698280)) aN))) (xCmp .Eq (xCall F_folded [.pos 0, .pos 1] (aC (xTup (aC (xK (.int 4)) aN)) (aC (xK (.int 1)) aN)) aN) (xTup (aC (xK (.int 4)) aN)))))) z0)))))
theorem rz_law (as : List SV) : F_law.run as = runZ 11 none b_law as := by kernel_rfl
def d_is_integer : He.DefD := ⟨("is_integer", none), "is_integer", "is_integer", defArgs s_is_integer, defBody s_is_integer, defScope s_is_integer, [], [("least", .non), ("most", .non)]⟩
def d_check_loop : He.DefD := ⟨("check_loop", none), "check_loop", "check_loop", defArgs s_check_loop, defBody s_check_loop, defScope s_check_loop, [], []⟩
def d_check_part : He.DefD := ⟨("check_part", none), "check_part", "check_part", defArgs s_check_part, defBody s_check_part, defScope s_check_part, [], []⟩
def d_own_folded : He.DefD := ⟨("own_folded", none), "own_folded", "own_folded", defArgs s_own_folded, defBody s_own_folded, defScope s_own_folded, [], []⟩
def d_folded : He.DefD := ⟨("folded", none), "folded", "folded", defArgs s_folded, defBody s_folded, defScope s_folded, [], []⟩
def d_w_cell : He.DefD := ⟨("_law_cell", none), "_law_cell", "_law_cell", defArgs s_w_cell, defBody s_w_cell, defScope s_w_cell, [], []⟩
def d_w_drawn : He.DefD := ⟨("_law_drawn", none), "_law_drawn", "_law_drawn", defArgs s_w_drawn, defBody s_w_drawn, defScope s_w_drawn, [], []⟩
def d_w_told : He.DefD := ⟨("_law_told", none), "_law_told", "_law_told", defArgs s_w_told, defBody s_w_told, defScope s_w_told, [], []⟩
def d_w_same : He.DefD := ⟨("_law_same", none), "_law_same", "_law_same", defArgs s_w_same, defBody s_w_same, defScope s_w_same, [], []⟩
def d_w_dividers : He.DefD := ⟨("_law_dividers", none), "_law_dividers", "_law_dividers", defArgs s_w_dividers, defBody s_w_dividers, defScope s_w_dividers, [], []⟩
def d_w_bent : He.DefD := ⟨("_law_bent", none), "_law_bent", "_law_bent", defArgs s_w_bent, defBody s_w_bent, defScope s_w_bent, [], []⟩
def d_w_checked_right : He.DefD := ⟨("_law_checked_right", none), "_law_checked_right", "_law_checked_right", defArgs s_w_checked_right, defBody s_w_checked_right, defScope s_w_checked_right, [], []⟩
def d_w_folded_right : He.DefD := ⟨("_law_folded_right", none), "_law_folded_right", "_law_folded_right", defArgs s_w_folded_right, defBody s_w_folded_right, defScope s_w_folded_right, [], []⟩
def d_law : He.DefD := ⟨("law", none), "law", "law", defArgs s_law, defBody s_law, defScope s_law, [], []⟩
abbrev i_InvalidLoop : Stmt := (clB (tp 7)).getD 0 (.Pass ⟨0, 0, 0, 0⟩)
def di_InvalidLoop : He.DefD := ⟨("InvalidLoop", some "__init__"), "__init__", "InvalidLoop.__init__", defArgs i_InvalidLoop, defBody i_InvalidLoop, defScope i_InvalidLoop, [.non], []⟩
abbrev i_InvalidNumber : Stmt := (clB (tp 5)).getD 0 (.Pass ⟨0, 0, 0, 0⟩)
def di_InvalidNumber : He.DefD := ⟨("InvalidNumber", some "__init__"), "__init__", "InvalidNumber.__init__", defArgs i_InvalidNumber, defBody i_InvalidNumber, defScope i_InvalidNumber, [], []⟩
def fnl : List He.DefD := [d_is_integer, d_check_loop, d_check_part, d_own_folded, d_folded, d_w_cell, d_w_drawn, d_w_told, d_w_same, d_w_dividers, d_w_bent, d_w_checked_right, d_w_folded_right, d_law, di_InvalidLoop, di_InvalidNumber]
def tfl : List He.Defn := [("_law_checked_right", none), ("law", none)]
abbrev hk : PySem.W.Hook := hookZ 5 dsc fnl tfl
def ob (s : PySem.W.SharedT) : He.AlD × Bool := obsZ 5 dsc fnl tfl (HandSHeadRun.getT s)
theorem ob_eq (s : PySem.W.SharedT) : ob s = hk.obs s.abs := obsZ_eq (HandSHeadRun.getT_eq s)
theorem run (w : World) : HandSHeadRun.RunEq (PySem.W.OpenLaw.row lw) (PySem.W.view (PySem.W.OpenLaw.row lw).prog [29]) hk ob 8000 ["WheelError", "RunError", "InvalidMachine", "InvalidTick", "InvalidNumber", "TooLong", "InvalidLoop", "InvalidNotes", "Clashing", "NotTold", "AlreadyTold", "MAX_NUMBER", "is_integer", "check_loop", "check_part", "own_folded", "folded", "_law_cell", "_law_drawn", "_law_told", "_law_same", "_law_dividers", "_law_bent", "_law_checked_right", "_law_folded_right"] w := by
  intro os
  kernel_rfl
theorem dok : dsc.ok = true := by decide +kernel
theorem sc_is_integer : FnScope N_is_integer ["value", "least", "most"] (defScope s_is_integer) := ⟨rfl, rfl, rfl, by decide +kernel, rfl, by decide +kernel, by decide +kernel⟩
theorem sc_check_loop : FnScope N_check_loop ["value"] (defScope s_check_loop) := ⟨rfl, rfl, rfl, by decide +kernel, rfl, by decide +kernel, by decide +kernel⟩
theorem sc_check_part : FnScope N_check_part ["loop", "number"] (defScope s_check_part) := ⟨rfl, rfl, rfl, by decide +kernel, rfl, by decide +kernel, by decide +kernel⟩
theorem sc_own_folded : FnScope N_own_folded ["loop", "number"] (defScope s_own_folded) := ⟨rfl, rfl, rfl, by decide +kernel, rfl, by decide +kernel, by decide +kernel⟩
theorem sc_folded : FnScope N_folded ["loop", "number"] (defScope s_folded) := ⟨rfl, rfl, rfl, by decide +kernel, rfl, by decide +kernel, by decide +kernel⟩
theorem sc_w_cell : FnScope N_w_cell ["_law_cells", "_law_spot"] (defScope s_w_cell) := ⟨rfl, rfl, rfl, by decide +kernel, rfl, by decide +kernel, by decide +kernel⟩
theorem sc_w_drawn : FnScope N_w_drawn ["_law_cells", "_law_spot"] (defScope s_w_drawn) := ⟨rfl, rfl, rfl, by decide +kernel, rfl, by decide +kernel, by decide +kernel⟩
theorem sc_w_told : FnScope N_w_told ["_law_deed"] (defScope s_w_told) := ⟨rfl, rfl, rfl, by decide +kernel, rfl, by decide +kernel, by decide +kernel⟩
theorem sc_w_same : FnScope N_w_same ["_law_found", "_law_due"] (defScope s_w_same) := ⟨rfl, rfl, rfl, by decide +kernel, rfl, by decide +kernel, by decide +kernel⟩
theorem sc_w_dividers : FnScope N_w_dividers ["_law_many"] (defScope s_w_dividers) := ⟨rfl, rfl, rfl, by decide +kernel, rfl, by decide +kernel, by decide +kernel⟩
theorem sc_w_bent : FnScope N_w_bent ["_law_cells", "_law_spot", "_law_line"] (defScope s_w_bent) := ⟨rfl, rfl, rfl, by decide +kernel, rfl, by decide +kernel, by decide +kernel⟩
theorem sc_w_checked_right : FnScope N_w_checked_right ["_law_some", "_law_due"] (defScope s_w_checked_right) := ⟨rfl, rfl, rfl, by decide +kernel, rfl, by decide +kernel, by decide +kernel⟩
theorem sc_w_folded_right : FnScope N_w_folded_right ["_law_line", "_law_d"] (defScope s_w_folded_right) := ⟨rfl, rfl, rfl, by decide +kernel, rfl, by decide +kernel, by decide +kernel⟩
theorem sc_law : FnScope N_law ["_law_script"] (defScope s_law) := ⟨rfl, rfl, rfl, by decide +kernel, rfl, by decide +kernel, by decide +kernel⟩
section
variable {w : World} {K : PySem.W.Frag} {mg : Str → Option Value} {base h : Heap}
theorem okx {P : Program} (sz : SaysZ dsc fnl tfl h K) (KX : K.In base) (GX : base.Ns mainGlobals mg) : OkX P w K mg base dsc := by
  rintro X rfl rfl rfl rfl rfl x xc hx
  have m := lk_mem hx
  simp only [dsc, List.mem_cons, List.not_mem_nil, or_false, Prod.mk.injEq] at m
  rcases m with ⟨rfl, rfl⟩ | ⟨rfl, rfl⟩
  · obtain ⟨fd, FF⟩ := sz.defs.def_ 14 (d := di_InvalidLoop) rfl
    obtain ⟨g, R⟩ := sz.ex.rs ("InvalidLoop", "WheelError") (by decide +kernel)
    have no := (sz.ex.cls ("InvalidLoop", ⟨"position", some .none⟩) (List.mem_of_getElem? (i := 0) rfl)).2.2
    exact okX_dfl (b := "WheelError") (v := .non) R (glo_of KX GX g) (glo_of KX GX R.gb) no (by decide +kernel) rfl rfl FF (by decide +kernel) rfl (fun _ _ _ _ _ _ _ us its h1 h2 => match us, its, h1, h2 with | [_, _], [_], _, _ => ⟨_, rfl, rfl⟩) (fun _ _ _ _ _ _ _ us its h1 h2 => match us, its, h1, h2 with | [_], [_], _, _ => ⟨_, rfl, rfl⟩)
  · obtain ⟨fd, FF⟩ := sz.defs.def_ 15 (d := di_InvalidNumber) rfl
    obtain ⟨g, R⟩ := sz.ex.rs ("InvalidNumber", "WheelError") (by decide +kernel)
    have no := (sz.ex.cls ("InvalidNumber", ⟨"value", none⟩) (List.mem_of_getElem? (i := 1) rfl)).2.2
    exact okX_req (b := "WheelError") R (glo_of KX GX g) (glo_of KX GX R.gb) no (by decide +kernel) rfl FF (by decide +kernel) rfl (fun _ _ _ _ _ _ us h1 => match us, h1 with | [_, _], _ => rfl)
structure Env2 (w : World) (K : PySem.W.Frag) (mg : Str → Option Value) (base h : Heap) : Prop where
  sz : SaysZ dsc fnl tfl h K
  KX : K.In base
  GX : base.Ns mainGlobals mg
  TB : ∀ p ∈ tfl, LamX.TabB base mg (He.cT K p).1 (He.cT K p).2
theorem Env2.e1 (e : Env2 w K mg base h) : Env1 pr w K mg base dsc := ⟨dok, e.sz.ex, e.KX, e.GX, okx e.sz e.KX e.GX⟩
theorem ok_is_integer (e : Env2 w K mg base h) : OkF pr w K mg base (tabsOf K tfl) "is_integer" F_is_integer   := by
  obtain ⟨fd, FF⟩ := e.sz.defs.def_ 0 (d := d_is_integer) rfl
  have gl : gloB K "is_integer" = true := e.sz.ex.fns _ (by decide +kernel)
  have fz : ∀ p ∈ g_is_integer, OkF pr w K mg base (tabsOf K tfl) p.1 p.2 := by
    intro p m; cases m
  have bz : BindZ K fd F_is_integer := by
    refine bindZ_of (tbl := p_is_integer) rfl rfl ?_
    intro q m
    simp only [p_is_integer, List.mem_cons, List.not_mem_nil, or_false] at m
    rcases m with rfl | rfl
    · exact bindB (ps := F_is_integer.ps) FF 1 [] [.pos 0, .dfl .none, .dfl .none] [("least", .non), ("most", .non)] (by simp [d_is_integer, He.DefD.kws, He.Dv.v]) (by simp [d_is_integer, He.DefD.kws]) rfl rfl rfl fun _ _ _ _ _ _ us mv ws h1 h2 h3 => match us, mv, ws, h1, h2, h3 with | [_], [_, _], [], _, _, _ => ⟨_, _, _, _, _, _, rfl, rfl, ⟨_, _, _, _, _, _, rfl, rfl, rfl⟩⟩
    · exact bindB (ps := F_is_integer.ps) FF 1 ["least"] [.pos 0, .kw 0, .dfl .none] [("most", .non)] (by simp [d_is_integer, He.DefD.kws, He.Dv.v]) (by simp [d_is_integer, He.DefD.kws]) rfl rfl rfl fun _ _ _ _ _ _ us mv ws h1 h2 h3 => match us, mv, ws, h1, h2, h3 with | [_], [_], [_], _, _, _ => ⟨_, _, _, _, _, _, rfl, rfl, rfl⟩
  exact okF_def (n := 60) (lvl := 1) e.e1 gl rfl (by decide +kernel) FF sc_is_integer (by decide +kernel) (by decide +kernel) fz bz
theorem ok_check_loop (e : Env2 w K mg base h) (ok_is_integer : OkF pr w K mg base (tabsOf K tfl) "is_integer" F_is_integer) : OkF pr w K mg base (tabsOf K tfl) "check_loop" F_check_loop   := by
  obtain ⟨fd, FF⟩ := e.sz.defs.def_ 1 (d := d_check_loop) rfl
  have gl : gloB K "check_loop" = true := e.sz.ex.fns _ (by decide +kernel)
  have fz : ∀ p ∈ g_check_loop, OkF pr w K mg base (tabsOf K tfl) p.1 p.2 := by
    intro p m
    simp only [g_check_loop, List.mem_cons, List.not_mem_nil, or_false] at m
    rcases m with rfl
    · exact ok_is_integer
  have bz : BindZ K fd F_check_loop := by
    refine bindZ_of (tbl := p_check_loop) rfl rfl ?_
    intro q m
    simp only [p_check_loop, List.mem_cons, List.not_mem_nil, or_false] at m
    rcases m with rfl | rfl
    · exact bindA (ps := F_check_loop.ps) FF 1 [] [.pos 0] rfl rfl rfl fun _ _ _ _ _ _ us ws h1 h2 => match us, ws, h1, h2 with | [_], [], _, _ => rfl
    · exact bindA (ps := F_check_loop.ps) FF 0 ["value"] [.kw 0] rfl rfl rfl fun _ _ _ _ _ _ us ws h1 h2 => match us, ws, h1, h2 with | [], [_], _, _ => rfl
  exact okF_def (n := 60) (lvl := 2) e.e1 gl rfl (by decide +kernel) FF sc_check_loop (by decide +kernel) (by decide +kernel) fz bz
theorem ok_check_part (e : Env2 w K mg base h) (ok_is_integer : OkF pr w K mg base (tabsOf K tfl) "is_integer" F_is_integer) : OkF pr w K mg base (tabsOf K tfl) "check_part" F_check_part   := by
  obtain ⟨fd, FF⟩ := e.sz.defs.def_ 2 (d := d_check_part) rfl
  have gl : gloB K "check_part" = true := e.sz.ex.fns _ (by decide +kernel)
  have fz : ∀ p ∈ g_check_part, OkF pr w K mg base (tabsOf K tfl) p.1 p.2 := by
    intro p m
    simp only [g_check_part, List.mem_cons, List.not_mem_nil, or_false] at m
    rcases m with rfl
    · exact ok_is_integer
  have bz : BindZ K fd F_check_part := by
    refine bindZ_of (tbl := p_check_part) rfl rfl ?_
    intro q m
    simp only [p_check_part, List.mem_cons, List.not_mem_nil, or_false] at m
    rcases m with rfl
    · exact bindA (ps := F_check_part.ps) FF 2 [] [.pos 0, .pos 1] rfl rfl rfl fun _ _ _ _ _ _ us ws h1 h2 => match us, ws, h1, h2 with | [_, _], [], _, _ => rfl
  exact okF_def (n := 60) (lvl := 2) e.e1 gl rfl (by decide +kernel) FF sc_check_part (by decide +kernel) (by decide +kernel) fz bz
theorem ok_own_folded (e : Env2 w K mg base h) : OkF pr w K mg base (tabsOf K tfl) "own_folded" F_own_folded   := by
  obtain ⟨fd, FF⟩ := e.sz.defs.def_ 3 (d := d_own_folded) rfl
  have gl : gloB K "own_folded" = true := e.sz.ex.fns _ (by decide +kernel)
  have fz : ∀ p ∈ g_own_folded, OkF pr w K mg base (tabsOf K tfl) p.1 p.2 := by
    intro p m; cases m
  have bz : BindZ K fd F_own_folded := by
    refine bindZ_of (tbl := p_own_folded) rfl rfl ?_
    intro q m
    simp only [p_own_folded, List.mem_cons, List.not_mem_nil, or_false] at m
    rcases m with rfl
    · exact bindA (ps := F_own_folded.ps) FF 2 [] [.pos 0, .pos 1] rfl rfl rfl fun _ _ _ _ _ _ us ws h1 h2 => match us, ws, h1, h2 with | [_, _], [], _, _ => rfl
  exact okF_def (n := 60) (lvl := 1) e.e1 gl rfl (by decide +kernel) FF sc_own_folded (by decide +kernel) (by decide +kernel) fz bz
theorem ok_folded (e : Env2 w K mg base h) (ok_check_loop : OkF pr w K mg base (tabsOf K tfl) "check_loop" F_check_loop) (ok_check_part : OkF pr w K mg base (tabsOf K tfl) "check_part" F_check_part) (ok_own_folded : OkF pr w K mg base (tabsOf K tfl) "own_folded" F_own_folded) : OkF pr w K mg base (tabsOf K tfl) "folded" F_folded   := by
  obtain ⟨fd, FF⟩ := e.sz.defs.def_ 4 (d := d_folded) rfl
  have gl : gloB K "folded" = true := e.sz.ex.fns _ (by decide +kernel)
  have fz : ∀ p ∈ g_folded, OkF pr w K mg base (tabsOf K tfl) p.1 p.2 := by
    intro p m
    simp only [g_folded, List.mem_cons, List.not_mem_nil, or_false] at m
    rcases m with rfl | rfl | rfl
    · exact ok_check_loop
    · exact ok_check_part
    · exact ok_own_folded
  have bz : BindZ K fd F_folded := by
    refine bindZ_of (tbl := p_folded) rfl rfl ?_
    intro q m
    simp only [p_folded, List.mem_cons, List.not_mem_nil, or_false] at m
    rcases m with rfl | rfl
    · exact bindA (ps := F_folded.ps) FF 2 [] [.pos 0, .pos 1] rfl rfl rfl fun _ _ _ _ _ _ us ws h1 h2 => match us, ws, h1, h2 with | [_, _], [], _, _ => rfl
    · exact bindA (ps := F_folded.ps) FF 0 ["number", "loop"] [.kw 1, .kw 0] rfl rfl rfl fun _ _ _ _ _ _ us ws h1 h2 => match us, ws, h1, h2 with | [], [_, _], _, _ => rfl
  exact okF_def (n := 60) (lvl := 3) e.e1 gl rfl (by decide +kernel) FF sc_folded (by decide +kernel) (by decide +kernel) fz bz
theorem ok_w_cell (e : Env2 w K mg base h) : OkF pr w K mg base (tabsOf K tfl) "_law_cell" F_w_cell   := by
  obtain ⟨fd, FF⟩ := e.sz.defs.def_ 5 (d := d_w_cell) rfl
  have gl : gloB K "_law_cell" = true := e.sz.ex.fns _ (by decide +kernel)
  have fz : ∀ p ∈ g_w_cell, OkF pr w K mg base (tabsOf K tfl) p.1 p.2 := by
    intro p m; cases m
  have bz : BindZ K fd F_w_cell := by
    refine bindZ_of (tbl := p_w_cell) rfl rfl ?_
    intro q m
    simp only [p_w_cell, List.mem_cons, List.not_mem_nil, or_false] at m
    rcases m with rfl
    · exact bindA (ps := F_w_cell.ps) FF 2 [] [.pos 0, .pos 1] rfl rfl rfl fun _ _ _ _ _ _ us ws h1 h2 => match us, ws, h1, h2 with | [_, _], [], _, _ => rfl
  exact okF_def (n := 60) (lvl := 1) e.e1 gl rfl (by decide +kernel) FF sc_w_cell (by decide +kernel) (by decide +kernel) fz bz
theorem ok_w_drawn (e : Env2 w K mg base h) (ok_w_cell : OkF pr w K mg base (tabsOf K tfl) "_law_cell" F_w_cell) : OkF pr w K mg base (tabsOf K tfl) "_law_drawn" F_w_drawn   := by
  obtain ⟨fd, FF⟩ := e.sz.defs.def_ 6 (d := d_w_drawn) rfl
  have gl : gloB K "_law_drawn" = true := e.sz.ex.fns _ (by decide +kernel)
  have fz : ∀ p ∈ g_w_drawn, OkF pr w K mg base (tabsOf K tfl) p.1 p.2 := by
    intro p m
    simp only [g_w_drawn, List.mem_cons, List.not_mem_nil, or_false] at m
    rcases m with rfl
    · exact ok_w_cell
  have bz : BindZ K fd F_w_drawn := by
    refine bindZ_of (tbl := p_w_drawn) rfl rfl ?_
    intro q m
    simp only [p_w_drawn, List.mem_cons, List.not_mem_nil, or_false] at m
    rcases m with rfl
    · exact bindA (ps := F_w_drawn.ps) FF 2 [] [.pos 0, .pos 1] rfl rfl rfl fun _ _ _ _ _ _ us ws h1 h2 => match us, ws, h1, h2 with | [_, _], [], _, _ => rfl
  exact okF_def (n := 60) (lvl := 2) e.e1 gl rfl (by decide +kernel) FF sc_w_drawn (by decide +kernel) (by decide +kernel) fz bz
theorem ok_w_told (e : Env2 w K mg base h) : OkF pr w K mg base (tabsOf K tfl) "_law_told" F_w_told   := by
  obtain ⟨fd, FF⟩ := e.sz.defs.def_ 7 (d := d_w_told) rfl
  have gl : gloB K "_law_told" = true := e.sz.ex.fns _ (by decide +kernel)
  have fz : ∀ p ∈ g_w_told, OkF pr w K mg base (tabsOf K tfl) p.1 p.2 := by
    intro p m; cases m
  exact okF_thk (d := dsc) (n := 60) (lvl := 5) e.e1 gl rfl (by decide +kernel) (by decide +kernel) FF sc_w_told (FF.bindsN fun _ _ _ _ _ _ us h1 => match us, h1 with | [_], _ => rfl) rfl (.inl rfl) (by decide +kernel) (by decide +kernel) fz
theorem ok_w_same (e : Env2 w K mg base h) : OkF pr w K mg base (tabsOf K tfl) "_law_same" F_w_same   := by
  obtain ⟨fd, FF⟩ := e.sz.defs.def_ 8 (d := d_w_same) rfl
  have gl : gloB K "_law_same" = true := e.sz.ex.fns _ (by decide +kernel)
  have fz : ∀ p ∈ g_w_same, OkF pr w K mg base (tabsOf K tfl) p.1 p.2 := by
    intro p m; cases m
  have bz : BindZ K fd F_w_same := by
    refine bindZ_of (tbl := p_w_same) rfl rfl ?_
    intro q m
    simp only [p_w_same, List.mem_cons, List.not_mem_nil, or_false] at m
    rcases m with rfl
    · exact bindA (ps := F_w_same.ps) FF 2 [] [.pos 0, .pos 1] rfl rfl rfl fun _ _ _ _ _ _ us ws h1 h2 => match us, ws, h1, h2 with | [_, _], [], _, _ => rfl
  exact okF_def (n := 60) (lvl := 1) e.e1 gl rfl (by decide +kernel) FF sc_w_same (by decide +kernel) (by decide +kernel) fz bz
theorem ok_w_dividers (e : Env2 w K mg base h) : OkF pr w K mg base (tabsOf K tfl) "_law_dividers" F_w_dividers   := by
  obtain ⟨fd, FF⟩ := e.sz.defs.def_ 9 (d := d_w_dividers) rfl
  have gl : gloB K "_law_dividers" = true := e.sz.ex.fns _ (by decide +kernel)
  have fz : ∀ p ∈ g_w_dividers, OkF pr w K mg base (tabsOf K tfl) p.1 p.2 := by
    intro p m; cases m
  have bz : BindZ K fd F_w_dividers := by
    refine bindZ_of (tbl := p_w_dividers) rfl rfl ?_
    intro q m
    simp only [p_w_dividers, List.mem_cons, List.not_mem_nil, or_false] at m
    rcases m with rfl
    · exact bindA (ps := F_w_dividers.ps) FF 1 [] [.pos 0] rfl rfl rfl fun _ _ _ _ _ _ us ws h1 h2 => match us, ws, h1, h2 with | [_], [], _, _ => rfl
  exact okF_def (n := 60) (lvl := 1) e.e1 gl rfl (by decide +kernel) FF sc_w_dividers (by decide +kernel) (by decide +kernel) fz bz
theorem ok_w_bent (e : Env2 w K mg base h) (ok_w_cell : OkF pr w K mg base (tabsOf K tfl) "_law_cell" F_w_cell) : OkF pr w K mg base (tabsOf K tfl) "_law_bent" F_w_bent   := by
  obtain ⟨fd, FF⟩ := e.sz.defs.def_ 10 (d := d_w_bent) rfl
  have gl : gloB K "_law_bent" = true := e.sz.ex.fns _ (by decide +kernel)
  have fz : ∀ p ∈ g_w_bent, OkF pr w K mg base (tabsOf K tfl) p.1 p.2 := by
    intro p m
    simp only [g_w_bent, List.mem_cons, List.not_mem_nil, or_false] at m
    rcases m with rfl
    · exact ok_w_cell
  have bz : BindZ K fd F_w_bent := by
    refine bindZ_of (tbl := p_w_bent) rfl rfl ?_
    intro q m
    simp only [p_w_bent, List.mem_cons, List.not_mem_nil, or_false] at m
    rcases m with rfl
    · exact bindA (ps := F_w_bent.ps) FF 3 [] [.pos 0, .pos 1, .pos 2] rfl rfl rfl fun _ _ _ _ _ _ us ws h1 h2 => match us, ws, h1, h2 with | [_, _, _], [], _, _ => rfl
  exact okF_def (n := 60) (lvl := 2) e.e1 gl rfl (by decide +kernel) FF sc_w_bent (by decide +kernel) (by decide +kernel) fz bz
theorem ok_w_checked_right (e : Env2 w K mg base h) (ok_w_told : OkF pr w K mg base (tabsOf K tfl) "_law_told" F_w_told) (ok_check_loop : OkF pr w K mg base (tabsOf K tfl) "check_loop" F_check_loop) (ok_w_same : OkF pr w K mg base (tabsOf K tfl) "_law_same" F_w_same) : OkF pr w K mg base (tabsOf K tfl) "_law_checked_right" F_w_checked_right   := by
  obtain ⟨fd, FF⟩ := e.sz.defs.def_ 11 (d := d_w_checked_right) rfl
  have gl : gloB K "_law_checked_right" = true := e.sz.ex.fns _ (by decide +kernel)
  have fz : ∀ p ∈ g_w_checked_right, OkF pr w K mg base (tabsOf K tfl) p.1 p.2 := by
    intro p m
    simp only [g_w_checked_right, List.mem_cons, List.not_mem_nil, or_false] at m
    rcases m with rfl | rfl | rfl
    · exact ok_w_told
    · exact ok_check_loop
    · exact ok_w_same
  have bz : BindZ K fd F_w_checked_right := by
    refine bindZ_of (tbl := p_w_checked_right) rfl rfl ?_
    intro q m
    simp only [p_w_checked_right, List.mem_cons, List.not_mem_nil, or_false] at m
    rcases m with rfl
    · exact bindA (ps := F_w_checked_right.ps) FF 2 [] [.pos 0, .pos 1] rfl rfl rfl fun _ _ _ _ _ _ us ws h1 h2 => match us, ws, h1, h2 with | [_, _], [], _, _ => rfl
  exact okF_lam (n := 60) (lvl := 6) e.e1 e.sz e.TB (by decide +kernel) gl rfl (by decide +kernel) FF sc_w_checked_right (by decide +kernel) (by decide +kernel) fz bz
theorem ok_w_folded_right (e : Env2 w K mg base h) (ok_folded : OkF pr w K mg base (tabsOf K tfl) "folded" F_folded) (ok_w_same : OkF pr w K mg base (tabsOf K tfl) "_law_same" F_w_same) : OkF pr w K mg base (tabsOf K tfl) "_law_folded_right" F_w_folded_right   := by
  obtain ⟨fd, FF⟩ := e.sz.defs.def_ 12 (d := d_w_folded_right) rfl
  have gl : gloB K "_law_folded_right" = true := e.sz.ex.fns _ (by decide +kernel)
  have fz : ∀ p ∈ g_w_folded_right, OkF pr w K mg base (tabsOf K tfl) p.1 p.2 := by
    intro p m
    simp only [g_w_folded_right, List.mem_cons, List.not_mem_nil, or_false] at m
    rcases m with rfl | rfl
    · exact ok_folded
    · exact ok_w_same
  have bz : BindZ K fd F_w_folded_right := by
    refine bindZ_of (tbl := p_w_folded_right) rfl rfl ?_
    intro q m
    simp only [p_w_folded_right, List.mem_cons, List.not_mem_nil, or_false] at m
    rcases m with rfl
    · exact bindA (ps := F_w_folded_right.ps) FF 2 [] [.pos 0, .pos 1] rfl rfl rfl fun _ _ _ _ _ _ us ws h1 h2 => match us, ws, h1, h2 with | [_, _], [], _, _ => rfl
  exact okF_def (n := 60) (lvl := 4) e.e1 gl rfl (by decide +kernel) FF sc_w_folded_right (by decide +kernel) (by decide +kernel) fz bz
theorem fz_law (e : Env2 w K mg base h) (ok_w_drawn : OkF pr w K mg base (tabsOf K tfl) "_law_drawn" F_w_drawn) (ok_w_cell : OkF pr w K mg base (tabsOf K tfl) "_law_cell" F_w_cell) (ok_w_bent : OkF pr w K mg base (tabsOf K tfl) "_law_bent" F_w_bent) (ok_w_checked_right : OkF pr w K mg base (tabsOf K tfl) "_law_checked_right" F_w_checked_right) (ok_w_dividers : OkF pr w K mg base (tabsOf K tfl) "_law_dividers" F_w_dividers) (ok_w_folded_right : OkF pr w K mg base (tabsOf K tfl) "_law_folded_right" F_w_folded_right) (ok_w_told : OkF pr w K mg base (tabsOf K tfl) "_law_told" F_w_told) (ok_folded : OkF pr w K mg base (tabsOf K tfl) "folded" F_folded) : ∃ fd, FunD K "law" "law" (defArgs s_law) (defBody s_law) (defScope s_law) [] [] (He.ga K "law") fd ∧ FnZ pr w K mg base (tabsOf K tfl) F_law.lvl (He.ga K "law") fd F_law := by
  obtain ⟨fd, FF⟩ := e.sz.defs.def_ 13 (d := d_law) rfl
  have gl : gloB K "law" = true := e.sz.ex.fns _ (by decide +kernel)
  have fz : ∀ p ∈ g_law, OkF pr w K mg base (tabsOf K tfl) p.1 p.2 := by
    intro p m
    simp only [g_law, List.mem_cons, List.not_mem_nil, or_false] at m
    rcases m with rfl | rfl | rfl | rfl | rfl | rfl | rfl | rfl
    · exact ok_w_drawn
    · exact ok_w_cell
    · exact ok_w_bent
    · exact ok_w_checked_right
    · exact ok_w_dividers
    · exact ok_w_folded_right
    · exact ok_w_told
    · exact ok_folded
  exact ⟨fd, FF, fnz_lam (n := 60) (lvl := 7) e.e1 e.sz e.TB (by decide +kernel) rfl FF sc_law (by decide +kernel) (by decide +kernel) fz⟩
theorem all_ok (e : Env2 w K mg base h) : ∃ fd, FunD K "law" "law" (defArgs s_law) (defBody s_law) (defScope s_law) [] [] (He.ga K "law") fd ∧ FnZ pr w K mg base (tabsOf K tfl) F_law.lvl (He.ga K "law") fd F_law := by
  have h_is_integer := ok_is_integer e
  have h_check_loop := ok_check_loop e h_is_integer
  have h_check_part := ok_check_part e h_is_integer
  have h_own_folded := ok_own_folded e
  have h_folded := ok_folded e h_check_loop h_check_part h_own_folded
  have h_w_cell := ok_w_cell e
  have h_w_drawn := ok_w_drawn e h_w_cell
  have h_w_told := ok_w_told e
  have h_w_same := ok_w_same e
  have h_w_dividers := ok_w_dividers e
  have h_w_bent := ok_w_bent e h_w_cell
  have h_w_checked_right := ok_w_checked_right e h_w_told h_check_loop h_w_same
  have h_w_folded_right := ok_w_folded_right e h_folded h_w_same
  exact fz_law e h_w_drawn h_w_cell h_w_bent h_w_checked_right h_w_dividers h_w_folded_right h_w_told h_folded
end
def loose : List PySem.Str := ["WheelError", "RunError", "InvalidMachine", "InvalidTick", "InvalidNumber", "TooLong", "InvalidLoop", "InvalidNotes", "Clashing", "NotTold", "AlreadyTold", "MAX_NUMBER", "is_integer", "check_loop", "check_part", "own_folded", "folded", "_law_cell", "_law_drawn", "_law_told", "_law_same", "_law_dividers", "_law_bent", "_law_checked_right", "_law_folded_right"]
theorem law_of (run0 : ∀ ns : List Int, ns.length ≤ 63 → (∀ z ∈ ns, Builtin.Int.intBits z ≤ 1048576) → ∃ xs, F_law.run [.dat (.list (iD ns))] = .ok (.dat (.bool true)) xs) :
    PySem.W.WalkO (PySem.W.view (PySem.W.OpenLaw.row lw).prog [29]) loose (PySem.W.XL (PySem.W.view (PySem.W.OpenLaw.row lw).prog [29]) []) hk.says lw.row.toRowW (HandSHeadRun.topDef (PySem.W.OpenLaw.row lw).prog 29) [] (fun f vs => PySem.call f vs) := by
  refine walk_z (F := F_law) (x := "_law_script") rfl (by kernel_rfl) ⟨rfl, by decide, by decide⟩ rfl rfl run0 fun w mg fa h K KX sz G hfa => ?_
  have hn : (HandSHeadRun.topDef (PySem.W.OpenLaw.row lw).prog 29).name = ("law" : PySem.Str) := by kernel_rfl
  rw [hn] at hfa
  have ea : fa = He.ga K "law" := by
    have z := PySem.W.mg_of KX G (He.eqO_ok (sz.ex.fns "law" (by decide +kernel)))
    rw [hfa] at z
    exact Value.ref.inj (Option.some.inj z)
  subst ea
  obtain ⟨fd, FF⟩ := sz.defs.def_ 13 (d := d_law) rfl
  refine ⟨fd, fun s v => FF.bindsA (ps := ["_law_script"]) (fun _ _ _ _ _ _ us h1 => match us, h1 with | [_], _ => rfl) s [v] rfl, fun base kb nb tb => ?_⟩
  obtain ⟨fd2, F2, z⟩ := all_ok (w := w) (mg := mg) (base := base) (h := h) ⟨sz, kb, nb, tb⟩
  rw [fun_one F2 FF] at z
  exact z
end L
end Z

set_option maxHeartbeats 8000000
namespace Z.L
open PySem
local macro_rules | `(tactic| k_upd) => `(tactic| first
  | rfl
  | exact b_mod (by omega)
  | exact b_mod (by decide)
  | exact b_fd (by decide)
  | exact b_fd (divOk_p (by omega) (by omega))
  | exact b_fd (by with_reducible assumption)
  | exact b_mul (mulOk_l (by omega))
  | exact b_mul (mulOk_r (by omega))
  | exact b_mul (by with_reducible assumption)
  | exact b_pow (by decide)
  | ((with_reducible apply b_lst); focus (simp [sizeLine]; done))
  | ((with_reducible apply b_tup); focus (simp [sizeLine]; done))
  | ((with_reducible apply b_rep); focus (simp [sizeLine]; done))
  | with_reducible assumption)
local macro_rules | `(tactic| k_subL) => `(tactic| first
  | exact cv_int _ _
  | exact cn_int _ _
  | exact eq_str _
  | rfl
  | with_reducible assumption)
local macro_rules | `(tactic| k_places) => `(tactic| first
  | with_reducible exact r_K
  | ((with_reducible apply r_V); rfl)
  | ((with_reducible apply r_Vo); rfl)
  | ((with_reducible apply r_Vx); rfl)
  | with_reducible exact a_N
  | ((with_reducible apply a_C); (k_places); (k_places))
  | ((with_reducible apply r_bin); (k_places); (k_places); rfl; rfl; k_upd)
  | ((with_reducible apply r_ix); (k_places); (k_places); rfl; rfl; (first | with_reducible assumption | rfl))
  | ((with_reducible apply r_Sl); k_places; (first | ((with_reducible apply o_S); k_places; rfl) | rfl); (first | ((with_reducible apply o_S); k_places; rfl) | rfl); rfl; (first | with_reducible assumption | rfl))
  | ((with_reducible apply r_Rev); k_places; rfl; rfl)
  | ((with_reducible apply r_Bi); (k_places); (first | with_reducible assumption | rfl))
  | ((with_reducible apply r_Lst); (k_places); rfl; exact le_line (Nat.le_of_ble_eq_true rfl))
  | ((with_reducible apply r_Tup); (k_places); rfl; exact le_line (Nat.le_of_ble_eq_true rfl))
  | ((with_reducible apply r_un); (k_places); rfl; rfl)
  | ((with_reducible apply r_Is); (k_places); rfl)
  | ((with_reducible apply r_Call); (k_places); (k_places); rfl; k_updF)
  | ((with_reducible apply r_CallS); (k_places); (k_places); rfl; rfl; (exact le_line (Nat.le_of_ble_eq_true rfl)); rfl; k_updF)
  | ((with_reducible apply r_LamXF); rfl; k_offL; rfl; k_memK)
  | ((with_reducible apply r_LamVF); rfl; k_places; rfl; rfl; rfl; k_memK)
  | ((with_reducible apply r_cmp); (k_places); (k_places); k_subL)
  | ((with_reducible apply q_cmp); (k_places); (k_places); k_subL)
  | ((with_reducible apply q_Not2); (k_places); rfl)
  | ((with_reducible apply q_OrFF); k_places; (first | rfl | decide | (focus (simp; done))); k_places)
  | ((with_reducible apply q_OrTT); k_places; (first | rfl | decide | (focus (simp; done))); rfl)
  | ((with_reducible apply q_AndTT); k_places; (first | rfl | decide | (focus (simp; done))); k_places)
  | ((with_reducible apply q_AndFF); k_places; (first | rfl | decide | (focus (simp; done))); rfl)
  | ((with_reducible apply q_Tr); (k_places); rfl; rfl)
  | ((with_reducible apply r_App); rfl; (k_places); rfl; rfl; (first | exact le_line (Nat.le_of_ble_eq_true rfl) | (focus (simp [sizeLine]; done)) | omega))
  | with_reducible assumption)
local macro_rules | `(tactic| k_offL) => `(tactic| first
  | ((with_reducible apply r_Call); (k_places); (k_places); rfl; (with_reducible apply c_exc0); rfl; rfl; k_memK; rfl)
  | ((with_reducible apply r_CallS); (k_places); (k_places); rfl; rfl; (exact le_line (Nat.le_of_ble_eq_true rfl)); rfl; (with_reducible apply c_exc0); rfl; rfl; k_memK; rfl))
local macro_rules | `(tactic| k_allIn) => `(tactic| first
  | ((with_reducible refine w_C ?_); k_allIn)
  | ((with_reducible refine w_nx ?_); k_allIn)
  | ((with_reducible refine w_0 ?_); k_allIn)
  | ((with_reducible apply w_Set); (k_places); rfl; k_allIn)
  | ((with_reducible apply w_Ex); (k_places); k_allIn)
  | ((with_reducible apply w_Ret); (k_places); rfl; (try with_reducible refine w_ret ?_))
  | ((with_reducible apply w_Set2); (k_places); rfl; k_allIn)
  | ((with_reducible apply w_Set3); (k_places); rfl; k_allIn)
  | ((with_reducible apply w_Sub); (k_places); rfl; rfl; (k_places); rfl; rfl; rfl; k_allIn)
  | ((with_reducible apply w_IfT); (k_places); (first | rfl | decide | with_reducible assumption | (focus (simp; done))); k_allIn)
  | ((with_reducible apply w_IfF); (k_places); (first | rfl | decide | with_reducible assumption | (focus (simp; done))); k_allIn)
  | skip)
local macro_rules | `(tactic| k_ownIn) => `(tactic| first
  | exact le_line (Nat.le_of_ble_eq_true rfl)
  | exact Nat.lt_of_lt_of_le (Nat.lt_of_le_of_lt (Nat.le_of_ble_eq_true rfl) (by decide : 900 < 1000)) (le_line (Nat.le_refl _))
  | (focus (simp only [iD_len, List.length_append, List.length_cons, List.length_nil, List.length_map, List.length_range, List.length_replicate]; first | exact le_line (by omega) | exact Nat.lt_of_lt_of_le (by omega : _ < 1000) (le_line (Nat.le_refl _)))))
local macro_rules | `(tactic| k_clsL) => `(tactic| first
  | exact mulOk_l (by omega)
  | exact mulOk_r (by omega)
  | with_reducible assumption)
local macro_rules | `(tactic| k_intsEnd) => `(tactic| first
  | decide
  | exact divOk_p (by omega) (by omega)
  | with_reducible assumption)
local macro_rules | `(tactic| k_all) => `(tactic| first
  | rfl
  | exact noL_ints _
  | with_reducible assumption)
local macro_rules | `(tactic| k_memK) => `(tactic| first
  | with_reducible assumption
  | fail "no spec")
local macro_rules | `(tactic| k_updF) => `(tactic| first
  | ((with_reducible apply c_plain); rfl; rfl; (k_memK); rfl)
  | ((with_reducible apply c_io (i := 1) (kk := 1)); rfl; rfl; (k_memK); rfl; rfl; (first | rfl | with_reducible assumption))
  | ((with_reducible apply c_ok0); rfl; rfl; (k_memK); rfl))
theorem isint_ok (d : D) : F_is_integer.run [.dat d, .dat .none, .dat .none] = .ok (.dat (.bool (isI d))) [] := by
  cases d <;> kernel_rfl
/-- where a value is no loop -/
def wrL : D → Option D
  | .tuple xs => if decide (1 ≤ xs.length) && decide (xs.length ≤ 5040) then (xs.findIdx? fun y => !isI y).map fun k => .int (k : Nat) else some .none
  | _ => some .none
theorem wrL_y {xs : List D} (h : (decide (1 ≤ xs.length) && decide (xs.length ≤ 5040)) = true) : wrL (.tuple xs) = (xs.findIdx? fun y => !isI y).map fun k => .int (k : Nat) := by
  show (if _ then _ else _) = _
  rw [h]; rfl
theorem wrL_n {xs : List D} (h : (decide (1 ≤ xs.length) && decide (xs.length ≤ 5040)) = false) : wrL (.tuple xs) = some .none := by
  show (if _ then _ else _) = _
  rw [h]; rfl
/-- check_loop -/
def outL (d : D) : Res := match wrL d with
  | none => .ok (.dat .none) []
  | some p => .exc "InvalidLoop" [("position", p)]
theorem checkloop_ok (d : D) : F_check_loop.run [.dat d] = outL d := by
  cases d
  case tuple xs =>
    rw [rz_check_loop]
    refine run_w (R := fun o => o = outL (.tuple xs)) ?_
    show Wp (b_check_loop [some (.dat (.tuple xs)), none, none]) _
    unfold b_check_loop
    refine w_C (w_IfOr (b := false) rfl (fun h => by cases h) fun _ => w_If (q_Not (q_len rfl rfl)) (fun h => ?_) fun h => w_0 (w_nx ?_))
    · have h := nb h
      unfold b_check_loop_0a
      refine w_C (w_Raise a_N rfl (w_exc (w_exc ?_)))
      show _ = outL _
      unfold outL; rw [wrL_n h]
    · have h := nt h
      have ow : outL (.tuple xs) = match xs.findIdx? (fun y => !isI y) with | none => .ok (.dat .none) [] | some k => .exc "InvalidLoop" [("position", .int (k : Nat))] := by
        unfold outL
        rw [wrL_y h]
        cases xs.findIdx? (fun y => !isI y) <;> rfl
      rw [ow]
      refine w_C (w_For (i_En (a_C (r_V rfl) a_N) rfl rfl) ?_)
      refine w_first xs isI (fun S => ∃ o1 o2, S = [some (.dat (.tuple xs)), o1, o2]) ⟨_, _, rfl⟩ ?_ ?_ ?_
      · rintro i x S hx e ⟨o1, o2, rfl⟩
        show Wp (b_check_loop_1l [some (.dat (.tuple xs)), some (.dat (.int (i : Nat))), some (.dat x)]) _
        unfold b_check_loop_1l
        have z := isint_ok x
        rw [e] at z
        exact w_C (w_IfF (q_Not (q_Tr (r_Call (a_C (r_V rfl) a_N) a_N rfl (c_plain rfl rfl z rfl)) rfl rfl)) rfl (w_0 (w_nx (w_0 ⟨_, .inl rfl, _, _, rfl⟩))))
      · rintro i x S hx e ⟨o1, o2, rfl⟩
        show Wp (b_check_loop_1l [some (.dat (.tuple xs)), some (.dat (.int (i : Nat))), some (.dat x)]) _
        unfold b_check_loop_1l
        have z := isint_ok x
        have hb : isI x = false := by
          obtain ⟨hi, q, _⟩ := List.findIdx?_eq_some_iff_getElem.mp e
          rw [List.getElem?_eq_getElem hi] at hx
          rw [Option.some.inj hx] at q
          simpa using q
        rw [hb] at z
        refine w_C (w_IfT (q_Not (q_Tr (r_Call (a_C (r_V rfl) a_N) a_N rfl (c_plain rfl rfl z rfl)) rfl rfl)) rfl ?_)
        unfold b_check_loop_1l_0a
        refine w_C (w_Raise (a_C (r_V rfl) a_N) rfl (w_exc (w_exc ⟨fun S' => ⟨by simp, by simp, by simp⟩, w_exc ?_⟩)))
        show _ = _
        rw [e]
      · rintro S e ⟨o1, o2, rfl⟩
        refine w_nx (w_0 ?_)
        show _ = _
        rw [e]
  all_goals kernel_rfl
theorem loop_wr {g : List Int} (h1 : 1 ≤ g.length) (h2 : g.length ≤ 5040) : wrL (tD g) = none := by
  rw [wrL_y (by rw [iD_len, decide_eq_true h1, decide_eq_true h2]; rfl), List.findIdx?_eq_none_iff.mpr]; rfl
  intro x hx
  obtain ⟨n, _, rfl⟩ := List.mem_map.mp hx
  rfl
theorem loop_ok {g : List Int} (h1 : 1 ≤ g.length) (h2 : g.length ≤ 5040) : F_check_loop.run [.dat (tD g)] = .ok (.dat .none) [] := by
  rw [checkloop_ok]; unfold outL; rw [loop_wr h1 h2]
theorem loop_bad {d p : D} (h : wrL d = some p) : F_check_loop.run [.dat d] = .exc "InvalidLoop" [("position", p)] := by
  rw [checkloop_ok]; unfold outL; rw [h]
/-- a loop with one item of another kind behind it -/
theorem wr_tail (g : List Int) (hg : g.length ≤ 5039) : wrL (.tuple (iD g ++ [.bool true])) = some (.int (g.length : Nat)) := by
  have l : (iD g ++ [PyData.bool true]).length = g.length + 1 := by rw [List.length_append, iD_len]; rfl
  rw [wrL_y (by rw [l, decide_eq_true (by omega), decide_eq_true (by omega)]; rfl)]
  have e : (iD g ++ [PyData.bool true]).findIdx? (fun y => !isI y) = some g.length := by
    refine List.findIdx?_eq_some_iff_getElem.mpr ⟨by omega, ?_, fun j hj => ?_⟩
    · rw [List.getElem_append_right (by rw [iD_len]; exact Nat.le_refl _)]
      simp [iD_len]; rfl
    · rw [List.getElem_append_left (by rw [iD_len]; exact hj)]
      have : ∃ n, (iD g)[j]'(by rw [iD_len]; exact hj) = .int n := by
        unfold iD
        rw [List.getElem_map]; exact ⟨_, rfl⟩
      obtain ⟨n, e⟩ := this
      rw [e]; exact fun z => by cases z
  rw [e]; rfl

end Z.L

set_option maxHeartbeats 8000000
namespace Z.L
open PySem
local macro_rules | `(tactic| k_upd) => `(tactic| first
  | rfl
  | exact b_mod (by omega)
  | exact b_mod (by decide)
  | exact b_fd (by decide)
  | exact b_fd (divOk_p (by omega) (by omega))
  | exact b_fd (by with_reducible assumption)
  | exact b_mul (mulOk_l (by omega))
  | exact b_mul (mulOk_r (by omega))
  | exact b_mul (by with_reducible assumption)
  | exact b_pow (by decide)
  | ((with_reducible apply b_lst); focus (simp [sizeLine]; done))
  | ((with_reducible apply b_tup); focus (simp [sizeLine]; done))
  | ((with_reducible apply b_rep); focus (simp [sizeLine]; done))
  | with_reducible assumption)
local macro_rules | `(tactic| k_subL) => `(tactic| first
  | exact cv_int _ _
  | exact cn_int _ _
  | exact eq_str _
  | rfl
  | with_reducible assumption)
local macro_rules | `(tactic| k_places) => `(tactic| first
  | with_reducible exact r_K
  | ((with_reducible apply r_V); rfl)
  | ((with_reducible apply r_Vo); rfl)
  | ((with_reducible apply r_Vx); rfl)
  | with_reducible exact a_N
  | ((with_reducible apply a_C); (k_places); (k_places))
  | ((with_reducible apply r_bin); (k_places); (k_places); rfl; rfl; k_upd)
  | ((with_reducible apply r_ix); (k_places); (k_places); rfl; rfl; (first | with_reducible assumption | rfl))
  | ((with_reducible apply r_Sl); k_places; (first | ((with_reducible apply o_S); k_places; rfl) | rfl); (first | ((with_reducible apply o_S); k_places; rfl) | rfl); rfl; (first | with_reducible assumption | rfl))
  | ((with_reducible apply r_Rev); k_places; rfl; rfl)
  | ((with_reducible apply r_Bi); (k_places); (first | with_reducible assumption | rfl))
  | ((with_reducible apply r_Lst); (k_places); rfl; exact le_line (Nat.le_of_ble_eq_true rfl))
  | ((with_reducible apply r_Tup); (k_places); rfl; exact le_line (Nat.le_of_ble_eq_true rfl))
  | ((with_reducible apply r_un); (k_places); rfl; rfl)
  | ((with_reducible apply r_Is); (k_places); rfl)
  | ((with_reducible apply r_Call); (k_places); (k_places); rfl; k_updF)
  | ((with_reducible apply r_CallS); (k_places); (k_places); rfl; rfl; (exact le_line (Nat.le_of_ble_eq_true rfl)); rfl; k_updF)
  | ((with_reducible apply r_LamXF); rfl; k_offL; rfl; k_memK)
  | ((with_reducible apply r_LamVF); rfl; k_places; rfl; rfl; rfl; k_memK)
  | ((with_reducible apply r_cmp); (k_places); (k_places); k_subL)
  | ((with_reducible apply q_cmp); (k_places); (k_places); k_subL)
  | ((with_reducible apply q_Not2); (k_places); rfl)
  | ((with_reducible apply q_OrFF); k_places; (first | rfl | decide | (focus (simp; done))); k_places)
  | ((with_reducible apply q_OrTT); k_places; (first | rfl | decide | (focus (simp; done))); rfl)
  | ((with_reducible apply q_AndTT); k_places; (first | rfl | decide | (focus (simp; done))); k_places)
  | ((with_reducible apply q_AndFF); k_places; (first | rfl | decide | (focus (simp; done))); rfl)
  | ((with_reducible apply q_Tr); (k_places); rfl; rfl)
  | ((with_reducible apply r_App); rfl; (k_places); rfl; rfl; (first | exact le_line (Nat.le_of_ble_eq_true rfl) | (focus (simp [sizeLine]; done)) | omega))
  | with_reducible assumption)
local macro_rules | `(tactic| k_offL) => `(tactic| first
  | ((with_reducible apply r_Call); (k_places); (k_places); rfl; (with_reducible apply c_exc0); rfl; rfl; k_memK; rfl)
  | ((with_reducible apply r_CallS); (k_places); (k_places); rfl; rfl; (exact le_line (Nat.le_of_ble_eq_true rfl)); rfl; (with_reducible apply c_exc0); rfl; rfl; k_memK; rfl))
local macro_rules | `(tactic| k_allIn) => `(tactic| first
  | ((with_reducible refine w_C ?_); k_allIn)
  | ((with_reducible refine w_nx ?_); k_allIn)
  | ((with_reducible refine w_0 ?_); k_allIn)
  | ((with_reducible apply w_Set); (k_places); rfl; k_allIn)
  | ((with_reducible apply w_Ex); (k_places); k_allIn)
  | ((with_reducible apply w_Ret); (k_places); rfl; (try with_reducible refine w_ret ?_))
  | ((with_reducible apply w_Set2); (k_places); rfl; k_allIn)
  | ((with_reducible apply w_Set3); (k_places); rfl; k_allIn)
  | ((with_reducible apply w_Sub); (k_places); rfl; rfl; (k_places); rfl; rfl; rfl; k_allIn)
  | ((with_reducible apply w_IfT); (k_places); (first | rfl | decide | with_reducible assumption | (focus (simp; done))); k_allIn)
  | ((with_reducible apply w_IfF); (k_places); (first | rfl | decide | with_reducible assumption | (focus (simp; done))); k_allIn)
  | skip)
local macro_rules | `(tactic| k_ownIn) => `(tactic| first
  | exact le_line (Nat.le_of_ble_eq_true rfl)
  | exact Nat.lt_of_lt_of_le (Nat.lt_of_le_of_lt (Nat.le_of_ble_eq_true rfl) (by decide : 900 < 1000)) (le_line (Nat.le_refl _))
  | (focus (simp only [iD_len, List.length_append, List.length_cons, List.length_nil, List.length_map, List.length_range, List.length_replicate]; first | exact le_line (by omega) | exact Nat.lt_of_lt_of_le (by omega : _ < 1000) (le_line (Nat.le_refl _)))))
local macro_rules | `(tactic| k_clsL) => `(tactic| first
  | exact mulOk_l (by omega)
  | exact mulOk_r (by omega)
  | with_reducible assumption)
local macro_rules | `(tactic| k_intsEnd) => `(tactic| first
  | decide
  | exact divOk_p (by omega) (by omega)
  | with_reducible assumption)
local macro_rules | `(tactic| k_all) => `(tactic| first
  | rfl
  | exact noL_ints _
  | with_reducible assumption)
local macro_rules | `(tactic| k_memK) => `(tactic| first
  | with_reducible assumption
  | fail "no spec")
local macro_rules | `(tactic| k_updF) => `(tactic| first
  | ((with_reducible apply c_plain); rfl; rfl; (k_memK); rfl)
  | ((with_reducible apply c_io (i := 1) (kk := 1)); rfl; rfl; (k_memK); rfl; rfl; (first | rfl | with_reducible assumption))
  | ((with_reducible apply c_ok0); rfl; rfl; (k_memK); rfl))
/-- natural numbers as data -/
abbrev iN (l : List Nat) : List D := l.map fun n : Nat => .int (n : Nat)
theorem iN_iD (l : List Nat) : iN l = iD (l.map fun n : Nat => (n : Int)) := by unfold iD; rw [List.map_map]; rfl
theorem iN_noL : ∀ l : List Nat, noLsts (iN l) = true
  | [] => rfl
  | _ :: r => iN_noL r
theorem mod_nat (a b : Nat) : ((a : Nat) : Int).fmod (b : Nat) = ((a % b : Nat) : Int) := by
  rw [Int.fmod_eq_emod_of_nonneg _ (by omega)]; rfl
theorem div_nat (a b : Nat) : ((a : Nat) : Int).fdiv (b : Nat) = ((a / b : Nat) : Int) := by
  rw [Int.fdiv_eq_ediv_of_nonneg _ (by omega)]; rfl
theorem rng1_iN (n : Nat) : rng 1 n = iN ((List.range n).map (· + 1)) := by
  unfold rng iN
  rw [List.map_map]
  exact List.map_congr_left fun k _ => by show PyData.int _ = PyData.int _; congr 1; show (1 : Int) + k = ((k + 1 : Nat) : Int); omega
theorem lc_filtN {turn : D → Sl → O (Option D)} {S : Sl} {ws : List Nat} {p : Nat → Bool} (h : ∀ w ∈ ws, turn (.int (w : Nat)) S = .ok (if p w then some (.int (w : Nat)) else none) S) (hl : ws.length ≤ 10000) : lcL turn (iN ws) [] S = .ok (iN (ws.filter p)) S := by
  have key : ∀ (l : List Nat) (acc : List D), (∀ w ∈ l, turn (.int (w : Nat)) S = .ok (if p w then some (.int (w : Nat)) else none) S) → acc.length + l.length ≤ 10000 → lcL turn (iN l) acc S = .ok (acc ++ iN (l.filter p)) S := by
    intro l
    induction l with
    | nil => intro acc _ _; show _ = O.ok (acc ++ []) S; rw [List.append_nil]; rfl
    | cons a r ih =>
      intro acc h hl
      rw [List.length_cons] at hl
      have e := h a (List.mem_cons_self ..)
      have hr : ∀ w ∈ r, turn (.int (w : Nat)) S = .ok (if p w then some (.int (w : Nat)) else none) S := fun w hw => h w (List.mem_cons_of_mem _ hw)
      show lcL turn (.int (a : Nat) :: iN r) acc S = _
      cases q : p a with
      | true =>
        rw [q, if_pos rfl] at e
        rw [lcL, e]
        show (if acc.length < sizeLine then lcL turn (iN r) (acc ++ [.int (a : Nat)]) S else .bad) = _
        rw [if_pos (by unfold sizeLine; omega), ih _ hr (by rw [List.length_append, List.length_singleton]; omega), List.filter_cons_of_pos q, List.append_assoc]; rfl
      | false =>
        rw [q, if_neg (by decide)] at e
        rw [lc_n e, ih _ hr (by omega), List.filter_cons_of_neg (by rw [q]; decide)]
  have := key ws [] h (by simpa using hl)
  rwa [List.nil_append] at this
theorem isint1 (n : Int) (h : 1 ≤ n) : F_is_integer.run [.dat (.int n), .dat (.int 1), .dat .none] = .ok (.dat (.bool true)) [] := by
  rw [rz_is_integer]
  refine run_w (R := fun o => o = .ok (.dat (.bool true)) []) ?_
  show Wp (b_is_integer [some (.dat (.int n)), some (.dat (.int 1)), some (.dat .none)]) _
  unfold b_is_integer
  refine w_C (w_IfF (q_OrF (q_Not2 (q_Tr (r_Is (r_V rfl) rfl) rfl rfl) rfl) (q_Tr (r_Is (r_V rfl) rfl) rfl rfl)) rfl (w_0 (w_nx ?_)))
  have e1 : xOr (xCmp .Is (xV 1) (xK .none)) (xCmp .GtE (xV 0) (xV 1)) [some (.dat (.int n)), some (.dat (.int 1)), some (.dat .none)] = .ok (.dat (.bool true)) [some (.dat (.int n)), some (.dat (.int 1)), some (.dat .none)] :=
    r_OrF (r_cmp (b := false) (r_V rfl) r_K rfl) rfl rfl (r_cmp (r_V rfl) (r_V rfl) (show some (decide ((1 : Int) ≤ n)) = some true by rw [decide_eq_true h]))
  have e2 : xOr (xCmp .Is (xV 2) (xK .none)) (xCmp .LtE (xV 0) (xV 2)) [some (.dat (.int n)), some (.dat (.int 1)), some (.dat .none)] = .ok (.dat (.bool true)) [some (.dat (.int n)), some (.dat (.int 1)), some (.dat .none)] :=
    r_OrT (r_cmp (b := true) (r_V rfl) r_K rfl) rfl rfl
  exact w_CR (w_Ret (r_AndT e1 rfl rfl e2) rfl rfl)
def noB : D → Bool
  | .int n => decide (n < 1)
  | _ => true
theorem isint_no {d : D} (h : noB d = true) : F_is_integer.run [.dat d, .dat (.int 1), .dat .none] = .ok (.dat (.bool false)) [] := by
  cases d with
  | int n =>
    have h := of_decide_eq_true h
    rw [rz_is_integer]
    refine run_w (R := fun o => o = .ok (.dat (.bool false)) []) ?_
    show Wp (b_is_integer [some (.dat (.int n)), some (.dat (.int 1)), some (.dat .none)]) _
    unfold b_is_integer
    refine w_C (w_IfF (q_OrF (q_Not2 (q_Tr (r_Is (r_V rfl) rfl) rfl rfl) rfl) (q_Tr (r_Is (r_V rfl) rfl) rfl rfl)) rfl (w_0 (w_nx ?_)))
    have e1 : xOr (xCmp .Is (xV 1) (xK .none)) (xCmp .GtE (xV 0) (xV 1)) [some (.dat (.int n)), some (.dat (.int 1)), some (.dat .none)] = .ok (.dat (.bool false)) [some (.dat (.int n)), some (.dat (.int 1)), some (.dat .none)] :=
      r_OrF (r_cmp (b := false) (r_V rfl) r_K rfl) rfl rfl (r_cmp (r_V rfl) (r_V rfl) (show some (decide ((1 : Int) ≤ n)) = some false by rw [decide_eq_false (by omega)]))
    exact w_CR (w_Ret (r_AndF e1 rfl rfl) rfl rfl)
  | none => kernel_rfl
  | bool b => kernel_rfl
  | str s => kernel_rfl
  | list xs => kernel_rfl
  | tuple xs => kernel_rfl
  | dict kvs => kernel_rfl
theorem folded_ok {x : List Int} {d : Nat} (hx : 1 ≤ x.length) (hx2 : x.length ≤ 100000) (hd9 : d ≤ 900) (hd : d ∣ x.length) : F_own_folded.run [.dat (tD x), .dat (.int (d : Nat))] = .ok (.own (iD (fdL x d))) [] := by
  have d1 := Nat.pos_of_dvd_of_pos hd hx
  have d2 := Nat.le_of_dvd hx hd
  rw [rz_own_folded]
  refine run_w (R := fun o => o = .ok (.own (iD (fdL x d))) []) ?_
  show Wp (b_own_folded [some (.dat (tD x)), some (.dat (.int (d : Nat))), none]) _
  unfold b_own_folded
  have lc := lc_map (turn := xTurn [2] (.one 2) tYes (xBi "sum" (aC (xStep (xV 0) (oS (xV 2)) oN (oS (xV 1))) aN))) (S := [some (.dat (tD x)), some (.dat (.int (d : Nat))), none]) (ws := (List.range d).map fun n : Nat => (n : Int)) (f := fun w => .int (Sd x.length d (tooth x) w)) (fun w hw => by
    obtain ⟨s, hs, rfl⟩ := List.mem_map.mp hw
    have hs := List.mem_range.mp hs
    obtain ⟨st, sm⟩ := (fold_sum hx hd hs).resolve_right (by omega)
    have hb : ∀ S : Sl, biV S "sum" [.dat (tD (pickN x (stepT x.length (some ((s : Nat) : Int)) none ((d : Nat) : Int))))] = some (.dat (.int (Sd x.length d (tooth x) ((s : Nat) : Int)))) := fun S => by rw [← sm]; exact bi_sumT _ rfl
    exact t_all rfl (r_Bi (a_C (r_Step (r_V rfl) (o_S (r_V rfl) rfl) rfl (o_S (r_V rfl) rfl) rfl st) a_N) (hb _)) rfl rfl) (by simp; omega)
  have e1 : rng 0 d = iD ((List.range d).map fun n : Nat => (n : Int)) := by
    rw [rng_iD]
    congr 1
    exact List.map_congr_left fun k _ => Int.zero_add _
  rw [← e1] at lc
  have e2 : ((List.range d).map fun n : Nat => (n : Int)).map (fun w => PyData.int (Sd x.length d (tooth x) w)) = iD (fdL x d) := by
    unfold fdL iD
    rw [List.map_map, List.map_map]; rfl
  rw [e2] at lc
  exact w_CR (w_Ret (r_LC (i_R1A (n := (d : Nat)) (a_C (r_V rfl) a_N)) (by rw [Int.toNat_natCast]; exact lc)) rfl rfl)
theorem dividers_ok (n : Nat) (hn : n ≤ 900) : F_w_dividers.run [.dat (.int (n : Nat))] = .ok (.own (iN (dvs n))) [] := by
  rw [rz_w_dividers]
  refine run_w (R := fun o => o = .ok (.own (iN (dvs n))) []) ?_
  show Wp (b_w_dividers [some (.dat (.int (n : Nat))), none]) _
  unfold b_w_dividers
  have lc := lc_filtN (turn := xTurn [1] (.one 1) (qCmp .Eq (xBin .Mod (xV 0) (xV 1)) (xK (.int 0))) (xV 1)) (S := [some (.dat (.int (n : Nat))), none]) (ws := (List.range n).map (· + 1)) (p := fun k => decide (n % k = 0)) (fun w hw => by
    obtain ⟨k, _, rfl⟩ := List.mem_map.mp hw
    have e : decide (((n : Nat) : Int).fmod ((k + 1 : Nat) : Int) = 0) = decide (n % (k + 1) = 0) := by
      rw [mod_nat]; exact decide_eq_decide.mpr (by omega)
    exact t_if (t := qCmp .Eq (xBin .Mod (xV 0) (xV 1)) (xK (.int 0))) (b := decide (n % (k + 1) = 0)) (x := .int ((k + 1 : Nat) : Int)) rfl (q_cmp (r_bin (r_V rfl) (r_V rfl) rfl rfl (b_mod (by omega))) r_K (by rw [cv_int, e])) (fun _ => ⟨r_V rfl, rfl⟩) rfl rfl) (by simp; omega)
  rw [← rng1_iN] at lc
  exact w_CR (w_Ret (r_LC (i_R2A (m := 1) (n := (n : Nat) + 1) (a_C r_K (a_C (r_bin (r_V rfl) r_K rfl rfl rfl) a_N))) (by rw [show (((n : Nat) : Int) + 1 - 1).toNat = n by omega]; exact lc)) rfl rfl)
/-- whether a number is no divisor of a loop's length -/
def nbB (n : Nat) : D → Bool
  | .int w => decide (w < 1) || decide (((n : Nat) : Int).fmod w ≠ 0)
  | _ => true
theorem part_ok {x : List Int} {d : Nat} (d1 : 1 ≤ d) (hd : d ∣ x.length) : F_check_part.run [.dat (tD x), .dat (.int (d : Nat))] = .ok (.dat .none) [] := by
  rw [rz_check_part]
  refine run_w (R := fun o => o = .ok (.dat .none) []) ?_
  show Wp (b_check_part [some (.dat (tD x)), some (.dat (.int (d : Nat)))]) _
  unfold b_check_part
  have c1 := isint1 (d : Nat) (by omega)
  have m : cmpV [some (.dat (tD x)), some (.dat (.int (d : Nat)))] .NotEq (.dat (.int (((iD x).length : Int).fmod (d : Nat)))) (.dat (.int 0)) = some false := by
    rw [cn_int, iD_len, mod_nat, Nat.mod_eq_zero_of_dvd hd]; rfl
  exact w_C (w_IfF (q_OrF (q_Not (q_Tr (r_Call (a_C (r_V rfl) a_N) (a_C r_K a_N) rfl (c_plain rfl rfl c1 rfl)) rfl rfl)) (q_cmp (r_bin (r_Bi (a_C (r_V rfl) a_N) rfl) (r_V rfl) rfl rfl (b_mod (by omega))) r_K m)) rfl (w_0 (w_nx (w_0 rfl))))
theorem part_bad {x : List Int} {d : D} (h : nbB x.length d = true) : F_check_part.run [.dat (tD x), .dat d] = .exc "InvalidNumber" [("value", d)] := by
  rw [rz_check_part]
  refine run_w (R := fun o => o = .exc "InvalidNumber" [("value", d)]) ?_
  show Wp (b_check_part [some (.dat (tD x)), some (.dat d)]) _
  unfold b_check_part
  by_cases no : noB d = true
  · have c1 := isint_no no
    refine w_C (w_IfT (q_OrT (q_Not (q_Tr (r_Call (a_C (r_V rfl) a_N) (a_C r_K a_N) rfl (c_plain rfl rfl c1 rfl)) rfl rfl))) rfl ?_)
    unfold b_check_part_0a
    exact w_C (w_Raise (a_C (r_V rfl) a_N) rfl (w_exc (w_exc rfl)))
  · cases d with
    | int w =>
      have w1 : ¬ w < 1 := fun z => no (decide_eq_true z)
      have c1 := isint1 w (by omega)
      have hw : decide (((x.length : Nat) : Int).fmod w ≠ 0) = true := by
        have h : (decide (w < 1) || decide (((x.length : Nat) : Int).fmod w ≠ 0)) = true := h
        rwa [decide_eq_false w1, Bool.false_or] at h
      have m : cmpV [some (.dat (tD x)), some (.dat (.int w))] .NotEq (.dat (.int (((iD x).length : Int).fmod w))) (.dat (.int 0)) = some true := by
        rw [cn_int, iD_len, hw]
      refine w_C (w_IfT (q_OrF (q_Not (q_Tr (r_Call (a_C (r_V rfl) a_N) (a_C r_K a_N) rfl (c_plain rfl rfl c1 rfl)) rfl rfl)) (q_cmp (r_bin (r_Bi (a_C (r_V rfl) a_N) rfl) (r_V rfl) rfl rfl (b_mod (by omega))) r_K m)) rfl ?_)
      unfold b_check_part_0a
      exact w_C (w_Raise (a_C (r_V rfl) a_N) rfl (w_exc (w_exc rfl)))
    | none => exact absurd rfl no
    | bool b => exact absurd rfl no
    | str s => exact absurd rfl no
    | list xs => exact absurd rfl no
    | tuple xs => exact absurd rfl no
    | dict kvs => exact absurd rfl no
theorem fold_ok {x : List Int} {d : Nat} (hx : 1 ≤ x.length) (hx2 : x.length ≤ 5040) (hd9 : d ≤ 900) (hd : d ∣ x.length) : F_folded.run [.dat (tD x), .dat (.int (d : Nat))] = .ok (.dat (tD (fdL x d))) [] := by
  rw [rz_folded]
  refine run_w (R := fun o => o = .ok (.dat (tD (fdL x d))) []) ?_
  show Wp (b_folded [some (.dat (tD x)), some (.dat (.int (d : Nat)))]) _
  unfold b_folded
  have d1 := Nat.pos_of_dvd_of_pos hd hx
  have c1 := loop_ok hx hx2
  have c2 := part_ok d1 hd
  have c3 := folded_ok hx (by omega) hd9 hd
  refine w_C (w_ExS (S3 := [_, _]) (r_Call (a_C (r_V rfl) a_N) a_N rfl (c_plain rfl rfl c1 rfl)) rfl (w_nx ?_))
  refine w_C (w_ExS (S3 := [_, _]) (r_Call (a_C (r_V rfl) (a_C (r_V rfl) a_N)) a_N rfl (c_plain rfl rfl c2 rfl)) rfl (w_nx ?_))
  exact w_CR (w_Ret (r_Bi (a_C (r_Call (a_C (r_V rfl) (a_C (r_V rfl) a_N)) a_N rfl (c_plain rfl rfl c3 (noL_ints _))) a_N) rfl) rfl rfl)
theorem fold_num {x : List Int} {d : D} (hx : 1 ≤ x.length) (hx2 : x.length ≤ 5040) (h : nbB x.length d = true) : F_folded.run [.dat (tD x), .dat d] = .exc "InvalidNumber" [("value", d)] := by
  rw [rz_folded]
  refine run_w (R := fun o => o = .exc "InvalidNumber" [("value", d)]) ?_
  show Wp (b_folded [some (.dat (tD x)), some (.dat d)]) _
  unfold b_folded
  have c1 := loop_ok hx hx2
  have c2 := part_bad h
  refine w_C (w_ExS (S3 := [_, _]) (r_Call (a_C (r_V rfl) a_N) a_N rfl (c_plain rfl rfl c1 rfl)) rfl (w_nx ?_))
  exact w_C (w_ExX (r_Call (a_C (r_V rfl) (a_C (r_V rfl) a_N)) a_N rfl (c_exc0 rfl rfl c2 rfl)) (w_exc rfl))
theorem fold_loop {bd pa q : D} (h : wrL bd = some pa) : F_folded.run [.dat bd, .dat q] = .exc "InvalidLoop" [("position", pa)] := by
  rw [rz_folded]
  refine run_w (R := fun o => o = .exc "InvalidLoop" [("position", pa)]) ?_
  show Wp (b_folded [some (.dat bd), some (.dat q)]) _
  unfold b_folded
  exact w_C (w_ExX (r_Call (a_C (r_V rfl) a_N) a_N rfl (c_exc0 rfl rfl (loop_bad h) rfl)) (w_exc rfl))

end Z.L

set_option maxHeartbeats 1000000
namespace Z.L
open PySem
local macro_rules | `(tactic| walk_at "zz") => `(tactic| first
  | exact r_K
  | exact r_V rfl
  | exact r_Vo rfl
  | exact r_Vx rfl
  | (apply r_bin <;> walk_at "zz")
  | (apply r_ix <;> walk_at "zz")
  | (apply r_Bi <;> walk_at "zz")
  | (apply q_cmp <;> walk_at "zz")
  | exact a_N
  | (apply a_C <;> walk_at "zz")
  | with_reducible assumption
  | exact b_mod (by assumption)
  | exact b_mod (by decide)
  | exact b_fd (by decide)
  | exact b_fd (by assumption)
  | exact b_mul (mulOk_fmod (by omega) (by omega))
  | exact b_mul (mulOk_l (by omega))
  | exact b_pow (by decide)
  | exact b_pow (pow_fmod (by omega) (by omega) (by decide))
  | rfl)
theorem cell_b {x : Int} : 0 ≤ (x.fmod 2147483647).fdiv 7 ∧ (x.fmod 2147483647).fdiv 7 < 306783379 := by
  have r := fmod_r (i := x) (j := 2147483647) (by omega)
  rw [Int.fdiv_eq_ediv_of_nonneg _ (by omega)]
  omega
theorem cell_ok (cs : List Int) (hl : cs.length ≤ 63) (k : Int) (h0 : 0 ≤ k) (h1 : k < 1000000) : ∃ v : Int, F_w_cell.run [.dat (.list (iD cs)), .own [.int k]] = .ok (.dat (.int v)) [.int (k + 1)] ∧ 0 ≤ v ∧ v < 306783379 := by
  rw [rz_w_cell]
  refine run_w (R := fun o => ∃ v : Int, o = .ok (.dat (.int v)) [.int (k + 1)] ∧ 0 ≤ v ∧ v < 306783379) ?_
  show Wp (b_w_cell [some (.dat (.list (iD cs))), some (.own [.int k]), none, none, none, none]) _
  unfold b_w_cell
  refine w_C (w_eq (z_Sub (l := 0) (n := 0) (xs := [.int k]) (by walk_at "zz") rfl rfl (by walk_at "zz") rfl rfl rfl) (w_nx ?_))
  refine w_C (w_Set (by walk_at "zz") rfl (w_nx ?_))
  refine w_C (w_Set (by walk_at "zz") rfl (w_nx ?_))
  -- the part behind, whatever the base is
  have tail : ∀ (m : Int) (o1 o2 : Option SV), Wp (((zC (zRet (some 1) (xBin .FloorDiv (xBin .Mod (xBin .Pow (xBin .Mod (xV 3) (xK (.int 2147483647))) (xK (.int 5))) (xK (.int 2147483647))) (xK (.int 7)))) z0)) [some (.dat (.list (iD cs))), some (.own [.int (k + 1)]), some (.dat (.int (k + 1))), some (.dat (.int m)), o1, o2]) (FinR (some 1) fun o => ∃ v : Int, o = .ok (.dat (.int v)) [.int (k + 1)] ∧ 0 ≤ v ∧ v < 306783379) := fun m o1 o2 => by
    refine w_CR (w_Ret (by walk_at "zz") rfl ?_)
    refine ⟨_, rfl, _, rfl, cell_b⟩
  -- the second if
  have mid : ∀ (m : Int) (o1 o2 : Option SV), Wp (((zC (zIf (qCmp .Gt (xBi "len" (aC (xV 0) aN)) (xK (.int 0))) b_w_cell_4a z0) (zC (zRet (some 1) (xBin .FloorDiv (xBin .Mod (xBin .Pow (xBin .Mod (xV 3) (xK (.int 2147483647))) (xK (.int 5))) (xK (.int 2147483647))) (xK (.int 7)))) z0))) [some (.dat (.list (iD cs))), some (.own [.int (k + 1)]), some (.dat (.int (k + 1))), some (.dat (.int m)), o1, o2]) (FinR (some 1) fun o => ∃ v : Int, o = .ok (.dat (.int v)) [.int (k + 1)] ∧ 0 ≤ v ∧ v < 306783379) := fun m o1 o2 => by
    refine w_C (w_If (by walk_at "zz") (fun hb => ?_) fun hb => ?_)
    case refine_2 => exact w_0 (w_nx (tail m o1 o2))
    have hn : 0 < cs.length := by have := of_decide_eq_true hb; rw [iD_len] at this; omega
    obtain ⟨c, _, hc⟩ := ix_iD (k := k + 1) hn
    have hne : ((iD cs).length : Int) ≠ 0 := by rw [iD_len]; omega
    have hdv : divOk ((iD cs).length : Int) = true := by unfold divOk; rw [iD_len, decide_eq_true (by omega), decide_eq_true (by omega)]; rfl
    unfold b_w_cell_4a
    refine w_C (w_Set (by walk_at "zz") rfl ?_)
    exact w_nx (w_0 (w_nx (tail _ o1 o2)))
  refine w_C (w_IfAnd (by walk_at "zz") (fun hb => ?_) fun hb => ?_)
  case refine_2 => exact w_0 (w_nx (mid _ _ _))
  have hn : 0 < cs.length := by have := of_decide_eq_true hb; rw [iD_len] at this; omega
  obtain ⟨c, _, hc⟩ := ix_iD (k := k + 1) hn
  have hne : ((iD cs).length : Int) ≠ 0 := by rw [iD_len]; omega
  have hdv : divOk ((iD cs).length : Int) = true := by unfold divOk; rw [iD_len, decide_eq_true (by omega), decide_eq_true (by omega)]; rfl
  have hsm : small ((k + 1).fdiv ((iD cs).length : Int)) = true := by
    have h2 : 0 ≤ (k + 1).fdiv ((iD cs).length : Int) := Int.fdiv_nonneg (by omega) (by omega)
    have h3 : (k + 1).fdiv ((iD cs).length : Int) ≤ k + 1 := by
      rw [Int.fdiv_eq_ediv_of_nonneg _ (by omega)]
      exact Int.ediv_le_self _ (by omega)
    unfold small
    rw [decide_eq_true (by omega), decide_eq_true (by omega)]; rfl
  refine w_IfAnd (by walk_at "zz") (fun _ => ?_) fun _ => ?_
  case refine_2 => exact w_0 (w_nx (mid _ _ _))
  refine w_If (by walk_at "zz") (fun _ => ?_) fun _ => ?_
  case refine_2 => exact w_0 (w_nx (mid _ _ _))
  unfold b_w_cell_3a
  refine w_C (w_Set (by walk_at "zz") rfl (w_nx ?_))
  refine w_C (w_For (i_R1 (ds := []) (by walk_at "zz") hsm) ?_)
  refine w_inv (fun _ S => ∃ (w : Int) (o5 : Option SV), S = [some (.dat (.list (iD cs))), some (.own [.int (k + 1)]), some (.dat (.int (k + 1))), some (.dat (.int (31 * (k + 1) * (k + 1) + 7919 * (k + 1)))), some (.dat (.int w)), o5]) ⟨_, _, rfl⟩ ?_ ?_
  · rintro d r S ⟨w, o5, rfl⟩
    show Wp (b_w_cell_3a_1l _) _
    unfold b_w_cell_3a_1l
    refine w_C (w_Set (by walk_at "zz") rfl ?_)
    exact w_nx (w_0 (.inl ⟨_, .inl rfl, _, _, rfl⟩))
  · rintro S ⟨w, o5, rfl⟩
    refine w_nx (w_C (w_If (by walk_at "zz") (fun _ => ?_) fun _ => ?_))
    case refine_2 => exact w_0 (w_nx (w_0 (w_nx (mid _ _ _))))
    unfold b_w_cell_3a_2a
    refine w_CR (w_Ret (by walk_at "zz") rfl ?_)
    have r := fmod_r (i := w) (j := 306783379) (by omega)
    first
      | exact w_ret ⟨_, rfl, _, rfl, r⟩
      | exact w_ret (w_ret ⟨_, rfl, _, rfl, r⟩)
      | exact w_ret (w_ret (w_ret ⟨_, rfl, _, rfl, r⟩))
end Z.L

set_option maxHeartbeats 8000000
namespace Z.L
open PySem
local macro_rules | `(tactic| k_upd) => `(tactic| first
  | rfl
  | exact b_mod (by omega)
  | exact b_mod (by decide)
  | exact b_fd (by decide)
  | exact b_fd (divOk_p (by omega) (by omega))
  | exact b_fd (by with_reducible assumption)
  | exact b_mul (mulOk_l (by omega))
  | exact b_mul (mulOk_r (by omega))
  | exact b_mul (by with_reducible assumption)
  | exact b_pow (by decide)
  | ((with_reducible apply b_lst); focus (simp [sizeLine]; done))
  | ((with_reducible apply b_tup); focus (simp [sizeLine]; done))
  | ((with_reducible apply b_rep); focus (simp [sizeLine]; done))
  | with_reducible assumption)
local macro_rules | `(tactic| k_subL) => `(tactic| first
  | exact cv_int _ _
  | exact cn_int _ _
  | exact eq_str _
  | rfl
  | with_reducible assumption)
local macro_rules | `(tactic| k_places) => `(tactic| first
  | with_reducible exact r_K
  | ((with_reducible apply r_V); rfl)
  | ((with_reducible apply r_Vo); rfl)
  | ((with_reducible apply r_Vx); rfl)
  | with_reducible exact a_N
  | ((with_reducible apply a_C); (k_places); (k_places))
  | ((with_reducible apply r_bin); (k_places); (k_places); rfl; rfl; k_upd)
  | ((with_reducible apply r_ix); (k_places); (k_places); rfl; rfl; (first | with_reducible assumption | rfl))
  | ((with_reducible apply r_Sl); k_places; (first | ((with_reducible apply o_S); k_places; rfl) | rfl); (first | ((with_reducible apply o_S); k_places; rfl) | rfl); rfl; (first | with_reducible assumption | rfl))
  | ((with_reducible apply r_Rev); k_places; rfl; rfl)
  | ((with_reducible apply r_Bi); (k_places); (first | with_reducible assumption | rfl))
  | ((with_reducible apply r_Lst); (k_places); rfl; exact le_line (Nat.le_of_ble_eq_true rfl))
  | ((with_reducible apply r_Tup); (k_places); rfl; exact le_line (Nat.le_of_ble_eq_true rfl))
  | ((with_reducible apply r_un); (k_places); rfl; rfl)
  | ((with_reducible apply r_Is); (k_places); rfl)
  | ((with_reducible apply r_Call); (k_places); (k_places); rfl; k_updF)
  | ((with_reducible apply r_CallS); (k_places); (k_places); rfl; rfl; (exact le_line (Nat.le_of_ble_eq_true rfl)); rfl; k_updF)
  | ((with_reducible apply r_LamXF); rfl; k_offL; rfl; k_memK)
  | ((with_reducible apply r_LamVF); rfl; k_places; rfl; rfl; rfl; k_memK)
  | ((with_reducible apply r_cmp); (k_places); (k_places); k_subL)
  | ((with_reducible apply q_cmp); (k_places); (k_places); k_subL)
  | ((with_reducible apply q_Not2); (k_places); rfl)
  | ((with_reducible apply q_OrFF); k_places; (first | rfl | decide | (focus (simp; done))); k_places)
  | ((with_reducible apply q_OrTT); k_places; (first | rfl | decide | (focus (simp; done))); rfl)
  | ((with_reducible apply q_AndTT); k_places; (first | rfl | decide | (focus (simp; done))); k_places)
  | ((with_reducible apply q_AndFF); k_places; (first | rfl | decide | (focus (simp; done))); rfl)
  | ((with_reducible apply q_Tr); (k_places); rfl; rfl)
  | ((with_reducible apply r_App); rfl; (k_places); rfl; rfl; (first | exact le_line (Nat.le_of_ble_eq_true rfl) | (focus (simp [sizeLine]; done)) | omega))
  | with_reducible assumption)
local macro_rules | `(tactic| k_offL) => `(tactic| first
  | ((with_reducible apply r_Call); (k_places); (k_places); rfl; (with_reducible apply c_exc0); rfl; rfl; k_memK; rfl)
  | ((with_reducible apply r_CallS); (k_places); (k_places); rfl; rfl; (exact le_line (Nat.le_of_ble_eq_true rfl)); rfl; (with_reducible apply c_exc0); rfl; rfl; k_memK; rfl))
local macro_rules | `(tactic| k_allIn) => `(tactic| first
  | ((with_reducible refine w_C ?_); k_allIn)
  | ((with_reducible refine w_nx ?_); k_allIn)
  | ((with_reducible refine w_0 ?_); k_allIn)
  | ((with_reducible apply w_Set); (k_places); rfl; k_allIn)
  | ((with_reducible apply w_Ex); (k_places); k_allIn)
  | ((with_reducible apply w_Ret); (k_places); rfl; (try with_reducible refine w_ret ?_))
  | ((with_reducible apply w_Set2); (k_places); rfl; k_allIn)
  | ((with_reducible apply w_Set3); (k_places); rfl; k_allIn)
  | ((with_reducible apply w_Sub); (k_places); rfl; rfl; (k_places); rfl; rfl; rfl; k_allIn)
  | ((with_reducible apply w_IfT); (k_places); (first | rfl | decide | with_reducible assumption | (focus (simp; done))); k_allIn)
  | ((with_reducible apply w_IfF); (k_places); (first | rfl | decide | with_reducible assumption | (focus (simp; done))); k_allIn)
  | skip)
local macro_rules | `(tactic| k_ownIn) => `(tactic| first
  | exact le_line (Nat.le_of_ble_eq_true rfl)
  | exact Nat.lt_of_lt_of_le (Nat.lt_of_le_of_lt (Nat.le_of_ble_eq_true rfl) (by decide : 900 < 1000)) (le_line (Nat.le_refl _))
  | (focus (simp only [iD_len, List.length_append, List.length_cons, List.length_nil, List.length_map, List.length_range, List.length_replicate]; first | exact le_line (by omega) | exact Nat.lt_of_lt_of_le (by omega : _ < 1000) (le_line (Nat.le_refl _)))))
local macro_rules | `(tactic| k_clsL) => `(tactic| first
  | exact mulOk_l (by omega)
  | exact mulOk_r (by omega)
  | with_reducible assumption)
local macro_rules | `(tactic| k_intsEnd) => `(tactic| first
  | decide
  | exact divOk_p (by omega) (by omega)
  | with_reducible assumption)
local macro_rules | `(tactic| k_all) => `(tactic| first
  | rfl
  | exact noL_ints _
  | with_reducible assumption)
local macro_rules | `(tactic| k_memK) => `(tactic| first
  | with_reducible assumption
  | fail "no spec")
local macro_rules | `(tactic| k_updF) => `(tactic| first
  | ((with_reducible apply c_plain); rfl; rfl; (k_memK); rfl)
  | ((with_reducible apply c_io (i := 1) (kk := 1)); rfl; rfl; (k_memK); rfl; rfl; (first | rfl | with_reducible assumption))
  | ((with_reducible apply c_ok0); rfl; rfl; (k_memK); rfl))
theorem tD_noLk (x : List Int) (k : Int) : (noL (.dat (tD x)) && noLsts [.int k]) = true := by
  show (noLst (tD x) && _) = true
  rw [noL_ints]; rfl
theorem dvs_small : ∀ n, n ≤ 36 → (dvs n).length ≤ 36 := fun n h => by
  have := List.length_filter_le (fun k => decide (n % k = 0)) ((List.range n).map (· + 1))
  rw [List.length_map, List.length_range] at this
  unfold dvs; omega
theorem drawn_ok (cs : List Int) (hl : cs.length ≤ 63) (k : Int) (h0 : 0 ≤ k) (h1 : k < 990000) : ∃ (x : List Int) (k' : Int), VL x ∧ k ≤ k' ∧ k' ≤ k + 38 ∧ F_w_drawn.run [.dat (.list (iD cs)), .own [.int k]] = .ok (.dat (tD x)) [.int k'] := by
  rw [rz_w_drawn]
  refine run_w (R := fun o => ∃ (x : List Int) (k' : Int), VL x ∧ k ≤ k' ∧ k' ≤ k + 38 ∧ o = .ok (.dat (tD x)) [.int k']) ?_
  show Wp (b_w_drawn [some (.dat (.list (iD cs))), some (.own [.int k]), none, none, none, none, none, none, none, none, none, none, none, none]) _
  unfold b_w_drawn
  obtain ⟨n, c1_w_cell, n0, n1⟩ := cell_ok cs hl k h0 (by omega)
  obtain ⟨m, c2_w_cell, m0, m1⟩ := cell_ok cs hl (k + 1) (by omega) (by omega)
  obtain ⟨dm, hm, em⟩ := ix_pick (xs := [PyData.int 1, .int 2, .int 3, .int 4, .int 5, .int 6, .int 8, .int 9, .int 10, .int 12, .int 15, .int 16, .int 18, .int 20, .int 24, .int 30, .int 36]) (k := n) (n := 17) rfl (Nat.succ_pos _)
  obtain ⟨N, N1, N2, rfl⟩ : ∃ N : Nat, 1 ≤ N ∧ N ≤ 36 ∧ dm = .int (N : Nat) := by
    simp only [List.mem_cons, List.not_mem_nil, or_false] at hm
    rcases hm with rfl | rfl | rfl | rfl | rfl | rfl | rfl | rfl | rfl | rfl | rfl | rfl | rfl | rfl | rfl | rfl | rfl
    all_goals first
      | exact ⟨1, by decide, by decide, rfl⟩
      | exact ⟨2, by decide, by decide, rfl⟩
      | exact ⟨3, by decide, by decide, rfl⟩
      | exact ⟨4, by decide, by decide, rfl⟩
      | exact ⟨5, by decide, by decide, rfl⟩
      | exact ⟨6, by decide, by decide, rfl⟩
      | exact ⟨8, by decide, by decide, rfl⟩
      | exact ⟨9, by decide, by decide, rfl⟩
      | exact ⟨10, by decide, by decide, rfl⟩
      | exact ⟨12, by decide, by decide, rfl⟩
      | exact ⟨15, by decide, by decide, rfl⟩
      | exact ⟨16, by decide, by decide, rfl⟩
      | exact ⟨18, by decide, by decide, rfl⟩
      | exact ⟨20, by decide, by decide, rfl⟩
      | exact ⟨24, by decide, by decide, rfl⟩
      | exact ⟨30, by decide, by decide, rfl⟩
      | exact ⟨36, by decide, by decide, rfl⟩
  have lcd := fun (s0 s1 s2 s3 s5 s6 s7 s8 s9 s10 s11 s12 s13 : Option SV) => lc_filtN (turn := xTurn [10] (.one 10) (qCmp .Eq (xBin .Mod (xV 4) (xV 10)) (xK (.int 0))) (xV 10)) (S := [s0, s1, s2, s3, some (.dat (.int (N : Nat))), s5, s6, s7, s8, s9, s10, s11, s12, s13]) (ws := (List.range N).map (· + 1)) (p := fun k => decide (N % k = 0)) (fun w hw => by
    obtain ⟨j, _, rfl⟩ := List.mem_map.mp hw
    have e : decide (((N : Nat) : Int).fmod ((j + 1 : Nat) : Int) = 0) = decide (N % (j + 1) = 0) := by
      rw [mod_nat]; exact decide_eq_decide.mpr (by omega)
    exact t_if (t := qCmp .Eq (xBin .Mod (xV 4) (xV 10)) (xK (.int 0))) (b := decide (N % (j + 1) = 0)) (x := .int ((j + 1 : Nat) : Int)) rfl (q_cmp (r_bin (r_V rfl) (r_V rfl) rfl rfl (b_mod (by omega))) r_K (by rw [cv_int, e])) (fun _ => ⟨r_V rfl, rfl⟩) rfl rfl) (by simp; omega)
  rw [← rng1_iN] at lcd
  have er : rng 1 (((N : Nat) : Int) + 1 - 1).toNat = rng 1 N := by rw [show (((N : Nat) : Int) + 1 - 1).toNat = N by omega]
  have d1 : 1 ∈ dvs N := (dvs_mem N1).mpr (Nat.one_dvd _)
  have dl := List.length_pos_of_mem d1
  have dlI : (((iN (dvs N)).length : Nat) : Int) ≠ 0 := by rw [List.length_map]; omega
  have dpick : ∀ t : Int, ∃ a : Nat, 1 ≤ a ∧ a ≤ N ∧ ixD (.list (iN (dvs N))) (.int (t.fmod ((iN (dvs N)).length : Nat))) = some (.int (a : Nat)) := fun t => by
    obtain ⟨d, hd, e⟩ := ix_mod (xs := iN (dvs N)) (k := t) (by rw [List.length_map]; exact dl)
    obtain ⟨a, ha, rfl⟩ := List.mem_map.mp hd
    have ha := (dvs_mem N1).mp ha
    exact ⟨a, Nat.pos_of_dvd_of_pos ha N1, Nat.le_of_dvd N1 ha, e⟩
  obtain ⟨a, a1, a2, ea⟩ := dpick m
  obtain ⟨b, b1, b2, eb⟩ := dpick (m.fdiv 16)
  refine w_C (w_Set2S (S3 := [_, _, _, _, _, _, _, _, _, _, _, _, _, _]) (a_C (r_Call (a_C (r_V rfl) (a_C (r_Vo rfl) a_N)) a_N rfl (c_io (i := 1) (kk := 1) rfl rfl c1_w_cell rfl rfl rfl)) (a_C (r_Call (a_C (r_V rfl) (a_C (r_Vo rfl) a_N)) a_N rfl (c_io (i := 1) (kk := 1) rfl rfl c2_w_cell rfl rfl rfl)) a_N)) rfl rfl (w_nx ?_))
  refine w_C (w_SetS (S3 := [_, _, _, _, _, _, _, _, _, _, _, _, _, _]) (r_ix (r_Lst (a_C r_K (a_C r_K (a_C r_K (a_C r_K (a_C r_K (a_C r_K (a_C r_K (a_C r_K (a_C r_K (a_C r_K (a_C r_K (a_C r_K (a_C r_K (a_C r_K (a_C r_K (a_C r_K (a_C r_K a_N))))))))))))))))) rfl (le_line (Nat.le_of_ble_eq_true rfl))) (r_bin (r_V rfl) r_K rfl rfl (b_mod (by decide))) rfl rfl em) rfl rfl (w_nx ?_))
  refine w_C (w_SetS (S3 := [_, _, _, _, _, _, _, _, _, _, _, _, _, _]) (r_LC (i_R2A (m := 1) (n := (N : Nat) + 1) (a_C r_K (a_C (r_bin (r_V rfl) r_K rfl rfl rfl) a_N))) (er ▸ lcd _ _ _ _ _ _ _ _ _ _ _ _ _)) rfl rfl (w_nx ?_))
  refine w_C (w_Tup (S3 := [_, _, _, _, _, _, _, _, _, _, _, _, _, _]) (r_Tup (a_C (r_ix (r_Vo rfl) (r_bin (r_V rfl) (r_Bi (a_C (r_Vo rfl) a_N) rfl) rfl rfl (b_mod dlI)) rfl rfl ea) (a_C (r_ix (r_Vo rfl) (r_bin (r_bin (r_V rfl) r_K rfl rfl (b_fd (by decide))) (r_Bi (a_C (r_Vo rfl) a_N) rfl) rfl rfl (b_mod dlI)) rfl rfl eb) a_N)) rfl (le_line (Nat.le_of_ble_eq_true rfl))) rfl rfl (w_nx ?_))
  refine w_C (w_Set2S (S3 := [_, _, _, _, _, _, _, _, _, _, _, _, _, _]) (a_C (r_Lst a_N rfl (le_line (Nat.le_of_ble_eq_true rfl))) (a_C (r_bin (r_bin (r_V rfl) r_K rfl rfl (b_fd (by decide))) r_K rfl rfl (b_mod (by decide))) a_N)) rfl rfl (w_nx ?_))
  refine w_C (w_For (i_R1A (n := (N : Nat)) (a_C (r_V rfl) a_N)) ?_)
  rw [Int.toNat_natCast]
  generalize hS5 : (SV.own (iN (dvs N))) = S5
  generalize (n.fdiv 17).fmod 6 = way
  refine w_idx (rng 0 N) (fun i S => ∃ (g : List Int) (k' : Int) (o10 o11 : Option SV), g.length = i ∧ (∀ j, j < i → (g.getD j 0).natAbs ≤ cB j) ∧ k ≤ k' ∧ k' ≤ k + 2 + i ∧ S = [some (.dat (.list (iD cs))), some (.own [.int k']), some (.dat (.int n)), some (.dat (.int m)), some (.dat (.int (N : Nat))), some S5, some (.dat (.int (a : Nat))), some (.dat (.int (b : Nat))), some (.own (iD g)), some (.dat (.int way)), o10, o11, none, none]) ⟨[], k + 2, none, none, rfl, fun j hj => by omega, by omega, by omega, by rw [show k + 1 + 1 = k + 2 by omega, ← hS5]; rfl⟩ ?_ ?_
  · rintro i d S hd ⟨g, k', o10, o11, hg, hb, k1, k2, rfl⟩
    obtain ⟨hi, rfl⟩ := rng_at hd
    show Wp (b_w_drawn_5l [some (.dat (.list (iD cs))), some (.own [.int k']), some (.dat (.int n)), some (.dat (.int m)), some (.dat (.int (N : Nat))), some S5, some (.dat (.int (a : Nat))), some (.dat (.int (b : Nat))), some (.own (iD g)), some (.dat (.int way)), some (.dat (.int (i : Nat))), o11, none, none]) _
    unfold b_w_drawn_5l
    have ext : ∀ y : Int, y.natAbs ≤ cB i → ∀ j, j < i + 1 → ((g ++ [y]).getD j 0).natAbs ≤ cB j := fun y hy j hj => by
      rw [List.getD_eq_getElem?_getD]
      by_cases e : j = i
      · subst e
        rw [List.getElem?_append_right (by omega), hg, Nat.sub_self]; exact hy
      · rw [List.getElem?_append_left (by omega), ← List.getD_eq_getElem?_getD]; exact hb j (by omega)
    have len2 : (iD g).length < sizeLine := by rw [iD_len]; exact Nat.lt_of_lt_of_le (by omega : g.length < 1000) (le_line (Nat.le_refl _))
    by_cases h12 : i < 12
    · obtain ⟨v, c1_w_cell, v0, v1⟩ := cell_ok cs hl k' (by omega) (by omega)
      have cl := (cB_le i (by omega)).1
      refine w_C (w_SetS (S3 := [_, _, _, _, _, _, _, _, _, _, _, _, _, _]) (r_IfF (q_cmp (r_V rfl) r_K (show some (decide ((12 : Int) ≤ (i : Nat))) = some false by rw [decide_eq_false (by omega)])) r_K) rfl rfl (w_nx ?_))
      refine w_C (w_ExS (S3 := [_, _, _, _, _, _, _, _, _, _, _, _, _, _]) (r_App (i := 8) rfl (a_C (r_IfT (q_cmp (r_V rfl) r_K (show some (decide (((i : Nat) : Int) < 12)) = some true by rw [decide_eq_true (by omega)])) (r_Call (a_C (r_V rfl) (a_C (r_Vo rfl) a_N)) a_N rfl (c_io (i := 1) (kk := 1) rfl rfl c1_w_cell rfl rfl rfl))) a_N) rfl rfl len2) rfl (w_nx ?_))
      refine w_0 (.inl ⟨_, .inl rfl, g ++ [v], k' + 1, some (.dat (.int (i : Nat))), some (.dat (.int 0)), by rw [List.length_append, hg]; rfl, ext v (by omega), by omega, by omega, by rw [← iD_app]; rfl⟩)
    · have i1 : atI (iD g) (((i : Nat) : Int) - 12) = some (.int (g.getD (i - 12) 0)) := by
        rw [at_int (by omega) (by omega), show (((i : Nat) : Int) - 12).toNat = i - 12 by omega]
      have i2 : atI (iD g) (((i : Nat) : Int) - 7) = some (.int (g.getD (i - 7) 0)) := by
        rw [at_int (by omega) (by omega), show (((i : Nat) : Int) - 7).toNat = i - 7 by omega]
      have z1 := hb (i - 12) (by omega)
      have z2 := hb (i - 7) (by omega)
      have z3 := cB_step i (by omega) (by omega)
      refine w_C (w_SetS (S3 := [_, _, _, _, _, _, _, _, _, _, _, _, _, _]) (r_IfT (q_cmp (r_V rfl) r_K (show some (decide ((12 : Int) ≤ (i : Nat))) = some true by rw [decide_eq_true (by omega)])) (r_bin (r_bin (r_bin (r_ix (r_Vo rfl) (r_bin (r_V rfl) r_K rfl rfl rfl) rfl rfl i1) r_K rfl rfl (b_mul (mulOk_r (by decide)))) (r_ix (r_Vo rfl) (r_bin (r_V rfl) r_K rfl rfl rfl) rfl rfl i2) rfl rfl rfl) (r_V rfl) rfl rfl rfl)) rfl rfl (w_nx ?_))
      refine w_C (w_ExS (S3 := [_, _, _, _, _, _, _, _, _, _, _, _, _, _]) (r_App (i := 8) rfl (a_C (r_IfF (q_cmp (r_V rfl) r_K (show some (decide (((i : Nat) : Int) < 12)) = some false by rw [decide_eq_false (by omega)])) (r_V rfl)) a_N) rfl rfl len2) rfl (w_nx ?_))
      refine w_0 (.inl ⟨_, .inl rfl, g ++ [g.getD (i - 12) 0 * 48271 + g.getD (i - 7) 0 + (i : Nat)], k', some (.dat (.int (i : Nat))), some (.dat (.int (g.getD (i - 12) 0 * 48271 + g.getD (i - 7) 0 + (i : Nat)))), by rw [List.length_append, hg]; rfl, ext _ (by omega), k1, by omega, by rw [← iD_app]; rfl⟩)
  · rintro S ⟨g, k', o10, o11, hg, hb, k1, k2, rfl⟩
    rw [rng_len] at hg hb k2
    have gb : ∀ y ∈ g, y.natAbs ≤ 10 ^ 23 := fun y hy => by
      obtain ⟨j, hj, rfl⟩ := List.getElem_of_mem hy
      have := hb j (by omega)
      rw [List.getD_eq_getElem?_getD, List.getElem?_eq_getElem hj] at this
      exact Nat.le_trans this (cB_le j (by omega)).2
    refine w_nx ?_
    have lcs := fun (s0 s1 s2 s3 s4 s5 s6 s7 s8 s9 s10 s11 s12 s13 : Option SV) => lc_map (turn := xTurn [11] (.one 11) tYes (xBin .Sub (xBin .Mod (xV 11) (xK (.int 7))) (xK (.int 3)))) (S := [s0, s1, s2, s3, s4, s5, s6, s7, s8, s9, s10, s11, s12, s13]) (ws := g) (f := fun w => .int (w.fmod 7 - 3)) (fun w hw => t_all rfl (r_bin (r_bin (r_V rfl) r_K rfl rfl (b_mod (by decide))) r_K rfl rfl rfl) rfl rfl) (by omega)
    have esm : (g.map fun w => PyData.int (w.fmod 7 - 3)) = iD (g.map fun w => w.fmod 7 - 3) := iD_map _ _
    rw [esm] at lcs
    refine w_C (w_SetS (S3 := [_, _, _, _, _, _, _, _, _, _, _, _, _, _]) (r_LC (i_Sq (r_Vo rfl) rfl rfl) (lcs _ _ _ _ _ _ _ _ _ _ _ _ _ _)) rfl rfl (w_nx ?_))
    have sml : (g.map fun w => w.fmod 7 - 3).length = N := by rw [List.length_map, hg]
    have smb : ∀ y ∈ g.map fun w => w.fmod 7 - 3, y.natAbs ≤ 3 := fun y hy => by
      obtain ⟨w, _, rfl⟩ := List.mem_map.mp hy
      have := fmod_r (i := w) (j := 7) (by omega)
      omega
    generalize hsm : (g.map fun w => w.fmod 7 - 3) = sm at sml smb
    have big : 30 ≤ 10 ^ 30 := by decide
    have big2 : 10 ^ 23 ≤ 10 ^ 30 := by decide +kernel
    have pickb : ∀ (l : List Int) (t : Int) (c : Nat), 1 ≤ c → c ≤ N → l.length = N → (∀ y ∈ l, y.natAbs ≤ 3) → atI (iD l) (t.fmod (c : Nat)) = some (.int (l.getD (t.fmod (c : Nat)).toNat 0)) ∧ (l.getD (t.fmod (c : Nat)).toNat 0).natAbs ≤ 3 := fun l t c c1 c2 hl hy => by
      have r := fmod_r (i := t) (j := (c : Nat)) (by omega)
      exact ⟨at_int r.1 (by omega), hy _ (getD_memI (by omega))⟩
    have ern : rng 0 N = iD ((List.range N).map fun i : Nat => (i : Int)) := by
      rw [rng_iD]
      congr 1
      exact List.map_congr_left fun k _ => Int.zero_add _
    refine w_C (w_If (q_cmp (r_V rfl) r_K rfl) (fun _ => ?_) fun _ => w_0 (w_nx ?_))
    · unfold b_w_drawn_7a
      have rvl : sm.reverse.length = N := by rw [List.length_reverse, sml]
      have rvb : ∀ y ∈ sm.reverse, y.natAbs ≤ 3 := fun y hy => smb y (List.mem_reverse.mp hy)
      have rv : sliceRev (.list (iD sm)) = some (.own (iD sm.reverse)) := by
        show some (SV.own (iD sm).reverse) = _
        rw [iD_rev]
      have lc7 := fun (s0 s1 s2 s3 s4 s5 s8 s9 s10 s11 : Option SV) => lc_map (turn := xTurn [10] (.one 10) tYes (xBin .Add (xIx (xV 12) (xBin .Mod (xV 10) (xV 6))) (xIx (xV 13) (xBin .Mod (xV 10) (xV 7))))) (S := [s0, s1, s2, s3, s4, s5, some (.dat (.int (a : Nat))), some (.dat (.int (b : Nat))), s8, s9, s10, s11, some (.own (iD sm)), some (.own (iD sm.reverse))]) (ws := (List.range N).map fun i : Nat => (i : Int)) (f := fun w => .int (sm.getD (w.fmod (a : Nat)).toNat 0 + sm.reverse.getD (w.fmod (b : Nat)).toNat 0)) (fun w hw => t_all rfl (r_bin (r_ix (r_Vo rfl) (r_bin (r_V rfl) (r_V rfl) rfl rfl (b_mod (by omega))) rfl rfl (pickb sm w a a1 a2 sml smb).1) (r_ix (r_Vo rfl) (r_bin (r_V rfl) (r_V rfl) rfl rfl (b_mod (by omega))) rfl rfl (pickb sm.reverse w b b1 b2 rvl rvb).1) rfl rfl rfl) rfl rfl) (by simp; omega)
      rw [← ern, iD_map (fun w : Int => sm.getD (w.fmod (a : Nat)).toNat 0 + sm.reverse.getD (w.fmod (b : Nat)).toNat 0)] at lc7
      refine w_C (w_SetS (S3 := [_, _, _, _, _, _, _, _, _, _, _, _, _, _]) (r_Rev (r_Vo rfl) rfl rv) rfl rfl (w_nx ?_))
      refine w_CR (w_Ret (r_Bi (a_C (r_LC (i_R1A (n := (N : Nat)) (a_C (r_V rfl) a_N)) (by rw [Int.toNat_natCast]; exact lc7 _ _ _ _ _ _ _ _ _ _)) a_N) rfl) rfl (w_ret ?_))
      refine ⟨_, rfl, _, k', ⟨by simp; omega, by simp; omega, fun y hy => ?_⟩, by omega, by omega, rfl⟩
      obtain ⟨w, _, rfl⟩ := List.mem_map.mp hy
      have p1 := (pickb sm w a a1 a2 sml smb).2
      have p2 := (pickb sm.reverse w b b1 b2 rvl rvb).2
      omega
    refine w_C (w_If (q_cmp (r_V rfl) r_K (cv_int _ _)) (fun _ => ?_) fun _ => w_0 (w_nx ?_))
    · unfold b_w_drawn_8a
      have lc8 := fun (s0 s1 s2 s3 s4 s5 s7 s8 s9 s10 s11 s13 : Option SV) => lc_map (turn := xTurn [10] (.one 10) tYes (xIx (xV 12) (xBin .Mod (xV 10) (xV 6)))) (S := [s0, s1, s2, s3, s4, s5, some (.dat (.int (a : Nat))), s7, s8, s9, s10, s11, some (.own (iD sm)), s13]) (ws := (List.range N).map fun i : Nat => (i : Int)) (f := fun w => .int (sm.getD (w.fmod (a : Nat)).toNat 0)) (fun w hw => t_all rfl (r_ix (r_Vo rfl) (r_bin (r_V rfl) (r_V rfl) rfl rfl (b_mod (by omega))) rfl rfl (pickb sm w a a1 a2 sml smb).1) rfl rfl) (by simp; omega)
      rw [← ern, iD_map (fun w : Int => sm.getD (w.fmod (a : Nat)).toNat 0)] at lc8
      refine w_CR (w_Ret (r_Bi (a_C (r_LC (i_R1A (n := (N : Nat)) (a_C (r_V rfl) a_N)) (by rw [Int.toNat_natCast]; exact lc8 _ _ _ _ _ _ _ _ _ _ _ _)) a_N) rfl) rfl (w_ret ?_))
      refine ⟨_, rfl, _, k', ⟨by simp; omega, by simp; omega, fun y hy => ?_⟩, by omega, by omega, rfl⟩
      obtain ⟨w, _, rfl⟩ := List.mem_map.mp hy
      have p1 := (pickb sm w a a1 a2 sml smb).2
      omega
    refine w_C (w_If (q_cmp (r_V rfl) r_K (cv_int _ _)) (fun _ => ?_) fun _ => w_0 (w_nx ?_))
    · unfold b_w_drawn_9a
      have p20 : (10 : Int) ^ Int.toNat 20 = 100000000000000000000 := by decide +kernel
      have lc9 := fun (s0 s1 s2 s3 s4 s5 s6 s7 s8 s9 s10 s11 s12 s13 : Option SV) => lc_map (turn := xTurn [11] (.one 11) tYes (xBin .Add (xBin .Mult (xBin .Sub (xBin .Mod (xV 11) (xK (.int 1000003))) (xK (.int 500001))) (xBin .Pow (xK (.int 10)) (xK (.int 20)))) (xV 11))) (S := [s0, s1, s2, s3, s4, s5, s6, s7, s8, s9, s10, s11, s12, s13]) (ws := g) (f := fun w => .int ((w.fmod 1000003 - 500001) * 10 ^ Int.toNat 20 + w)) (fun w hw => by
        have r := fmod_r (i := w) (j := 1000003) (by omega)
        exact t_all rfl (r_bin (r_bin (r_bin (r_bin (r_V rfl) r_K rfl rfl (b_mod (by decide))) r_K rfl rfl rfl) (r_bin r_K r_K rfl rfl (b_pow (by decide))) rfl rfl (b_mul (mulOk_l (by omega)))) (r_V rfl) rfl rfl rfl) rfl rfl) (by omega)
      rw [iD_map (fun w : Int => (w.fmod 1000003 - 500001) * 10 ^ Int.toNat 20 + w)] at lc9
      refine w_CR (w_Ret (r_Bi (a_C (r_LC (i_Sq (r_V rfl) rfl rfl) (lc9 _ _ _ _ _ _ _ _ _ _ _ _ _ _)) a_N) rfl) rfl (w_ret ?_))
      refine ⟨_, rfl, _, k', ⟨by simp; omega, by simp; omega, fun y hy => ?_⟩, by omega, by omega, rfl⟩
      obtain ⟨w, hw, rfl⟩ := List.mem_map.mp hy
      have r := fmod_r (i := w) (j := 1000003) (by omega)
      have gw := gb w hw
      have e23 : (10 : Nat) ^ 23 = 100000000000000000000000 := by decide +kernel
      have e30 : (10 : Nat) ^ 30 = 1000000000000000000000000000000 := by decide +kernel
      show ((w.fmod 1000003 - 500001) * 10 ^ Int.toNat 20 + w).natAbs ≤ _
      rw [p20, e30]
      rw [e23] at gw
      omega
    by_cases h4 : way = 4
    · have lc10 := fun (s0 s1 s2 s3 s4 s5 s6 s7 s8 s9 s10 s11 s12 s13 : Option SV) => lc_map (turn := xTurn [11] (.one 11) tYes (xBin .Mult (xK (.int 0)) (xV 11))) (S := [s0, s1, s2, s3, s4, s5, s6, s7, s8, s9, s10, s11, s12, s13]) (ws := g) (f := fun w => .int (0 * w)) (fun w hw => t_all rfl (r_bin r_K (r_V rfl) rfl rfl (b_mul (mulOk_l (by decide)))) rfl rfl) (by omega)
      rw [iD_map (fun w : Int => 0 * w)] at lc10
      refine w_CR (w_Ret (r_IfT (q_cmp (r_V rfl) r_K (by rw [cv_int, decide_eq_true h4])) (r_Bi (a_C (r_LC (i_Sq (r_V rfl) rfl rfl) (lc10 _ _ _ _ _ _ _ _ _ _ _ _ _ _)) a_N) rfl)) rfl ?_)
      refine ⟨_, rfl, _, k', ⟨by simp; omega, by simp; omega, fun y hy => ?_⟩, by omega, by omega, rfl⟩
      obtain ⟨w, hw, rfl⟩ := List.mem_map.mp hy
      rw [Int.zero_mul]; exact Nat.zero_le _
    · refine w_CR (w_Ret (r_IfF (q_cmp (r_V rfl) r_K (by rw [cv_int, decide_eq_false h4])) (r_Bi (a_C (r_Vo rfl) a_N) rfl)) rfl ?_)
      refine ⟨_, rfl, sm, k', ⟨by omega, by omega, fun y hy => ?_⟩, by omega, by omega, rfl⟩
      have := smb y hy
      omega

end Z.L

set_option maxHeartbeats 8000000
namespace Z.L
open PySem
local macro_rules | `(tactic| k_upd) => `(tactic| first
  | rfl
  | exact b_mod (by omega)
  | exact b_mod (by decide)
  | exact b_fd (by decide)
  | exact b_fd (divOk_p (by omega) (by omega))
  | exact b_fd (by with_reducible assumption)
  | exact b_mul (mulOk_l (by omega))
  | exact b_mul (mulOk_r (by omega))
  | exact b_mul (by with_reducible assumption)
  | exact b_pow (by decide)
  | ((with_reducible apply b_lst); focus (simp [sizeLine]; done))
  | ((with_reducible apply b_tup); focus (simp [sizeLine]; done))
  | ((with_reducible apply b_rep); focus (simp [sizeLine]; done))
  | with_reducible assumption)
local macro_rules | `(tactic| k_subL) => `(tactic| first
  | exact cv_int _ _
  | exact cn_int _ _
  | exact eq_str _
  | rfl
  | with_reducible assumption)
local macro_rules | `(tactic| k_places) => `(tactic| first
  | with_reducible exact r_K
  | ((with_reducible apply r_V); rfl)
  | ((with_reducible apply r_Vo); rfl)
  | ((with_reducible apply r_Vx); rfl)
  | with_reducible exact a_N
  | ((with_reducible apply a_C); (k_places); (k_places))
  | ((with_reducible apply r_bin); (k_places); (k_places); rfl; rfl; k_upd)
  | ((with_reducible apply r_ix); (k_places); (k_places); rfl; rfl; (first | with_reducible assumption | rfl))
  | ((with_reducible apply r_Sl); k_places; (first | ((with_reducible apply o_S); k_places; rfl) | rfl); (first | ((with_reducible apply o_S); k_places; rfl) | rfl); rfl; (first | with_reducible assumption | rfl))
  | ((with_reducible apply r_Rev); k_places; rfl; rfl)
  | ((with_reducible apply r_Bi); (k_places); (first | with_reducible assumption | rfl))
  | ((with_reducible apply r_Lst); (k_places); rfl; exact le_line (Nat.le_of_ble_eq_true rfl))
  | ((with_reducible apply r_Tup); (k_places); rfl; exact le_line (Nat.le_of_ble_eq_true rfl))
  | ((with_reducible apply r_un); (k_places); rfl; rfl)
  | ((with_reducible apply r_Is); (k_places); rfl)
  | ((with_reducible apply r_Call); (k_places); (k_places); rfl; k_updF)
  | ((with_reducible apply r_CallS); (k_places); (k_places); rfl; rfl; (exact le_line (Nat.le_of_ble_eq_true rfl)); rfl; k_updF)
  | ((with_reducible apply r_LamXF); rfl; k_offL; rfl; k_memK)
  | ((with_reducible apply r_LamVF); rfl; k_places; rfl; rfl; rfl; k_memK)
  | ((with_reducible apply r_cmp); (k_places); (k_places); k_subL)
  | ((with_reducible apply q_cmp); (k_places); (k_places); k_subL)
  | ((with_reducible apply q_Not2); (k_places); rfl)
  | ((with_reducible apply q_OrFF); k_places; (first | rfl | decide | (focus (simp; done))); k_places)
  | ((with_reducible apply q_OrTT); k_places; (first | rfl | decide | (focus (simp; done))); rfl)
  | ((with_reducible apply q_AndTT); k_places; (first | rfl | decide | (focus (simp; done))); k_places)
  | ((with_reducible apply q_AndFF); k_places; (first | rfl | decide | (focus (simp; done))); rfl)
  | ((with_reducible apply q_Tr); (k_places); rfl; rfl)
  | ((with_reducible apply r_App); rfl; (k_places); rfl; rfl; (first | exact le_line (Nat.le_of_ble_eq_true rfl) | (focus (simp [sizeLine]; done)) | omega))
  | with_reducible assumption)
local macro_rules | `(tactic| k_offL) => `(tactic| first
  | ((with_reducible apply r_Call); (k_places); (k_places); rfl; (with_reducible apply c_exc0); rfl; rfl; k_memK; rfl)
  | ((with_reducible apply r_CallS); (k_places); (k_places); rfl; rfl; (exact le_line (Nat.le_of_ble_eq_true rfl)); rfl; (with_reducible apply c_exc0); rfl; rfl; k_memK; rfl))
local macro_rules | `(tactic| k_allIn) => `(tactic| first
  | ((with_reducible refine w_C ?_); k_allIn)
  | ((with_reducible refine w_nx ?_); k_allIn)
  | ((with_reducible refine w_0 ?_); k_allIn)
  | ((with_reducible apply w_Set); (k_places); rfl; k_allIn)
  | ((with_reducible apply w_Ex); (k_places); k_allIn)
  | ((with_reducible apply w_Ret); (k_places); rfl; (try with_reducible refine w_ret ?_))
  | ((with_reducible apply w_Set2); (k_places); rfl; k_allIn)
  | ((with_reducible apply w_Set3); (k_places); rfl; k_allIn)
  | ((with_reducible apply w_Sub); (k_places); rfl; rfl; (k_places); rfl; rfl; rfl; k_allIn)
  | ((with_reducible apply w_IfT); (k_places); (first | rfl | decide | with_reducible assumption | (focus (simp; done))); k_allIn)
  | ((with_reducible apply w_IfF); (k_places); (first | rfl | decide | with_reducible assumption | (focus (simp; done))); k_allIn)
  | skip)
local macro_rules | `(tactic| k_ownIn) => `(tactic| first
  | exact le_line (Nat.le_of_ble_eq_true rfl)
  | exact Nat.lt_of_lt_of_le (Nat.lt_of_le_of_lt (Nat.le_of_ble_eq_true rfl) (by decide : 900 < 1000)) (le_line (Nat.le_refl _))
  | (focus (simp only [iD_len, List.length_append, List.length_cons, List.length_nil, List.length_map, List.length_range, List.length_replicate]; first | exact le_line (by omega) | exact Nat.lt_of_lt_of_le (by omega : _ < 1000) (le_line (Nat.le_refl _)))))
local macro_rules | `(tactic| k_clsL) => `(tactic| first
  | exact mulOk_l (by omega)
  | exact mulOk_r (by omega)
  | with_reducible assumption)
local macro_rules | `(tactic| k_intsEnd) => `(tactic| first
  | decide
  | exact divOk_p (by omega) (by omega)
  | with_reducible assumption)
local macro_rules | `(tactic| k_all) => `(tactic| first
  | rfl
  | exact noL_ints _
  | with_reducible assumption)
local macro_rules | `(tactic| k_memK) => `(tactic| first
  | with_reducible assumption
  | fail "no spec")
local macro_rules | `(tactic| k_updF) => `(tactic| first
  | ((with_reducible apply c_plain); rfl; rfl; (k_memK); rfl)
  | ((with_reducible apply c_io (i := 1) (kk := 1)); rfl; rfl; (k_memK); rfl; rfl; (first | rfl | with_reducible assumption))
  | ((with_reducible apply c_ok0); rfl; rfl; (k_memK); rfl))
theorem same_ok (d : D) (k : Nat) (hk : k ≤ 10) (s : Str) (hr : reprD (.list (List.replicate k d)) = some (.str s)) : F_w_same.run [.dat (.list (List.replicate k d)), .dat d] = .ok (.dat (.bool true)) [] := by
  rw [rz_w_same]
  refine run_w (R := fun o => o = .ok (.dat (.bool true)) []) ?_
  show Wp (b_w_same [some (.dat (.list (List.replicate k d))), some (.dat d)]) _
  unfold b_w_same
  have e : binD .Mult (.list [d]) (.int (((List.replicate k d).length : Nat) : Int)) = some (.own (List.replicate k d)) := by
    rw [List.length_replicate, b_rep (by rw [decide_eq_true (by omega), decide_eq_true (by omega), decide_eq_true (Nat.le_trans (by rw [Int.toNat_natCast]; show 1 * k ≤ 1000; omega) (le_line (Nat.le_refl _)))]; rfl), Int.toNat_natCast, flat_repD]
  exact w_CR (w_Ret (r_cmp (r_Bi (a_C (r_V rfl) a_N) (bi_repr rfl hr)) (r_Bi (a_C (r_bin (r_Lst (a_C (r_V rfl) a_N) rfl (le_line (Nat.le_of_ble_eq_true rfl))) (r_Bi (a_C (r_V rfl) a_N) rfl) rfl rfl e) a_N) (bi_repr rfl hr)) (eq_str _)) rfl rfl)
theorem told_loop (d : D) : F_w_told.run [.thk none "InvalidLoop" [("position", d)]] = .ok (.dat (.tuple [.str "loop", d])) [] := by kernel_rfl
/-- the positions -/
def PosD (p : D) : Prop := p = .none ∨ ∃ k : Nat, k ≤ 40 ∧ p = .int (k : Nat)
theorem shC_str (s : Str) (h2 : shC (.str s) 0 400 := by exact ⟨by decide, by decide, by decide, by decide⟩) : shC (.str s) 0 400 := h2
theorem shC_pos {p : D} (h : PosD p) : shC p 0 400 := by
  rcases h with rfl | ⟨k, hk, rfl⟩
  · exact ⟨by decide, by decide, by decide, by decide⟩
  · exact shC_int (Nat.lt_of_le_of_lt (show ((k : Nat) : Int).natAbs ≤ 40 by omega) (by decide +kernel))
theorem shC_le {d : D} {dp w dp' w' : Nat} (h : shC d dp w) (h1 : dp ≤ dp') (h2 : w ≤ w') : shC d dp' w' := ⟨h.1, h.2.1, Nat.le_trans h.2.2.1 h2, Nat.le_trans h.2.2.2 h1⟩
theorem shC_two {a b : D} {dp w : Nat} (ha : shC a dp w) (hb : shC b dp w) : shC (.tuple [a, b]) (dp + 1) (2 * (w + 1)) := shC_tup (dp := dp) (w := w) (fun e he => by
  simp only [List.mem_cons, List.not_mem_nil, or_false] at he
  rcases he with rfl | rfl
  · exact ha
  · exact hb) (Nat.le_refl _)
theorem same_n {d : D} {dp w : Nat} (k : Nat) (hk : k ≤ 10) (h : shC d dp w) (h2 : dp ≤ 19) (h3 : k * (w + 1) ≤ 160000) : F_w_same.run [.dat (.list (List.replicate k d)), .dat d] = .ok (.dat (.bool true)) [] := same_ok d k hk _ (rep_same h h2 h3)
theorem bad_pick {x : List Int} (hx : x.length ≤ 36) (n : Int) : ∃ bd pa, ixD (.list [.tuple [.none, .none], .tuple [.tuple [], .none], .tuple [.list [.int 1, .int 2], .none], .tuple [.tuple (iD x ++ [.bool true]), .int ((iD x).length : Nat)], .tuple [.tuple [.str "1", .int 1], .int 0]]) (.int (n.fmod 5)) = some (.tuple [bd, pa]) ∧ wrL bd = some pa ∧ PosD pa := by
  obtain ⟨d, hd, e⟩ := ix_pick (xs := [PyData.tuple [.none, .none], .tuple [.tuple [], .none], .tuple [.list [.int 1, .int 2], .none], .tuple [.tuple (iD x ++ [.bool true]), .int ((iD x).length : Nat)], .tuple [.tuple [.str "1", .int 1], .int 0]]) (k := n) (n := 5) rfl (Nat.succ_pos _)
  rw [e]
  simp only [List.mem_cons, List.not_mem_nil, or_false] at hd
  rcases hd with rfl | rfl | rfl | rfl | rfl
  · exact ⟨_, _, rfl, rfl, .inl rfl⟩
  · exact ⟨_, _, rfl, rfl, .inl rfl⟩
  · exact ⟨_, _, rfl, rfl, .inl rfl⟩
  · exact ⟨_, _, rfl, by rw [iD_len]; exact wr_tail x (by omega), .inr ⟨_, by rw [iD_len]; omega, rfl⟩⟩
  · exact ⟨_, _, rfl, rfl, .inr ⟨0, by omega, rfl⟩⟩
theorem vl_sh {x : List Int} (v : VL x) : shC (tD x) 1 (36 * 401) := shC_ints (fun i hi => Nat.lt_of_le_of_lt (v.2.2 i hi) (by decide +kernel)) v.2.1
theorem vl_of {x y : List Int} (v : VL x) (h : y.length = x.length) (hm : ∀ i ∈ y, i ∈ x) : VL y := ⟨by rw [h]; exact v.1, by rw [h]; exact v.2.1, fun i hi => v.2.2 i (hm i hi)⟩
theorem vl_rot {x : List Int} (v : VL x) (w : Int) : VL (rot x w) := vl_of v (rot_len x w) fun i hi => by
  obtain ⟨k, _, rfl⟩ := List.mem_map.mp hi
  exact tooth_mem v.1 _
theorem vl_mir {x : List Int} (v : VL x) : VL (mir x) := vl_of v (mir_len x) fun i hi => by
  obtain ⟨k, _, rfl⟩ := List.mem_map.mp hi
  exact tooth_mem v.1 _
theorem shN {l : List Nat} {n : Nat} (hl : l.length ≤ n) (h : ∀ k ∈ l, k ≤ 100000) : shC (.tuple (iN l)) 1 (n * 401) := by
  refine shC_tup (dp := 0) (w := 400) (fun d hd => ?_) (by rw [List.length_map]; exact hl)
  obtain ⟨k, hk, rfl⟩ := List.mem_map.mp hd
  exact shC_int (Nat.lt_of_le_of_lt (show ((k : Nat) : Int).natAbs ≤ 100000 by have := h k hk; omega) (by decide +kernel))
theorem spL_len (x : List Int) : (spL x).length ≤ x.length := by
  unfold spL dvs
  have h1 := List.length_filter_le (resB x) (((List.range x.length).map (· + 1)).filter fun k => decide (x.length % k = 0))
  have h2 := List.length_filter_le (fun k => decide (x.length % k = 0)) ((List.range x.length).map (· + 1))
  rw [List.length_map, List.length_range] at h2
  omega
theorem spL_le {x : List Int} (h : 1 ≤ x.length) : ∀ k ∈ spL x, 1 ≤ k ∧ k ≤ x.length := fun k hk => by
  have := ((spL_mem h).mp hk).1
  exact ⟨Nat.pos_of_dvd_of_pos this h, Nat.le_of_dvd h this⟩

end Z.L

set_option maxHeartbeats 8000000
namespace Z.L
open PySem
local macro_rules | `(tactic| k_upd) => `(tactic| first
  | rfl
  | exact b_mod (by omega)
  | exact b_mod (by decide)
  | exact b_fd (by decide)
  | exact b_fd (divOk_p (by omega) (by omega))
  | exact b_fd (by with_reducible assumption)
  | exact b_mul (mulOk_l (by omega))
  | exact b_mul (mulOk_r (by omega))
  | exact b_mul (by with_reducible assumption)
  | exact b_pow (by decide)
  | ((with_reducible apply b_lst); focus (simp [sizeLine]; done))
  | ((with_reducible apply b_tup); focus (simp [sizeLine]; done))
  | ((with_reducible apply b_rep); focus (simp [sizeLine]; done))
  | with_reducible assumption)
local macro_rules | `(tactic| k_subL) => `(tactic| first
  | exact cv_int _ _
  | exact cn_int _ _
  | exact eq_str _
  | rfl
  | with_reducible assumption)
local macro_rules | `(tactic| k_places) => `(tactic| first
  | with_reducible exact r_K
  | ((with_reducible apply r_V); rfl)
  | ((with_reducible apply r_Vo); rfl)
  | ((with_reducible apply r_Vx); rfl)
  | with_reducible exact a_N
  | ((with_reducible apply a_C); (k_places); (k_places))
  | ((with_reducible apply r_bin); (k_places); (k_places); rfl; rfl; k_upd)
  | ((with_reducible apply r_ix); (k_places); (k_places); rfl; rfl; (first | with_reducible assumption | rfl))
  | ((with_reducible apply r_Sl); k_places; (first | ((with_reducible apply o_S); k_places; rfl) | rfl); (first | ((with_reducible apply o_S); k_places; rfl) | rfl); rfl; (first | with_reducible assumption | rfl))
  | ((with_reducible apply r_Rev); k_places; rfl; rfl)
  | ((with_reducible apply r_Bi); (k_places); (first | with_reducible assumption | rfl))
  | ((with_reducible apply r_Lst); (k_places); rfl; exact le_line (Nat.le_of_ble_eq_true rfl))
  | ((with_reducible apply r_Tup); (k_places); rfl; exact le_line (Nat.le_of_ble_eq_true rfl))
  | ((with_reducible apply r_un); (k_places); rfl; rfl)
  | ((with_reducible apply r_Is); (k_places); rfl)
  | ((with_reducible apply r_Call); (k_places); (k_places); rfl; k_updF)
  | ((with_reducible apply r_CallS); (k_places); (k_places); rfl; rfl; (exact le_line (Nat.le_of_ble_eq_true rfl)); rfl; k_updF)
  | ((with_reducible apply r_LamXF); rfl; k_offL; rfl; k_memK)
  | ((with_reducible apply r_LamVF); rfl; k_places; rfl; rfl; rfl; k_memK)
  | ((with_reducible apply r_cmp); (k_places); (k_places); k_subL)
  | ((with_reducible apply q_cmp); (k_places); (k_places); k_subL)
  | ((with_reducible apply q_Not2); (k_places); rfl)
  | ((with_reducible apply q_OrFF); k_places; (first | rfl | decide | (focus (simp; done))); k_places)
  | ((with_reducible apply q_OrTT); k_places; (first | rfl | decide | (focus (simp; done))); rfl)
  | ((with_reducible apply q_AndTT); k_places; (first | rfl | decide | (focus (simp; done))); k_places)
  | ((with_reducible apply q_AndFF); k_places; (first | rfl | decide | (focus (simp; done))); rfl)
  | ((with_reducible apply q_Tr); (k_places); rfl; rfl)
  | ((with_reducible apply r_App); rfl; (k_places); rfl; rfl; (first | exact le_line (Nat.le_of_ble_eq_true rfl) | (focus (simp [sizeLine]; done)) | omega))
  | with_reducible assumption)
local macro_rules | `(tactic| k_offL) => `(tactic| first
  | ((with_reducible apply r_Call); (k_places); (k_places); rfl; (with_reducible apply c_exc0); rfl; rfl; k_memK; rfl)
  | ((with_reducible apply r_CallS); (k_places); (k_places); rfl; rfl; (exact le_line (Nat.le_of_ble_eq_true rfl)); rfl; (with_reducible apply c_exc0); rfl; rfl; k_memK; rfl))
local macro_rules | `(tactic| k_allIn) => `(tactic| first
  | ((with_reducible refine w_C ?_); k_allIn)
  | ((with_reducible refine w_nx ?_); k_allIn)
  | ((with_reducible refine w_0 ?_); k_allIn)
  | ((with_reducible apply w_Set); (k_places); rfl; k_allIn)
  | ((with_reducible apply w_Ex); (k_places); k_allIn)
  | ((with_reducible apply w_Ret); (k_places); rfl; (try with_reducible refine w_ret ?_))
  | ((with_reducible apply w_Set2); (k_places); rfl; k_allIn)
  | ((with_reducible apply w_Set3); (k_places); rfl; k_allIn)
  | ((with_reducible apply w_Sub); (k_places); rfl; rfl; (k_places); rfl; rfl; rfl; k_allIn)
  | ((with_reducible apply w_IfT); (k_places); (first | rfl | decide | with_reducible assumption | (focus (simp; done))); k_allIn)
  | ((with_reducible apply w_IfF); (k_places); (first | rfl | decide | with_reducible assumption | (focus (simp; done))); k_allIn)
  | skip)
local macro_rules | `(tactic| k_ownIn) => `(tactic| first
  | exact le_line (Nat.le_of_ble_eq_true rfl)
  | exact Nat.lt_of_lt_of_le (Nat.lt_of_le_of_lt (Nat.le_of_ble_eq_true rfl) (by decide : 900 < 1000)) (le_line (Nat.le_refl _))
  | (focus (simp only [iD_len, List.length_append, List.length_cons, List.length_nil, List.length_map, List.length_range, List.length_replicate]; first | exact le_line (by omega) | exact Nat.lt_of_lt_of_le (by omega : _ < 1000) (le_line (Nat.le_refl _)))))
local macro_rules | `(tactic| k_clsL) => `(tactic| first
  | exact mulOk_l (by omega)
  | exact mulOk_r (by omega)
  | with_reducible assumption)
local macro_rules | `(tactic| k_intsEnd) => `(tactic| first
  | decide
  | exact divOk_p (by omega) (by omega)
  | with_reducible assumption)
local macro_rules | `(tactic| k_all) => `(tactic| first
  | rfl
  | exact noL_ints _
  | with_reducible assumption)
local macro_rules | `(tactic| k_memK) => `(tactic| first
  | with_reducible assumption
  | fail "no spec")
local macro_rules | `(tactic| k_updF) => `(tactic| first
  | ((with_reducible apply c_plain); rfl; rfl; (k_memK); rfl)
  | ((with_reducible apply c_io (i := 1) (kk := 1)); rfl; rfl; (k_memK); rfl; rfl; (first | rfl | with_reducible assumption))
  | ((with_reducible apply c_ok0); rfl; rfl; (k_memK); rfl))
/-- a loop folded, as far as the law's own words have gone -/
def fdP (x : List Int) (d i : Nat) (s : Nat) : Int := PS i fun j => if (d : Int) ∣ j - (s : Nat) then tooth x j else 0
theorem fdP_step (x : List Int) {d s : Nat} (i : Nat) (hs : s < d) : fdP x d (i + 1) s = fdP x d i s + if s = i % d then tooth x (i : Nat) else 0 := by
  show fdP x d i s + (if (d : Int) ∣ ((i : Nat) : Int) - (s : Nat) then tooth x (i : Nat) else 0) = _
  refine congrArg (fdP x d i s + ·) (iteP ?_)
  rw [Int.dvd_iff_emod_eq_zero, ← Int.emod_eq_emod_iff_emod_sub_eq_zero]
  have e1 : ((i : Nat) : Int) % (d : Nat) = ((i % d : Nat) : Int) := rfl
  have e2 : ((s : Nat) : Int) % (d : Nat) = ((s % d : Nat) : Int) := rfl
  rw [e1, e2, Nat.mod_eq_of_lt hs]
  omega
theorem PS_bd {B : Nat} {g : Int → Int} (h : ∀ k, (g k).natAbs ≤ B) : ∀ n, (PS n g).natAbs ≤ n * B
  | 0 => Nat.zero_le _
  | n + 1 => by
    have := PS_bd h n
    have := h (n : Nat)
    show (PS n g + g (n : Nat)).natAbs ≤ _
    rw [Nat.succ_mul]
    omega
theorem fdL_bd {x : List Int} {B : Nat} (hx : 1 ≤ x.length) (h : ∀ i ∈ x, i.natAbs ≤ B) (d : Nat) : ∀ i ∈ fdL x d, i.natAbs ≤ x.length * B := fun i hi => by
  obtain ⟨s, _, rfl⟩ := List.mem_map.mp hi
  refine PS_bd (fun k => ?_) _
  split
  · exact h _ (tooth_ix (w := k) hx).2
  · exact Nat.zero_le _
theorem fdr_ok {x : List Int} (v : VL x) {d : Nat} (hd : d ∣ x.length) : F_w_folded_right.run [.dat (tD x), .dat (.int (d : Nat))] = .ok (.dat (.bool true)) [] := by
  have v1 := v.1
  have v2 := v.2.1
  have d1 := Nat.pos_of_dvd_of_pos hd v1
  have d2 := Nat.le_of_dvd v1 hd
  rw [rz_w_folded_right]
  refine run_w (R := fun o => o = .ok (.dat (.bool true)) []) ?_
  show Wp (b_w_folded_right [some (.dat (tD x)), some (.dat (.int (d : Nat))), none, none, none, none]) _
  unfold b_w_folded_right
  have c1 := fold_ok v1 (by omega) (by omega) hd
  have rx : reprD (tD x) = some (.str (tD x).shown) := repC (shC_ints (n := 36) (fun i hi => Nat.lt_of_le_of_lt (v.2.2 i hi) (by decide +kernel)) v2) (by omega) (by omega)
  have c2 := same_n 2 (by omega) (shC_ints (l := fdL x d) (n := 36) (fun i hi => Nat.lt_of_le_of_lt (fdL_bd v1 v.2.2 d i hi) (Nat.lt_of_le_of_lt (Nat.mul_le_mul_right _ v2) (by decide +kernel))) (by rw [fdL_len]; omega)) (by omega) (by omega)
  have b0 : binD .Mult (.list [.int 0]) (.int (d : Nat)) = some (.own (iD ((List.range d).map fun s => fdP x d 0 s))) := by
    rw [b_rep (by rw [decide_eq_true (by omega), decide_eq_true (by omega), decide_eq_true (show ([PyData.int 0] : List D).length * ((d : Nat) : Int).toNat ≤ sizeLine by rw [Int.toNat_natCast]; show 1 * d ≤ _; unfold sizeLine; omega)]; rfl), Int.toNat_natCast, flat_repD]
    refine congrArg (fun l => some (SV.own l)) ?_
    refine List.ext_getElem (by simp [iD_len]) fun i h1 h2 => ?_
    simp [iD, fdP, PS, Sm]
  refine w_C (w_Set2S (S3 := [_, _, _, _, _, _]) (a_C (r_bin (r_Lst (a_C r_K a_N) rfl (le_line (Nat.le_of_ble_eq_true rfl))) (r_V rfl) rfl rfl b0) (a_C (r_Bi (a_C (r_V rfl) a_N) (bi_repr rfl rx)) a_N)) rfl rfl (w_nx ?_))
  refine w_C (w_For (i_R1A (n := ((iD x).length : Nat)) (a_C (r_Bi (a_C (r_V rfl) a_N) rfl) a_N)) ?_)
  rw [Int.toNat_natCast, iD_len]
  refine w_idx (rng 0 x.length) (fun i S => ∃ o4, S = [some (.dat (tD x)), some (.dat (.int (d : Nat))), some (.own (iD ((List.range d).map fun s => fdP x d i s))), some (.dat (.str (tD x).shown)), o4, none]) ⟨_, rfl⟩ ?_ ?_
  · rintro i e S hdd ⟨o4, rfl⟩
    obtain ⟨hi, rfl⟩ := rng_at hdd
    have st := fun s hs => fdP_step x (d := d) (s := s) i hs
    generalize fdP x d i = A at st ⊢
    generalize hA2 : fdP x d (i + 1) = A2 at st ⊢
    show Wp (b_w_folded_right_1l [some (.dat (tD x)), some (.dat (.int (d : Nat))), some (.own (iD ((List.range d).map A))), some (.dat (.str (tD x).shown)), some (.dat (.int (i : Nat))), none]) _
    unfold b_w_folded_right_1l
    have im : i % d < d := Nat.mod_lt _ d1
    have i1 : ixD (.list (iD ((List.range d).map A))) (.int (((i : Nat) : Int).fmod (d : Nat))) = some (.int (A (i % d))) := by
      rw [mod_nat]; exact at_mapD im
    have i2 : ixD (tD x) (.int (i : Nat)) = some (.int (tooth x (i : Nat))) := by
      have z := (tooth_ix (g := x) (w := (i : Nat)) v1).1
      rw [iD_len, mod_nat, Nat.mod_eq_of_lt hi] at z
      exact z
    have i3 : ixN (iD ((List.range d).map A)).length (((i : Nat) : Int).fmod (d : Nat)) = some (i % d) := by
      rw [iD_len, List.length_map, List.length_range, mod_nat]; exact ixN_nat im
    have e2 : (iD ((List.range d).map A)).set (i % d) (.int (A (i % d) + tooth x (i : Nat))) = iD ((List.range d).map A2) := by
      rw [set_map im]
      refine congrArg iD (List.map_congr_left fun s hs => ?_)
      rw [st s (List.mem_range.mp hs)]
      by_cases z : s = i % d
      · rw [if_pos z, if_pos z, z]
      · rw [if_neg z, if_neg z, Int.add_zero]
    refine w_C (w_SubS (S4 := [some (.dat (tD x)), some (.dat (.int (d : Nat))), some (.own (iD ((List.range d).map A2))), some (.dat (.str (tD x).shown)), some (.dat (.int (i : Nat))), none]) (l := i % d) (r_bin (r_ix (r_Vo rfl) (r_bin (r_V rfl) (r_V rfl) rfl rfl (b_mod (by omega))) rfl rfl i1) (r_ix (r_V rfl) (r_V rfl) rfl rfl i2) rfl rfl rfl) rfl rfl (r_bin (r_V rfl) (r_V rfl) rfl rfl (b_mod (by omega))) rfl rfl i3 (by rw [e2]; rfl) (w_nx (w_0 (.inl ⟨_, .inl rfl, some (.dat (.int (i : Nat))), rfl⟩))))
  · rintro S ⟨o4, rfl⟩
    rw [rng_len]
    refine w_nx ?_
    show Wp _ _
    have e3 : (List.range d).map (fun s => fdP x d x.length s) = fdL x d := rfl
    rw [e3]
    refine w_C (w_SetS (S3 := [_, _, _, _, _, _]) (r_Lst (a_C (r_Call (a_C (r_V rfl) (a_C (r_V rfl) a_N)) a_N rfl (c_plain rfl rfl c1 (noL_ints _))) (a_C (r_Call a_N (a_C (r_V rfl) (a_C (r_V rfl) a_N)) rfl (c_plain rfl rfl c1 (noL_ints _))) a_N)) rfl (le_line (Nat.le_of_ble_eq_true rfl))) rfl rfl (w_nx ?_))
    exact w_CR (w_Ret (r_AndB (r_Call (a_C (r_Vo rfl) (a_C (r_Bi (a_C (r_Vo rfl) a_N) rfl) a_N)) a_N rfl (c_plain rfl rfl c2 rfl)) (r_cmp (r_Bi (a_C (r_V rfl) a_N) (bi_repr rfl rx)) (r_V rfl) (eq_str _))) rfl rfl)
/-! ### values that are no loops -/
theorem told_none : F_w_told.run [.thk (some .none) "" []] = .ok (.own [.none]) [] := by kernel_rfl
theorem shC_noneL : shC (.list [.none]) 1 500 := by exact ⟨by decide, by decide, by decide, by decide⟩
theorem checked_ok {d : D} {s : Str} (h : wrL d = none) (hr : reprD d = some (.str s)) : F_w_checked_right.run [.dat d, .dat (.list [.none])] = .ok (.dat (.bool true)) [] := by
  have c1 : F_check_loop.run [.dat d] = .ok (.dat .none) [] := by
    rw [checkloop_ok]; unfold outL; rw [h]
  have c2 := same_n 2 (by omega) shC_noneL (by omega) (by omega)
  rw [rz_w_checked_right]
  refine run_w (R := fun o => o = .ok (.dat (.bool true)) []) ?_
  show Wp (b_w_checked_right [some (.dat d), some (.dat (.list [.none])), none, none]) _
  unfold b_w_checked_right
  refine w_C (w_Set2S (S3 := [_, _, _, _]) (a_C (r_Bi (a_C (r_V rfl) a_N) (bi_repr rfl hr)) (a_C (r_Lst (a_C (r_LamVF rfl (r_Call (a_C (r_V rfl) a_N) a_N rfl (c_plain rfl rfl c1 rfl)) rfl (noOwn_hide _) rfl told_none) a_N) rfl (le_line (Nat.le_of_ble_eq_true rfl))) a_N)) rfl rfl (w_nx ?_))
  refine w_C (w_ExS (S3 := [_, _, _, _]) (r_App (i := 3) rfl (a_C (r_LamVF rfl (r_Call a_N (a_C (r_V rfl) a_N) rfl (c_plain rfl rfl c1 rfl)) rfl (noOwn_hide _) rfl told_none) a_N) rfl rfl (show (1 : Nat) < sizeLine by decide)) rfl (w_nx ?_))
  exact w_CR (w_Ret (r_AndB (r_Call (a_C (r_Vo rfl) (a_C (r_V rfl) a_N)) a_N rfl (c_plain rfl rfl c2 rfl)) (r_cmp (r_Bi (a_C (r_V rfl) a_N) (bi_repr rfl hr)) (r_V rfl) (eq_str _))) rfl rfl)
theorem checked_bad {d pa : D} {s : Str} (h : wrL d = some pa) (hp : PosD pa) (hr : reprD d = some (.str s)) : F_w_checked_right.run [.dat d, .dat (.tuple [.str "loop", pa])] = .ok (.dat (.bool true)) [] := by
  have c1 := loop_bad h
  have c2 := same_n 2 (by omega) (shC_two (shC_str "loop") (shC_pos hp)) (by omega) (by omega)
  rw [rz_w_checked_right]
  refine run_w (R := fun o => o = .ok (.dat (.bool true)) []) ?_
  show Wp (b_w_checked_right [some (.dat d), some (.dat (.tuple [.str "loop", pa])), none, none]) _
  unfold b_w_checked_right
  refine w_C (w_Set2S (S3 := [_, _, _, _]) (a_C (r_Bi (a_C (r_V rfl) a_N) (bi_repr rfl hr)) (a_C (r_Lst (a_C (r_LamXF rfl (r_Call (a_C (r_V rfl) a_N) a_N rfl (c_exc0 rfl rfl c1 rfl)) rfl (told_loop _)) a_N) rfl (le_line (Nat.le_of_ble_eq_true rfl))) a_N)) rfl rfl (w_nx ?_))
  refine w_C (w_ExS (S3 := [_, _, _, _]) (r_App (i := 3) rfl (a_C (r_LamXF rfl (r_Call a_N (a_C (r_V rfl) a_N) rfl (c_exc0 rfl rfl c1 rfl)) rfl (told_loop _)) a_N) rfl rfl (show (1 : Nat) < sizeLine by decide)) rfl (w_nx ?_))
  exact w_CR (w_Ret (r_AndB (r_Call (a_C (r_Vo rfl) (a_C (r_V rfl) a_N)) a_N rfl (c_plain rfl rfl c2 rfl)) (r_cmp (r_Bi (a_C (r_V rfl) a_N) (bi_repr rfl hr)) (r_V rfl) (eq_str _))) rfl rfl)

end Z.L

set_option maxHeartbeats 8000000
namespace Z.L
open PySem
local macro_rules | `(tactic| k_upd) => `(tactic| first
  | rfl
  | exact b_mod (by omega)
  | exact b_mod (by decide)
  | exact b_fd (by decide)
  | exact b_fd (divOk_p (by omega) (by omega))
  | exact b_fd (by with_reducible assumption)
  | exact b_mul (mulOk_l (by omega))
  | exact b_mul (mulOk_r (by omega))
  | exact b_mul (by with_reducible assumption)
  | exact b_pow (by decide)
  | ((with_reducible apply b_lst); focus (simp [sizeLine]; done))
  | ((with_reducible apply b_tup); focus (simp [sizeLine]; done))
  | ((with_reducible apply b_rep); focus (simp [sizeLine]; done))
  | with_reducible assumption)
local macro_rules | `(tactic| k_subL) => `(tactic| first
  | exact cv_int _ _
  | exact cn_int _ _
  | exact eq_str _
  | rfl
  | with_reducible assumption)
local macro_rules | `(tactic| k_places) => `(tactic| first
  | with_reducible exact r_K
  | ((with_reducible apply r_V); rfl)
  | ((with_reducible apply r_Vo); rfl)
  | ((with_reducible apply r_Vx); rfl)
  | with_reducible exact a_N
  | ((with_reducible apply a_C); (k_places); (k_places))
  | ((with_reducible apply r_bin); (k_places); (k_places); rfl; rfl; k_upd)
  | ((with_reducible apply r_ix); (k_places); (k_places); rfl; rfl; (first | with_reducible assumption | rfl))
  | ((with_reducible apply r_Sl); k_places; (first | ((with_reducible apply o_S); k_places; rfl) | rfl); (first | ((with_reducible apply o_S); k_places; rfl) | rfl); rfl; (first | with_reducible assumption | rfl))
  | ((with_reducible apply r_Rev); k_places; rfl; rfl)
  | ((with_reducible apply r_Bi); (k_places); (first | with_reducible assumption | rfl))
  | ((with_reducible apply r_Lst); (k_places); rfl; exact le_line (Nat.le_of_ble_eq_true rfl))
  | ((with_reducible apply r_Tup); (k_places); rfl; exact le_line (Nat.le_of_ble_eq_true rfl))
  | ((with_reducible apply r_un); (k_places); rfl; rfl)
  | ((with_reducible apply r_Is); (k_places); rfl)
  | ((with_reducible apply r_Call); (k_places); (k_places); rfl; k_updF)
  | ((with_reducible apply r_CallS); (k_places); (k_places); rfl; rfl; (exact le_line (Nat.le_of_ble_eq_true rfl)); rfl; k_updF)
  | ((with_reducible apply r_LamXF); rfl; k_offL; rfl; k_memK)
  | ((with_reducible apply r_LamVF); rfl; k_places; rfl; rfl; rfl; k_memK)
  | ((with_reducible apply r_cmp); (k_places); (k_places); k_subL)
  | ((with_reducible apply q_cmp); (k_places); (k_places); k_subL)
  | ((with_reducible apply q_Not2); (k_places); rfl)
  | ((with_reducible apply q_OrFF); k_places; (first | rfl | decide | (focus (simp; done))); k_places)
  | ((with_reducible apply q_OrTT); k_places; (first | rfl | decide | (focus (simp; done))); rfl)
  | ((with_reducible apply q_AndTT); k_places; (first | rfl | decide | (focus (simp; done))); k_places)
  | ((with_reducible apply q_AndFF); k_places; (first | rfl | decide | (focus (simp; done))); rfl)
  | ((with_reducible apply q_Tr); (k_places); rfl; rfl)
  | ((with_reducible apply r_App); rfl; (k_places); rfl; rfl; (first | exact le_line (Nat.le_of_ble_eq_true rfl) | (focus (simp [sizeLine]; done)) | omega))
  | with_reducible assumption)
local macro_rules | `(tactic| k_offL) => `(tactic| first
  | ((with_reducible apply r_Call); (k_places); (k_places); rfl; (with_reducible apply c_exc0); rfl; rfl; k_memK; rfl)
  | ((with_reducible apply r_CallS); (k_places); (k_places); rfl; rfl; (exact le_line (Nat.le_of_ble_eq_true rfl)); rfl; (with_reducible apply c_exc0); rfl; rfl; k_memK; rfl))
local macro_rules | `(tactic| k_allIn) => `(tactic| first
  | ((with_reducible refine w_C ?_); k_allIn)
  | ((with_reducible refine w_nx ?_); k_allIn)
  | ((with_reducible refine w_0 ?_); k_allIn)
  | ((with_reducible apply w_Set); (k_places); rfl; k_allIn)
  | ((with_reducible apply w_Ex); (k_places); k_allIn)
  | ((with_reducible apply w_Ret); (k_places); rfl; (try with_reducible refine w_ret ?_))
  | ((with_reducible apply w_Set2); (k_places); rfl; k_allIn)
  | ((with_reducible apply w_Set3); (k_places); rfl; k_allIn)
  | ((with_reducible apply w_Sub); (k_places); rfl; rfl; (k_places); rfl; rfl; rfl; k_allIn)
  | ((with_reducible apply w_IfT); (k_places); (first | rfl | decide | with_reducible assumption | (focus (simp; done))); k_allIn)
  | ((with_reducible apply w_IfF); (k_places); (first | rfl | decide | with_reducible assumption | (focus (simp; done))); k_allIn)
  | skip)
local macro_rules | `(tactic| k_ownIn) => `(tactic| first
  | exact le_line (Nat.le_of_ble_eq_true rfl)
  | exact Nat.lt_of_lt_of_le (Nat.lt_of_le_of_lt (Nat.le_of_ble_eq_true rfl) (by decide : 900 < 1000)) (le_line (Nat.le_refl _))
  | (focus (simp only [iD_len, List.length_append, List.length_cons, List.length_nil, List.length_map, List.length_range, List.length_replicate]; first | exact le_line (by omega) | exact Nat.lt_of_lt_of_le (by omega : _ < 1000) (le_line (Nat.le_refl _)))))
local macro_rules | `(tactic| k_clsL) => `(tactic| first
  | exact mulOk_l (by omega)
  | exact mulOk_r (by omega)
  | with_reducible assumption)
local macro_rules | `(tactic| k_intsEnd) => `(tactic| first
  | decide
  | exact divOk_p (by omega) (by omega)
  | with_reducible assumption)
local macro_rules | `(tactic| k_all) => `(tactic| first
  | rfl
  | exact noL_ints _
  | with_reducible assumption)
local macro_rules | `(tactic| k_memK) => `(tactic| first
  | with_reducible assumption
  | fail "no spec")
local macro_rules | `(tactic| k_updF) => `(tactic| first
  | ((with_reducible apply c_plain); rfl; rfl; (k_memK); rfl)
  | ((with_reducible apply c_io (i := 1) (kk := 1)); rfl; rfl; (k_memK); rfl; rfl; (first | rfl | with_reducible assumption))
  | ((with_reducible apply c_ok0); rfl; rfl; (k_memK); rfl))
theorem odd7 (n : Int) : ∃ odd, ixD (.list [.none, .bool true, .str "1", .tuple [.int 1], .list [], .bool false, .dict []]) (.int (n.fmod 7)) = some odd ∧ isI odd = false ∧ shC odd 1 500 := by
  obtain ⟨d, hd, e⟩ := ix_pick (xs := [PyData.none, .bool true, .str "1", .tuple [.int 1], .list [], .bool false, .dict []]) (k := n) (n := 7) rfl (Nat.succ_pos _)
  refine ⟨d, e, ?_⟩
  simp only [List.mem_cons, List.not_mem_nil, or_false] at hd
  rcases hd with rfl | rfl | rfl | rfl | rfl | rfl | rfl
  all_goals exact ⟨rfl, by decide, by decide, by decide, by decide⟩
/-- a loop with one item of another kind -/
theorem bent_ok (cs : List Int) (hl : cs.length ≤ 63) (k : Int) (h0 : 0 ≤ k) (h1 : k < 990000) {x : List Int} (v : VL x) : ∃ (bd : D) (a : Nat) (s : Str), F_w_bent.run [.dat (.list (iD cs)), .own [.int k], .dat (tD x)] = .ok (.own [bd, .int (a : Nat)]) [.int (k + 1 + 1)] ∧ wrL bd = some (.int (a : Nat)) ∧ a ≤ 36 ∧ reprD bd = some (.str s) := by
  have v1 := v.1
  have v2 := v.2.1
  obtain ⟨n, c1_w_cell, n0, n1⟩ := cell_ok cs hl k h0 (by omega)
  obtain ⟨m, c2_w_cell, m0, m1⟩ := cell_ok cs hl (k + 1) (by omega) (by omega)
  obtain ⟨odd, eo, ho, so⟩ := odd7 n
  have rm := fmod_r (i := m) (j := (x.length : Int) + 1) (by omega)
  obtain ⟨a, ha, al⟩ : ∃ a : Nat, m.fmod ((x.length : Int) + 1) = (a : Nat) ∧ a ≤ x.length := ⟨(m.fmod ((x.length : Int) + 1)).toNat, by omega, by omega⟩
  have xl := iD_len x
  have bm : binD .Mod (.int m) (.int ((((iD x).length : Nat) : Int) + 1)) = some (.dat (.int (a : Nat))) := by
    rw [b_mod (by omega), xl, ha]
  have s1 : sliceD none (some (a : Nat)) (tD x) = some (.dat (tD (x.take a))) := by
    show some (SV.dat (.tuple (cut (iD x) none (some (a : Nat))))) = _
    rw [cutD_to (by omega), iD_take]
  have s2 : sliceD (some (a : Nat)) none (tD x) = some (.dat (tD (x.drop a))) := by
    show some (SV.dat (.tuple (cut (iD x) (some (a : Nat)) none))) = _
    rw [cutD_from (by omega), iD_drop]
  have tl : (x.take a).length = a := by rw [List.length_take]; omega
  have dl : (x.drop a).length = x.length - a := List.length_drop
  have b1 : binD .Add (tD (x.take a)) (.tuple [odd]) = some (.dat (.tuple (iD (x.take a) ++ [odd]))) := b_tup (le_line (by rw [iD_len]; show _ + 1 ≤ _; omega))
  have b2 : binD .Add (.tuple (iD (x.take a) ++ [odd])) (tD (x.drop a)) = some (.dat (.tuple (iD (x.take a) ++ odd :: iD (x.drop a)))) := by
    rw [b_tup (le_line (by rw [List.length_append, iD_len, iD_len]; show _ + 1 + _ ≤ _; omega)), List.append_assoc]; rfl
  have bl : (iD (x.take a) ++ odd :: iD (x.drop a)).length = x.length + 1 := by
    rw [List.length_append, List.length_cons, iD_len, iD_len]; omega
  refine ⟨.tuple (iD (x.take a) ++ odd :: iD (x.drop a)), a, (PyData.tuple (iD (x.take a) ++ odd :: iD (x.drop a))).shown, ?_, ?_, by omega, ?_⟩
  · rw [rz_w_bent]
    refine run_w (R := fun o => o = .ok (.own [.tuple (iD (x.take a) ++ odd :: iD (x.drop a)), .int (a : Nat)]) [.int (k + 1 + 1)]) ?_
    show Wp (b_w_bent [some (.dat (.list (iD cs))), some (.own [.int k]), some (.dat (tD x)), none, none, none, none]) _
    unfold b_w_bent
    refine w_C (w_Set2S (S3 := [_, _, _, _, _, _, _]) (a_C (r_Call (a_C (r_V rfl) (a_C (r_Vo rfl) a_N)) a_N rfl (c_io (i := 1) (kk := 1) rfl rfl c1_w_cell rfl rfl rfl)) (a_C (r_Call (a_C (r_V rfl) (a_C (r_Vo rfl) a_N)) a_N rfl (c_io (i := 1) (kk := 1) rfl rfl c2_w_cell rfl rfl rfl)) a_N)) rfl rfl (w_nx ?_))
    refine w_C (w_SetS (S3 := [_, _, _, _, _, _, _]) (r_ix (r_Lst (a_C r_K (a_C r_K (a_C r_K (a_C (r_Tup (a_C r_K a_N) rfl (le_line (Nat.le_of_ble_eq_true rfl))) (a_C (r_Lst a_N rfl (le_line (Nat.le_of_ble_eq_true rfl))) (a_C r_K (a_C (rfl : xDic _ = _) a_N))))))) rfl (le_line (Nat.le_of_ble_eq_true rfl))) (r_bin (r_V rfl) r_K rfl rfl (b_mod (by decide))) rfl rfl eo) rfl rfl (w_nx ?_))
    refine w_C (w_SetS (S3 := [_, _, _, _, _, _, _]) (r_bin (r_V rfl) (r_bin (r_Bi (a_C (r_V rfl) a_N) rfl) r_K rfl rfl rfl) rfl rfl bm) rfl rfl (w_nx ?_))
    exact w_CR (w_Ret (r_Lst (a_C (r_bin (r_bin (r_Sl (r_V rfl) rfl (o_S (r_V rfl) rfl) rfl s1) (r_Tup (a_C (r_V rfl) a_N) rfl (le_line (Nat.le_of_ble_eq_true rfl))) rfl rfl b1) (r_Sl (r_V rfl) (o_S (r_V rfl) rfl) rfl rfl s2) rfl rfl b2) (a_C (r_V rfl) a_N)) rfl (le_line (Nat.le_of_ble_eq_true rfl))) rfl ⟨_, rfl, rfl⟩)
  · rw [wrL_y (by rw [bl, decide_eq_true (by omega), decide_eq_true (by omega)]; rfl), find_odd (x.take a) (iD (x.drop a)) ho, tl]; rfl
  · refine repC (dp := 2) (w := 37 * 501) (shC_tup (dp := 1) (w := 500) (fun d hd => ?_) (by rw [bl]; omega)) (by omega) (by omega)
    have allI : ∀ y : List Int, (∀ i ∈ y, i ∈ x) → ∀ d ∈ iD y, shC d 1 500 := fun y hy d hd => by
      obtain ⟨i, hi, rfl⟩ := List.mem_map.mp hd
      exact shC_le (shC_int (Nat.lt_of_le_of_lt (v.2.2 i (hy i hi)) (by decide +kernel))) (Nat.zero_le 1) (show 400 ≤ 500 by omega)
    rcases List.mem_append.mp hd with z | z
    · exact allI _ (fun i hi => List.mem_of_mem_take hi) d z
    · rcases List.mem_cons.mp z with rfl | z
      · exact so
      · exact allI _ (fun i hi => List.mem_of_mem_drop hi) d z
theorem told_num (d : D) : F_w_told.run [.thk none "InvalidNumber" [("value", d)]] = .ok (.dat (.tuple [.str "number", d])) [] := by kernel_rfl
theorem odd9 {L : Nat} (h1 : 1 ≤ L) (h2 : L ≤ 36) (n : Int) : ∃ odd, ixD (.list [.none, .bool true, .int 0, .int (0 - (L : Int)), .int (2 * (L : Int)), .str "1", .tuple [.int 1], .int ((L : Int) + 1), .int (10 ^ 30)]) (.int (n.fmod 9)) = some odd ∧ nbB L odd = true ∧ flatD (.tuple [.str "number", odd]) = true := by
  obtain ⟨d, hd, e⟩ := ix_pick (xs := [PyData.none, .bool true, .int 0, .int (0 - (L : Int)), .int (2 * (L : Int)), .str "1", .tuple [.int 1], .int ((L : Int) + 1), .int (10 ^ 30)]) (k := n) (n := 9) rfl (Nat.succ_pos _)
  refine ⟨d, e, ?_⟩
  have nb : ∀ w : Int, w < 1 ∨ ((L : Nat) : Int).fmod w ≠ 0 → nbB L (.int w) = true := fun w h => by
    show (decide (w < 1) || decide (((L : Nat) : Int).fmod w ≠ 0)) = true
    rw [Bool.or_eq_true, decide_eq_true_eq, decide_eq_true_eq]; exact h
  have big : ∀ w : Int, (L : Int) < w → ((L : Nat) : Int).fmod w ≠ 0 := fun w h => by
    rw [Int.fmod_eq_emod_of_nonneg _ (by omega), Int.emod_eq_of_lt (by omega) h]; omega
  simp only [List.mem_cons, List.not_mem_nil, or_false] at hd
  rcases hd with rfl | rfl | rfl | rfl | rfl | rfl | rfl | rfl | rfl
  · exact ⟨rfl, rfl⟩
  · exact ⟨rfl, rfl⟩
  · exact ⟨nb 0 (.inl (by omega)), rfl⟩
  · exact ⟨nb _ (.inl (by omega)), rfl⟩
  · exact ⟨nb _ (.inr (big _ (by omega))), rfl⟩
  · exact ⟨rfl, rfl⟩
  · exact ⟨rfl, rfl⟩
  · exact ⟨nb _ (.inr (big _ (by omega))), rfl⟩
  · exact ⟨nb _ (.inr (big _ (Int.lt_of_lt_of_le (show (L : Int) < 100 by omega) (by decide +kernel)))), rfl⟩
theorem turn_ok (cs : List Int) (hl : cs.length ≤ 63) (k : Int) (h0 : 0 ≤ k) (h1 : k < 900000) (d : D) (o3 o4 o5 o6 o7 o8 o9 o10 : Option SV) :
    Wp (b_law_1l [some (.dat (.list (iD cs))), some (.own [.int k]), some (.dat d), o3, o4, o5, o6, o7, o8, o9, o10]) fun o => ∃ S', o = .nx S' ∧ ∃ (k' : Int) (o2 o3 o4 o5 o6 o7 o8 o9 o10 : Option SV), 0 ≤ k' ∧ k' ≤ k + 77 ∧ S' = [some (.dat (.list (iD cs))), some (.own [.int k']), o2, o3, o4, o5, o6, o7, o8, o9, o10] := by
  unfold b_law_1l
  obtain ⟨x, ka, v, a0, a1, c1_w_drawn⟩ := drawn_ok cs hl k h0 (by omega)
  obtain ⟨n, c2_w_cell, n0, n1⟩ := cell_ok cs hl ka (by omega) (by omega)
  obtain ⟨bd, a, s, c3_w_bent, hbd, a36, rb⟩ := bent_ok cs hl (ka + 1) (by omega) (by omega) v
  have v1 := v.1
  have v2 := v.2.1
  have rx : reprD (tD x) = some (.str (tD x).shown) := repC (shC_ints (n := 36) (fun i hi => Nat.lt_of_le_of_lt (v.2.2 i hi) (by decide +kernel)) v2) (by omega) (by omega)
  have cg := checked_ok (d := tD x) (loop_wr v1 (by omega)) rx
  have cb := checked_bad hbd (.inr ⟨a, by omega, rfl⟩) rb
  have c4_w_dividers := dividers_ok x.length (by omega)
  rw [← iD_len x] at c4_w_dividers
  obtain ⟨odd, eodd, hodd, fodd⟩ := odd9 v1 v2 n
  rw [← iD_len x] at eodd
  have c5_folded := fold_num (x := x) v1 (by omega) hodd
  have c6_folded := fold_loop (q := odd) hbd
  refine w_C (w_Tup (S3 := [_, _, _, _, _, _, _, _, _, _, _]) (r_Tup (a_C (r_Call (a_C (r_V rfl) (a_C (r_Vo rfl) a_N)) a_N rfl (c_io (i := 1) (kk := 1) rfl rfl c1_w_drawn rfl rfl (tD_noLk _ _))) (a_C (r_Call (a_C (r_V rfl) (a_C (r_Vo rfl) a_N)) a_N rfl (c_io (i := 1) (kk := 1) rfl rfl c2_w_cell rfl rfl rfl)) a_N)) rfl (le_line (Nat.le_of_ble_eq_true rfl))) rfl rfl (w_nx ?_))
  refine w_C (w_Tup (S3 := [_, _, _, _, _, _, _, _, _, _, _]) (r_Call (a_C (r_V rfl) (a_C (r_Vo rfl) (a_C (r_V rfl) a_N))) a_N rfl (c_io1 (i := 1) (kk := 1) rfl rfl c3_w_bent rfl rfl)) rfl rfl (w_nx ?_))
  refine w_C (w_IfF (q_OrF (q_Not (q_Tr (r_Call (a_C (r_V rfl) (a_C (r_Lst (a_C r_K a_N) rfl (le_line (Nat.le_of_ble_eq_true rfl))) a_N)) a_N rfl (c_plain rfl rfl cg rfl)) rfl rfl)) (q_Not (q_Tr (r_Call (a_C (r_V rfl) (a_C (r_Tup (a_C r_K (a_C (r_V rfl) a_N)) rfl (le_line (Nat.le_of_ble_eq_true rfl))) a_N)) a_N rfl (c_plain rfl rfl cb rfl)) rfl rfl))) rfl (w_0 (w_nx ?_)))
  refine w_C (w_For (i_Sq (r_Call (a_C (r_Bi (a_C (r_V rfl) a_N) rfl) a_N) a_N rfl (c_plain rfl rfl c4_w_dividers (iN_noL _))) rfl rfl) ?_)
  rw [iD_len]
  refine w_idx (iN (dvs x.length)) (fun i S => ∃ o7, S = [some (.dat (.list (iD cs))), some (.own [.int (ka + 1 + 1 + 1)]), some (.dat d), some (.dat (tD x)), some (.dat (.int n)), some (.dat bd), some (.dat (.int (a : Nat))), o7, o8, o9, o10]) ⟨o7, rfl⟩ ?_ ?_
  · rintro i e S hd ⟨o7, rfl⟩
    rw [List.getElem?_map] at hd
    obtain ⟨t, ht, rfl⟩ := Option.map_eq_some_iff.mp hd
    have td := (dvs_mem v1).mp (List.mem_of_getElem? ht)
    have c1 := fdr_ok v td
    show Wp (b_law_1l_3l [some (.dat (.list (iD cs))), some (.own [.int (ka + 1 + 1 + 1)]), some (.dat d), some (.dat (tD x)), some (.dat (.int n)), some (.dat bd), some (.dat (.int (a : Nat))), some (.dat (.int (t : Nat))), o8, o9, o10]) _
    unfold b_law_1l_3l
    exact w_C (w_IfF (q_Not (q_Tr (r_Call (a_C (r_V rfl) (a_C (r_V rfl) a_N)) a_N rfl (c_plain rfl rfl c1 rfl)) rfl rfl)) rfl (w_0 (w_nx (w_0 (.inl ⟨_, .inl rfl, _, rfl⟩)))))
  rintro S ⟨o7, rfl⟩
  refine w_nx ?_
  refine w_C (w_For (i_R2A (m := 2) (n := ((iD x).length : Nat)) (a_C r_K (a_C (r_Bi (a_C (r_V rfl) a_N) rfl) a_N))) ?_)
  refine w_idx (rng 2 (((iD x).length : Nat) - 2 : Int).toNat) (fun i S => ∃ o7, S = [some (.dat (.list (iD cs))), some (.own [.int (ka + 1 + 1 + 1)]), some (.dat d), some (.dat (tD x)), some (.dat (.int n)), some (.dat bd), some (.dat (.int (a : Nat))), o7, o8, o9, o10]) ⟨o7, rfl⟩ ?_ ?_
  · rintro i e S hd ⟨o7, rfl⟩
    obtain ⟨t, rfl, t2, tl⟩ : ∃ t : Nat, e = .int (t : Nat) ∧ 2 ≤ t ∧ t < x.length := by
      have hm := List.mem_of_getElem? hd
      unfold rng at hm
      obtain ⟨j, hj, rfl⟩ := List.mem_map.mp hm
      have := List.mem_range.mp hj
      rw [iD_len] at this
      exact ⟨2 + j, by show PyData.int (2 + (j : Int)) = _; congr 1, by omega, by omega⟩
    show Wp (b_law_1l_4l [some (.dat (.list (iD cs))), some (.own [.int (ka + 1 + 1 + 1)]), some (.dat d), some (.dat (tD x)), some (.dat (.int n)), some (.dat bd), some (.dat (.int (a : Nat))), some (.dat (.int (t : Nat))), o8, o9, o10]) _
    unfold b_law_1l_4l
    by_cases z : x.length % t = 0
    · have m : ∀ S : Sl, cmpV S .NotEq (.dat (.int ((((iD x).length : Nat) : Int).fmod (t : Nat)))) (.dat (.int 0)) = some false := fun S => by
        rw [cn_int, iD_len, mod_nat, z]; rfl
      exact w_C (w_IfF (q_AndF (q_cmp (r_bin (r_Bi (a_C (r_V rfl) a_N) rfl) (r_V rfl) rfl rfl (b_mod (by omega))) r_K (m _))) rfl (w_0 (w_nx (w_0 (.inl ⟨_, .inl rfl, _, rfl⟩)))))
    · have m : ∀ S : Sl, cmpV S .NotEq (.dat (.int ((((iD x).length : Nat) : Int).fmod (t : Nat)))) (.dat (.int 0)) = some true := fun S => by
        rw [cn_int, iD_len, mod_nat, decide_eq_true (by omega)]
      have nbt : nbB x.length (.int (t : Nat)) = true := by
        show (decide (((t : Nat) : Int) < 1) || decide (((x.length : Nat) : Int).fmod (t : Nat) ≠ 0)) = true
        rw [mod_nat, decide_eq_true (show ((x.length % t : Nat) : Int) ≠ 0 by omega), Bool.or_true]
      have c1 := fold_num (x := x) v1 (by omega) nbt
      exact w_C (w_IfF (q_AndT (q_cmp (r_bin (r_Bi (a_C (r_V rfl) a_N) rfl) (r_V rfl) rfl rfl (b_mod (by omega))) r_K (m _)) (q_cmp (r_LamXF rfl (r_Call (a_C (r_V rfl) (a_C (r_V rfl) a_N)) a_N rfl (c_exc0 rfl rfl c1 rfl)) rfl (told_num _)) (r_Tup (a_C r_K (a_C (r_V rfl) a_N)) rfl (le_line (Nat.le_of_ble_eq_true rfl))) (ne_self rfl))) rfl (w_0 (w_nx (w_0 (.inl ⟨_, .inl rfl, _, rfl⟩)))))
  rintro S ⟨o7, rfl⟩
  refine w_nx ?_
  refine w_C (w_SetS (S3 := [_, _, _, _, _, _, _, _, _, _, _]) (r_ix (r_Lst (a_C r_K (a_C r_K (a_C r_K (a_C (r_bin r_K (r_Bi (a_C (r_V rfl) a_N) rfl) rfl rfl rfl) (a_C (r_bin r_K (r_Bi (a_C (r_V rfl) a_N) rfl) rfl rfl (b_mul (mulOk_l (by decide)))) (a_C r_K (a_C (r_Tup (a_C r_K a_N) rfl (le_line (Nat.le_of_ble_eq_true rfl))) (a_C (r_bin (r_Bi (a_C (r_V rfl) a_N) rfl) r_K rfl rfl rfl) (a_C (r_bin r_K r_K rfl rfl (b_pow (by decide))) a_N))))))))) rfl (le_line (Nat.le_of_ble_eq_true rfl))) (r_bin (r_V rfl) r_K rfl rfl (b_mod (by decide))) rfl rfl eodd) rfl rfl (w_nx ?_))
  refine w_C (w_IfF (q_cmp (r_LamXF rfl (r_Call (a_C (r_V rfl) (a_C (r_V rfl) a_N)) a_N rfl (c_exc0 rfl rfl c5_folded rfl)) rfl (told_num _)) (r_Tup (a_C r_K (a_C (r_V rfl) a_N)) rfl (le_line (Nat.le_of_ble_eq_true rfl))) (ne_self fodd)) rfl (w_0 (w_nx ?_)))
  refine w_C (w_IfF (q_cmp (r_LamXF rfl (r_Call (a_C (r_V rfl) (a_C (r_V rfl) a_N)) a_N rfl (c_exc0 rfl rfl c6_folded rfl)) rfl (told_loop _)) (r_Tup (a_C r_K (a_C (r_V rfl) a_N)) rfl (le_line (Nat.le_of_ble_eq_true rfl))) (ne_self rfl)) rfl (w_0 (w_nx ?_)))
  exact w_0 ⟨_, rfl, ka + 1 + 1 + 1, _, _, _, _, _, _, _, _, _, by omega, by omega, rfl⟩

end Z.L

set_option maxHeartbeats 8000000
namespace Z.L
open PySem
local macro_rules | `(tactic| k_upd) => `(tactic| first
  | rfl
  | exact b_mod (by omega)
  | exact b_mod (by decide)
  | exact b_fd (by decide)
  | exact b_fd (divOk_p (by omega) (by omega))
  | exact b_fd (by with_reducible assumption)
  | exact b_mul (mulOk_l (by omega))
  | exact b_mul (mulOk_r (by omega))
  | exact b_mul (by with_reducible assumption)
  | exact b_pow (by decide)
  | ((with_reducible apply b_lst); focus (simp [sizeLine]; done))
  | ((with_reducible apply b_tup); focus (simp [sizeLine]; done))
  | ((with_reducible apply b_rep); focus (simp [sizeLine]; done))
  | with_reducible assumption)
local macro_rules | `(tactic| k_subL) => `(tactic| first
  | exact cv_int _ _
  | exact cn_int _ _
  | exact eq_str _
  | rfl
  | with_reducible assumption)
local macro_rules | `(tactic| k_places) => `(tactic| first
  | with_reducible exact r_K
  | ((with_reducible apply r_V); rfl)
  | ((with_reducible apply r_Vo); rfl)
  | ((with_reducible apply r_Vx); rfl)
  | with_reducible exact a_N
  | ((with_reducible apply a_C); (k_places); (k_places))
  | ((with_reducible apply r_bin); (k_places); (k_places); rfl; rfl; k_upd)
  | ((with_reducible apply r_ix); (k_places); (k_places); rfl; rfl; (first | with_reducible assumption | rfl))
  | ((with_reducible apply r_Sl); k_places; (first | ((with_reducible apply o_S); k_places; rfl) | rfl); (first | ((with_reducible apply o_S); k_places; rfl) | rfl); rfl; (first | with_reducible assumption | rfl))
  | ((with_reducible apply r_Rev); k_places; rfl; rfl)
  | ((with_reducible apply r_Bi); (k_places); (first | with_reducible assumption | rfl))
  | ((with_reducible apply r_Lst); (k_places); rfl; exact le_line (Nat.le_of_ble_eq_true rfl))
  | ((with_reducible apply r_Tup); (k_places); rfl; exact le_line (Nat.le_of_ble_eq_true rfl))
  | ((with_reducible apply r_un); (k_places); rfl; rfl)
  | ((with_reducible apply r_Is); (k_places); rfl)
  | ((with_reducible apply r_Call); (k_places); (k_places); rfl; k_updF)
  | ((with_reducible apply r_CallS); (k_places); (k_places); rfl; rfl; (exact le_line (Nat.le_of_ble_eq_true rfl)); rfl; k_updF)
  | ((with_reducible apply r_LamXF); rfl; k_offL; rfl; k_memK)
  | ((with_reducible apply r_LamVF); rfl; k_places; rfl; rfl; rfl; k_memK)
  | ((with_reducible apply r_cmp); (k_places); (k_places); k_subL)
  | ((with_reducible apply q_cmp); (k_places); (k_places); k_subL)
  | ((with_reducible apply q_Not2); (k_places); rfl)
  | ((with_reducible apply q_OrFF); k_places; (first | rfl | decide | (focus (simp; done))); k_places)
  | ((with_reducible apply q_OrTT); k_places; (first | rfl | decide | (focus (simp; done))); rfl)
  | ((with_reducible apply q_AndTT); k_places; (first | rfl | decide | (focus (simp; done))); k_places)
  | ((with_reducible apply q_AndFF); k_places; (first | rfl | decide | (focus (simp; done))); rfl)
  | ((with_reducible apply q_Tr); (k_places); rfl; rfl)
  | ((with_reducible apply r_App); rfl; (k_places); rfl; rfl; (first | exact le_line (Nat.le_of_ble_eq_true rfl) | (focus (simp [sizeLine]; done)) | omega))
  | with_reducible assumption)
local macro_rules | `(tactic| k_offL) => `(tactic| first
  | ((with_reducible apply r_Call); (k_places); (k_places); rfl; (with_reducible apply c_exc0); rfl; rfl; k_memK; rfl)
  | ((with_reducible apply r_CallS); (k_places); (k_places); rfl; rfl; (exact le_line (Nat.le_of_ble_eq_true rfl)); rfl; (with_reducible apply c_exc0); rfl; rfl; k_memK; rfl))
local macro_rules | `(tactic| k_allIn) => `(tactic| first
  | ((with_reducible refine w_C ?_); k_allIn)
  | ((with_reducible refine w_nx ?_); k_allIn)
  | ((with_reducible refine w_0 ?_); k_allIn)
  | ((with_reducible apply w_Set); (k_places); rfl; k_allIn)
  | ((with_reducible apply w_Ex); (k_places); k_allIn)
  | ((with_reducible apply w_Ret); (k_places); rfl; (try with_reducible refine w_ret ?_))
  | ((with_reducible apply w_Set2); (k_places); rfl; k_allIn)
  | ((with_reducible apply w_Set3); (k_places); rfl; k_allIn)
  | ((with_reducible apply w_Sub); (k_places); rfl; rfl; (k_places); rfl; rfl; rfl; k_allIn)
  | ((with_reducible apply w_IfT); (k_places); (first | rfl | decide | with_reducible assumption | (focus (simp; done))); k_allIn)
  | ((with_reducible apply w_IfF); (k_places); (first | rfl | decide | with_reducible assumption | (focus (simp; done))); k_allIn)
  | skip)
local macro_rules | `(tactic| k_ownIn) => `(tactic| first
  | exact le_line (Nat.le_of_ble_eq_true rfl)
  | exact Nat.lt_of_lt_of_le (Nat.lt_of_le_of_lt (Nat.le_of_ble_eq_true rfl) (by decide : 900 < 1000)) (le_line (Nat.le_refl _))
  | (focus (simp only [iD_len, List.length_append, List.length_cons, List.length_nil, List.length_map, List.length_range, List.length_replicate]; first | exact le_line (by omega) | exact Nat.lt_of_lt_of_le (by omega : _ < 1000) (le_line (Nat.le_refl _)))))
local macro_rules | `(tactic| k_clsL) => `(tactic| first
  | exact mulOk_l (by omega)
  | exact mulOk_r (by omega)
  | with_reducible assumption)
local macro_rules | `(tactic| k_intsEnd) => `(tactic| first
  | decide
  | exact divOk_p (by omega) (by omega)
  | with_reducible assumption)
local macro_rules | `(tactic| k_all) => `(tactic| first
  | rfl
  | exact noL_ints _
  | with_reducible assumption)
local macro_rules | `(tactic| k_memK) => `(tactic| first
  | with_reducible assumption
  | fail "no spec")
local macro_rules | `(tactic| k_updF) => `(tactic| first
  | ((with_reducible apply c_plain); rfl; rfl; (k_memK); rfl)
  | ((with_reducible apply c_io (i := 1) (kk := 1)); rfl; rfl; (k_memK); rfl; rfl; (first | rfl | with_reducible assumption))
  | ((with_reducible apply c_ok0); rfl; rfl; (k_memK); rfl))
theorem tri : ∀ n : Nat, 2 * Sm n (fun i => ((i : Nat) : Int)) = (n : Int) * n - n
  | 0 => rfl
  | n + 1 => by
    have h := tri n
    show 2 * (Sm n (fun i => ((i : Nat) : Int)) + (n : Int)) = _
    have e : ((n + 1 : Nat) : Int) * ((n + 1 : Nat) : Int) = (n : Int) * n + 2 * n + 1 := by
      rw [show ((n + 1 : Nat) : Int) = (n : Int) + 1 from rfl, Int.add_mul, Int.mul_add, Int.mul_one, Int.one_mul]; omega
    rw [e]
    omega
theorem wide_W : ∃ W : List Int, rng 0 (5040 : Int).toNat = iD W ∧ W.length = 5040 ∧ (∀ i ∈ W, i.natAbs < 10 ^ 99) ∧ fdL W 1 = [12698280] := by
  refine ⟨(List.range 5040).map fun i : Nat => (0 + (i : Int)), rng_iD 0 5040, by rw [List.length_map, List.length_range], fun i hi => ?_, ?_⟩
  · obtain ⟨j, hj, rfl⟩ := List.mem_map.mp hi
    have := List.mem_range.mp hj
    exact Nat.lt_of_le_of_lt (show _ ≤ 5040 by omega) (by decide +kernel)
  · have wl : ((List.range 5040).map fun i : Nat => (0 + (i : Int))).length = 5040 := by rw [List.length_map, List.length_range]
    have at_ : ∀ i : Nat, i < 5040 → tooth ((List.range 5040).map fun i : Nat => (0 + (i : Int))) (i : Nat) = (i : Nat) := fun i hi => by
      rw [tooth_nat (by rw [wl]; exact hi), List.getD_eq_getElem?_getD, List.getElem?_map, List.getElem?_range hi]
      exact Int.zero_add _
    generalize (List.range 5040).map (fun i : Nat => (0 + (i : Int))) = W at wl at_
    show [Sd W.length 1 (tooth W) ((0 : Nat) : Int)] = _
    rw [wl]
    have e : Sd 5040 1 (tooth W) ((0 : Nat) : Int) = Sm 5040 (fun i => ((i : Nat) : Int)) := Sm_congr fun i hi => by
      show (if ((1 : Nat) : Int) ∣ ((i : Nat) : Int) - ((0 : Nat) : Int) then tooth W ((i : Nat) : Int) else 0) = _
      rw [if_pos ⟨_, (Int.one_mul _).symm⟩, at_ i hi]
    have t := tri 5040
    rw [e]
    have e2 : Sm 5040 (fun i => ((i : Nat) : Int)) = 12698280 := by
      generalize Sm 5040 (fun i => ((i : Nat) : Int)) = s at t
      omega
    rw [e2]
theorem zrun (ns : List Int) (hl : ns.length ≤ 63) (hb : ∀ z ∈ ns, Builtin.Int.intBits z ≤ 1048576) : ∃ xs, F_law.run [.dat (.list (iD ns))] = .ok (.dat (.bool true)) xs := by
  rw [rz_law]
  refine run_w (R := fun o => ∃ xs, o = .ok (.dat (.bool true)) xs) ?_
  show Wp (b_law [some (.dat (.list (iD ns))), none, none, none, none, none, none, none, none, none, none]) _
  unfold b_law
  refine w_C (w_SetS (S3 := [_, _, _, _, _, _, _, _, _, _, _]) (r_Lst (a_C r_K a_N) rfl (le_line (Nat.le_of_ble_eq_true rfl))) rfl rfl (w_nx ?_))
  refine w_C (w_For (i_R1A (n := 3 + (if ((iD ns).length : Int) < 9 then ((iD ns).length : Int) else 9)) (a_C (r_bin r_K (r_Bi (a_C r_K (a_C (r_Bi (a_C (r_V rfl) a_N) rfl) a_N)) rfl) rfl rfl rfl) a_N)) ?_)
  have hle : (3 + (if ((iD ns).length : Int) < 9 then ((iD ns).length : Int) else 9)).toNat ≤ 12 := by split <;> omega
  generalize (3 + (if ((iD ns).length : Int) < 9 then ((iD ns).length : Int) else 9)).toNat = m at hle
  refine w_idx (rng 0 m) (fun i S => ∃ (k : Int) (o2 o3 o4 o5 o6 o7 o8 o9 o10 : Option SV), 0 ≤ k ∧ k ≤ 77 * i ∧ S = [some (.dat (.list (iD ns))), some (.own [.int k]), o2, o3, o4, o5, o6, o7, o8, o9, o10]) ⟨0, none, none, none, none, none, none, none, none, none, by omega, by omega, rfl⟩ ?_ ?_
  · rintro i d S hd ⟨k, o2, o3, o4, o5, o6, o7, o8, o9, o10, h0, h1, rfl⟩
    obtain ⟨hi, rfl⟩ := rng_at hd
    show Wp (b_law_1l [some (.dat (.list (iD ns))), some (.own [.int k]), some (.dat (.int (i : Nat))), o3, o4, o5, o6, o7, o8, o9, o10]) _
    refine wp_mono (turn_ok ns hl k h0 (by omega) (.int (i : Nat)) o3 o4 o5 o6 o7 o8 o9 o10) ?_
    rintro o ⟨S', rfl, k', p2, p3, p4, p5, p6, p7, p8, p9, p10, a1, a2, rfl⟩
    exact .inl ⟨_, .inl rfl, k', p2, p3, p4, p5, p6, p7, p8, p9, p10, a1, by omega, rfl⟩
  · rintro S ⟨k, o2, o3, o4, o5, o6, o7, o8, o9, o10, h0, h1, rfl⟩
    refine w_nx (?_ : Wp _ _)
    obtain ⟨W, eW, wl, wb, ws⟩ := wide_W
    have rW : reprD (tD W) = some (.str (tD W).shown) := repK (shK_ints (n := 6000) wb (by omega)) (by omega) (by omega)
    have wb0 : ∀ i ∈ W ++ [0], i.natAbs < 10 ^ 99 := fun i hi => by
      rcases List.mem_append.mp hi with z | z
      · exact wb i z
      · rw [List.mem_singleton.mp z]; decide +kernel
    have wl0 : (W ++ [0]).length = 5041 := by rw [List.length_append, wl]; rfl
    have rW0 : reprD (tD (W ++ [0])) = some (.str (tD (W ++ [0])).shown) := repK (shK_ints (n := 6000) wb0 (by omega)) (by omega) (by omega)
    have bW : binD .Add (tD W) (.tuple [.int 0]) = some (.dat (tD (W ++ [0]))) := by
      rw [b_tup (by rw [iD_len, wl]; show 5040 + 1 ≤ sizeLine; decide)]
      show some (SV.dat (.tuple (iD W ++ iD [0]))) = _
      rw [iD_app]
    have cW := checked_ok (d := tD W) (loop_wr (by omega) (by omega)) rW
    have c2 := fold_ok (x := W) (d := 1) (by omega) (by omega) (by omega) ⟨_, (Nat.one_mul _).symm⟩
    rw [ws] at c2
    have c2 : F_folded.run [.dat (tD W), .dat (.int 1)] = .ok (.dat (tD [12698280])) [] := c2
    have c3 : F_folded.run [.dat (.tuple [.int 4]), .dat (.int 1)] = .ok (.dat (.tuple [.int 4])) [] := by kernel_rfl
    have sh : ∀ d : D, shC d 1 500 → reprD d = some (.str d.shown) := fun d h => repC h (by omega) (by omega)
    have key : ∀ e ∈ [PyData.none, .int 5, .str "loop", .list [], .list [.int 1], .tuple [], .dict [], .bool true, tD (W ++ [0])], F_w_checked_right.run [.dat e, .dat (.tuple [.str "loop", .none])] = .ok (.dat (.bool true)) [] := by
      intro e he
      simp only [List.mem_cons, List.not_mem_nil, or_false] at he
      rcases he with rfl | rfl | rfl | rfl | rfl | rfl | rfl | rfl | rfl
      · exact checked_bad rfl (.inl rfl) (sh _ ⟨by decide, by decide, by decide, by decide⟩)
      · exact checked_bad rfl (.inl rfl) (sh _ ⟨by decide, by decide, by decide, by decide⟩)
      · exact checked_bad rfl (.inl rfl) (sh _ ⟨by decide, by decide, by decide, by decide⟩)
      · exact checked_bad rfl (.inl rfl) (sh _ ⟨by decide, by decide, by decide, by decide⟩)
      · exact checked_bad rfl (.inl rfl) (sh _ ⟨by decide, by decide, by decide, by decide⟩)
      · exact checked_bad rfl (.inl rfl) (sh _ ⟨by decide, by decide, by decide, by decide⟩)
      · exact checked_bad rfl (.inl rfl) (sh _ ⟨by decide, by decide, by decide, by decide⟩)
      · exact checked_bad rfl (.inl rfl) (sh _ ⟨by decide, by decide, by decide, by decide⟩)
      · exact checked_bad (wrL_n (by rw [iD_len, wl0]; rfl)) (.inl rfl) rW0
    refine w_C (w_SetS (S3 := [_, _, _, _, _, _, _, _, _, _, _]) (r_TupR r_K (by decide) eW) rfl rfl (w_nx ?_))
    refine w_C (w_For (i_Sq (r_Tup (a_C r_K (a_C r_K (a_C r_K (a_C (r_Lst a_N rfl (le_line (Nat.le_of_ble_eq_true rfl))) (a_C (r_Lst (a_C r_K a_N) rfl (le_line (Nat.le_of_ble_eq_true rfl))) (a_C (r_Tup a_N rfl (le_line (Nat.le_of_ble_eq_true rfl))) (a_C (rfl : xDic _ = _) (a_C r_K (a_C (r_bin (r_V rfl) (r_Tup (a_C r_K a_N) rfl (le_line (Nat.le_of_ble_eq_true rfl))) rfl rfl bW) a_N))))))))) rfl (le_line (Nat.le_of_ble_eq_true rfl))) rfl rfl) ?_)
    refine w_idx [PyData.none, .int 5, .str "loop", .list [], .list [.int 1], .tuple [], .dict [], .bool true, tD (W ++ [0])] (fun i S => ∃ o10, S = [some (.dat (.list (iD ns))), some (.own [.int k]), o2, o3, o4, o5, o6, o7, o8, some (.dat (tD W)), o10]) ⟨o10, rfl⟩ ?_ ?_
    · rintro i e S hd ⟨o10, rfl⟩
      have c1 := key e (List.mem_of_getElem? hd)
      show Wp (b_law_3l [some (.dat (.list (iD ns))), some (.own [.int k]), o2, o3, o4, o5, o6, o7, o8, some (.dat (tD W)), some (.dat e)]) _
      unfold b_law_3l
      exact w_C (w_IfF (q_Not (q_Tr (r_Call (a_C (r_V rfl) (a_C (r_Tup (a_C r_K (a_C r_K a_N)) rfl (le_line (Nat.le_of_ble_eq_true rfl))) a_N)) a_N rfl (c_plain rfl rfl c1 rfl)) rfl rfl)) rfl (w_0 (w_nx (w_0 (.inl ⟨_, .inl rfl, _, rfl⟩)))))
    rintro S ⟨o10, rfl⟩
    refine w_nx ?_
    exact w_CR (w_Ret (r_AndB (r_Call (a_C (r_V rfl) (a_C (r_Lst (a_C r_K a_N) rfl (le_line (Nat.le_of_ble_eq_true rfl))) a_N)) a_N rfl (c_plain rfl rfl cW rfl)) (r_AndB (r_cmp (r_Call (a_C (r_V rfl) (a_C r_K a_N)) a_N rfl (c_plain rfl rfl c2 (noL_ints _))) (r_Tup (a_C r_K a_N) rfl (le_line (Nat.le_of_ble_eq_true rfl))) (eq_tup [12698280] [12698280])) (r_cmp (r_Call (a_C (r_Tup (a_C r_K a_N) rfl (le_line (Nat.le_of_ble_eq_true rfl))) (a_C r_K a_N)) a_N rfl (c_plain rfl rfl c3 rfl)) (r_Tup (a_C r_K a_N) rfl (le_line (Nat.le_of_ble_eq_true rfl))) (eq_tup [4] [4])))) rfl ⟨_, rfl⟩)

end Z.L

set_option maxHeartbeats 0
open PySem PySem.W PySem.Calls PyProof.Rows
theorem PySem.Challenge.cw_sumwheels_k42_loops_checked_and_folded_holds : PySem.Challenge.rw_sumwheels_k42_loops_checked_and_folded.Holds := by
  w_on; o_law
  refine HandSHeadRun.head_any (r := OpenLaw.row Z.L.lw) (q := view (OpenLaw.row Z.L.lw).prog [29]) (H := Z.L.hk) (ob := Z.L.ob) (M := 8000) (loose := Z.L.loose) (d := HandSHeadRun.topDef (OpenLaw.row Z.L.lw).prog 29) (kwd := []) Z.L.ob_eq
    (by kernel_rfl) (fun s => by kernel_rfl) Z.L.run (by kernel_rfl) (by kernel_rfl) (by kernel_rfl) (by rfl) (by first | assumption | decide +kernel) (by decide +kernel) ⟨rfl, rfl, rfl, rfl, rfl, by decide +kernel⟩ ?hw ?hc
  case hw => w_witness2
  case hc => exact Z.L.law_of Z.L.zrun

