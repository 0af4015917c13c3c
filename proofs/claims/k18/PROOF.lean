import PyProof.Rows.All
import Wide.All
import OpenK.AllK
import Wide.FinOn
import HandS.ForMost
import HandS.Wide
import HandS.WideBits
import HandS.Style
import HandS.Deep
import HandS.IsInst
import HandS.SortInts
import HandS.TupAny
import PyProof.ReprRoads
import HandS.ForExc
import HandS.TryMany
import HandS.Conv
import HandS.More
import KE.GoesNew
import KE.GoesMore
import KE.GoesEnumKw
import HandS.Zip
import HandS.Ends
import HandS.HeadEnd
import HandS.Words
import HandS.WordsExc
import HandS.Defaults
import HandS.Head0
import HandS.Head1
import HandS.Head2
import HandS.HeadHook1
import HandS.HeadHook2
import PyProof.NoPylong
import PyProof.ReprBulk
import HandS.Codes
import PySem.Challenge.RW_whoserves_k18_whole_within_both_sides
set_option Elab.async false
set_option linter.all false
set_option maxRecDepth 100000
set_option maxHeartbeats 0
/-! Vm 1: the small language and what it says, on plain data -/
namespace Vm
open PySem PySem.Spec PyProof.Rows L2

abbrev D := PyData

/-- what a name holds: nothing, a datum that stands for good, a list of its own, a list handed in to be changed,
    one that a loop walks (true: handed in) -/
inductive Slot where
  | un | im (d : D) | ow (d : D) | io (d : D) | lk (f : Bool) (d : D)
abbrev En := List Slot

/-- an exception: its class's name, what it bears -/
structure Xn where
  cls : Str
  has : List (Str × D) := []

/-- how an expression ends -/
inductive R (α : Type) where
  | ok (a : α) (e : En) | exn (x : Xn) (e : En) | bad
def R.bind {α β : Type} (r : R α) (f : α → En → R β) : R β := match r with
  | .ok a e => f a e
  | .exn x e => .exn x e
  | .bad => .bad
/-- how a call ends: the value, whether it is a list of the caller's own, what the handed in ones hold -/
inductive Out where
  | ok (d : D) (f : Bool) (os : List D) | exn (x : Xn) (os : List D) | bad
/-- how a statement ends -/
inductive RS where
  | nx (e : En) | rt (d : D) (f : Bool) (e : En) | bk (e : En) | ct (e : En) | exn (x : Xn) (e : En) | bad
structure Fm where
  io : List Bool
  run : List D → Out

/-! ### operations on data -/
inductive Cm where
  | lt | le | gt | ge | eq | ne | isin | notin | isNone | notNone | isBool (b : Bool) | notBool (b : Bool)
  deriving DecidableEq
inductive Ty where
  | int | bool | str | tuple | list
  deriving DecidableEq
inductive Pr where
  | add | sub | mul | fdiv | mod | pow | neg | rev | lrg | trg
  | cmp (c : Cm)
  | item | cut (lo hi : Bool)
  | len | abs | max | min | toInt | toStr | toList | toTuple | sum | sorted | repr | all | any | divmod
  | isi (t : Ty)
  deriving DecidableEq

def isTy : Ty → D → Bool
  | .int, .int _ => true | .int, .bool _ => true
  | .bool, .bool _ => true
  | .str, .str _ => true
  | .tuple, .tuple _ => true
  | .list, .list _ => true
  | _, _ => false
def flatD : D → Bool
  | .int _ => true | .str _ => true | .none => true
  | _ => false
def powOk (i j : Int) : Bool := decide (0 ≤ j) && decide (j ≤ 1000000) && decide (i.natAbs < 2 ^ 64)
noncomputable def mulOk (i j : Int) : Bool := @decide ((Builtin.Int.intBits i : Int) + (Builtin.Int.intBits j : Int) ≤ 134217728) (Classical.propDecidable _)
noncomputable def divOk (i j : Int) : Bool := @decide (0 < j ∧ Builtin.divisionGoesByPylong i j = false) (Classical.propDecidable _)
def intOf : D → Option Int
  | .int i => some i
  | _ => none
def boolOf : D → Option Bool
  | .bool b => some b
  | _ => none
def intsOf : List D → Option (List Int)
  | [] => some []
  | .int i :: r => (intsOf r).map (i :: ·)
  | _ => none
def boolsOf : List D → Option (List Bool)
  | [] => some []
  | .bool b :: r => (boolsOf r).map (b :: ·)
  | _ => none
/-- a text, list, tuple as its items -/
def itemsOf : D → Option (List D)
  | .list xs => some xs
  | .tuple xs => some xs
  | _ => none
def lenD : D → Option Nat
  | .list xs => some xs.length
  | .tuple xs => some xs.length
  | .str x => if x.length ≤ sizeLine then some x.length else none
  | _ => none
/-- the truth of a datum -/
def truD : D → Option Bool
  | .none => some false
  | .bool b => some b
  | .int i => some (i != 0)
  | .str x => if x.length ≤ sizeLine then some ((x.length : Int) != 0) else none
  | .list xs => some (!xs.isEmpty)
  | .tuple xs => some (!xs.isEmpty)
  | _ => none
def cutD (xs : List D) (lo hi : Option Int) : List D := (xs.drop (HT.sIx xs.length 0 lo)).take (HT.sIx xs.length xs.length hi - HT.sIx xs.length 0 lo)
def iN (b : Bool) (x : Bool) : Bool := if b then !x else x

def eqD : D → D → Option Bool
  | .str x, .str y => some (decide (x = y))
  | d, e => if SeqAt.shaped d && SeqAt.shaped e then some (PyData.eqv d e) else none
def ordD (f : Int → Int → Bool) : List D → Option Bool
  | [.int i, .int j] => some (f i j)
  | _ => none
def inD (x : D) (ys : List D) : Option Bool := if SeqAt.shaped x && SeqAt.shaped (.list ys) then some (ys.any fun y => PyData.eqv y x) else none
def inT (x : D) (ys : List D) : Option Bool := if flatD x && ys.all flatD then some (ys.any fun y => PyData.eqv y x) else none
def eqL : List D → Option Bool
  | [d, e] => eqD d e
  | _ => none
def inL : List D → Option Bool
  | [x, .list ys] => inD x ys
  | [x, .tuple ys] => inT x ys
  | _ => none
def isNoD : D → Bool
  | .none => true
  | _ => false
def noneL : List D → Option Bool
  | [x] => some (isNoD x)
  | _ => none
def isBL (b : Bool) : List D → Option Bool
  | [.bool c] => some (decide (c = b))
  | _ => none
def cmpD : Cm → List D → Option Bool
  | .lt => ordD fun i j => decide (i < j)
  | .le => ordD fun i j => decide (i ≤ j)
  | .gt => ordD fun i j => decide (j < i)
  | .ge => ordD fun i j => decide (j ≤ i)
  | .eq => eqL
  | .ne => fun ds => (eqL ds).map not
  | .isin => inL
  | .notin => fun ds => (inL ds).map not
  | .isNone => noneL
  | .notNone => fun ds => (noneL ds).map not
  | .isBool b => isBL b
  | .notBool b => fun ds => (isBL b ds).map not

def maxI : Int → List Int → Int
  | m, [] => m
  | m, x :: r => maxI (if m < x then x else m) r
def minI : Int → List Int → Int
  | m, [] => m
  | m, x :: r => minI (if x < m then x else m) r
def putOrd (x : Int) : List Int → List Int
  | [] => [x]
  | y :: r => if x ≤ y then x :: y :: r else y :: putOrd x r
def sortI : List Int → List Int
  | [] => []
  | x :: r => putOrd x (sortI r)

/-! the values of operations, and whether each is a new list -/
def addD : List D → Option (D × Bool)
  | [.int i, .int j] => some (.int (i + j), false)
  | [.str x, .str y] => if x.length + y.length ≤ sizeLine then some (.str (x ++ y), false) else none
  | [.list xs, .list ys] => if xs.length + ys.length ≤ sizeLine then some (.list (xs ++ ys), true) else none
  | [.tuple xs, .tuple ys] => if xs.length + ys.length ≤ sizeLine then some (.tuple (xs ++ ys), false) else none
  | _ => none
def subD : List D → Option (D × Bool)
  | [.int i, .int j] => some (.int (i - j), false)
  | _ => none
noncomputable def mulD : List D → Option (D × Bool)
  | [.int i, .int j] => if mulOk i j then some (.int (i * j), false) else none
  | _ => none
noncomputable def fdivD : List D → Option (D × Bool)
  | [.int i, .int j] => if divOk i j then some (.int (i / j), false) else none
  | _ => none
def modD : List D → Option (D × Bool)
  | [.int i, .int j] => if 0 < j then some (.int (i % j), false) else none
  | _ => none
def powD : List D → Option (D × Bool)
  | [.int i, .int j] => if powOk i j then some (.int (i ^ j.toNat), false) else none
  | _ => none
def negD : List D → Option (D × Bool)
  | [.int i] => some (.int (-i), false)
  | _ => none
def itemD : List D → Option (D × Bool)
  | [.list xs, .int i] => (atI xs i).map fun d => (d, false)
  | [.tuple xs, .int i] => (atI xs i).map fun d => (d, false)
  | [.str x, .int i] => if x.length ≤ sizeLine then (atI x.cps.toList i).map fun c => (.str ⟨#[c]⟩, false) else none
  | _ => none
def slcD (x : D) (lo hi : Option Int) : Option (D × Bool) := match x with
  | .list xs => some (.list (cutD xs lo hi), true)
  | .tuple xs => some (.tuple (cutD xs lo hi), false)
  | .str x => if x.length ≤ sizeLine then some (.str (cutS x lo hi), false) else none
  | _ => none
def rngD (lo : Int) (n : Nat) : List D := (List.range n).map fun (k : Nat) => .int (lo + k)
def lrgD : List D → Option (D × Bool)
  | [.int n] => if -(2 ^ 62) ≤ n ∧ n ≤ 16777216 then some (.list (rngD 0 n.toNat), true) else none
  | _ => none
def trgD : List D → Option (D × Bool)
  | [.int n] => if -(2 ^ 62) ≤ n ∧ n ≤ 16777216 then some (.tuple (rngD 0 n.toNat), false) else none
  | _ => none
def revD : List D → Option (D × Bool)
  | [.list xs] => some (.list xs.reverse, true)
  | [.tuple xs] => some (.tuple xs.reverse, false)
  | _ => none
def cutsD : Bool → Bool → List D → Option (D × Bool)
  | false, false, [x] => slcD x none none
  | true, false, [x, .int a] => slcD x (some a) none
  | false, true, [x, .int b] => slcD x none (some b)
  | true, true, [x, .int a, .int b] => slcD x (some a) (some b)
  | _, _, _ => none
def absD : List D → Option (D × Bool)
  | [.int i] => some (.int (if i < 0 then -i else i), false)
  | _ => none
def maxD : List D → Option (D × Bool)
  | [.int i, .int j] => some (.int (if j > i then j else i), false)
  | _ => none
def minD : List D → Option (D × Bool)
  | [.int i, .int j] => some (.int (if j < i then j else i), false)
  | _ => none
def toIntD : List D → Option (D × Bool)
  | [.int i] => some (.int i, false)
  | [.bool b] => some (.int (if b then 1 else 0), false)
  | _ => none
def lensD : List D → Option (D × Bool)
  | [d] => (lenD d).map fun (n : Nat) => (.int (n : Int), false)
  | _ => none
def toListD : List D → Option (D × Bool)
  | [d] => (itemsOf d).map fun xs => (.list xs, true)
  | _ => none
def toTupleD : List D → Option (D × Bool)
  | [d] => (itemsOf d).map fun xs => (.tuple xs, false)
  | _ => none
def sumD : List D → Option (D × Bool)
  | [.list ds] => (intsOf ds).map fun ns => (.int ns.sum, false)
  | _ => none
def sortedD : List D → Option (D × Bool)
  | [.list ds] => (intsOf ds).map fun ns => (.list ((sortI ns).map .int), true)
  | _ => none
def reprD : List D → Option (D × Bool)
  | [d] => if d.showable && SeqAt.shaped d && decide (d.shown.length ≤ sizeLine) then some (.str d.shown, false) else none
  | _ => none
def allD : List D → Option (D × Bool)
  | [.list ds] => (boolsOf ds).map fun bs => (.bool (bs.all id), false)
  | _ => none
def anyD : List D → Option (D × Bool)
  | [.list ds] => (boolsOf ds).map fun bs => (.bool (bs.any id), false)
  | _ => none
noncomputable def divmodD : List D → Option (D × Bool)
  | [.int i, .int j] => if divOk i j then some (.tuple [.int (i / j), .int (i % j)], false) else none
  | _ => none
def isiD (t : Ty) : List D → Option (D × Bool)
  | [d] => some (.bool (isTy t d), false)
  | _ => none
noncomputable def prD : Pr → List D → Option (D × Bool)
  | .add => addD
  | .sub => subD
  | .mul => mulD
  | .fdiv => fdivD
  | .mod => modD
  | .pow => powD
  | .neg => negD
  | .rev => revD
  | .lrg => lrgD
  | .trg => trgD
  | .cmp c => fun ds => (cmpD c ds).map fun b => (.bool b, false)
  | .item => itemD
  | .cut a b => cutsD a b
  | .len => lensD
  | .abs => absD
  | .max => maxD
  | .min => minD
  | .toInt => toIntD
  | .toStr => fun _ => none
  | .toList => toListD
  | .toTuple => toTupleD
  | .sum => sumD
  | .sorted => sortedD
  | .repr => reprD
  | .all => allD
  | .any => anyD
  | .divmod => divmodD
  | .isi t => isiD t

/-! ### slots -/
def rdS (e : En) (i : Nat) : Option D := match e[i]? with
  | some (.im d) => some d
  | some (.ow d) => some d
  | some (.io d) => some d
  | some (.lk _ d) => some d
  | _ => none
/-- a plain store: not over what was handed in, nor over what a loop walks -/
def stS (e : En) (i : Nat) (d : D) (f : Bool) : Option En := match e[i]? with
  | some .un => some (e.set i (if f then .ow d else .im d))
  | some (.im _) => some (e.set i (if f then .ow d else .im d))
  | some (.ow _) => some (e.set i (if f then .ow d else .im d))
  | _ => none
/-- the list in a slot is changed -/
def chS (e : En) (i : Nat) (g : List D → Option (List D × α)) : Option (α × En) := match e[i]? with
  | some (.ow (.list xs)) => (g xs).map fun p => (p.2, e.set i (.ow (.list p.1)))
  | some (.io (.list xs)) => (g xs).map fun p => (p.2, e.set i (.io (.list p.1)))
  | _ => none
def canLk (e : En) (i : Nat) : Bool := match e[i]? with
  | some (.ow _) => true
  | some (.io _) => true
  | _ => false
def lkS (e : En) (i : Nat) : En := match e[i]? with
  | some (.ow d) => e.set i (.lk false d)
  | some (.io d) => e.set i (.lk true d)
  | _ => e
def ulS (e : En) (i : Nat) : En := match e[i]? with
  | some (.lk false d) => e.set i (.ow d)
  | some (.lk true d) => e.set i (.io d)
  | _ => e

/-! ### the language -/
/-- what a loop's or a comprehension's turn stores -/
inductive Tg where
  | nm (i : Nat) | tp (ts : Tg) | nl | cn (a r : Tg)
/-- how a list in a slot is changed -/
inductive Lm where
  | app | ins | ext | pop | popAt | rev | clr
  deriving DecidableEq
/-- nil, cons: a row of arguments. of, rng1, rng2, enum, zip: what is walked. -/
inductive E where
  | var (i : Nat) | con (d : D)
  | nil | cons (a r : E)
  | tup (as : E) | lst (as : E)
  | pr (p : Pr) (as : E)
  | not (a : E) | and (a b : E) | or (a b : E) | ite (c a b : E)
  | chn (p q : Cm) (a b c : E)
  | call (m : Fm) (as : E) | callT (m : Fm) (a : E)
  | lm (m : Lm) (i : Nat) (as : E)
  | of (a : E) | rng1 (a : E) | rng2 (a b : E) | enum (as : E) | enum2 (as : E) | zip (as : E) | zip3 (as : E)
  | lc (vs : List Nat) (t : Tg) (it c el : E)

mutual
def stT : Tg → En → D → Option En
  | .nm i, e, d => stS e i d false
  | .tp ts, e, .tuple ds => stM ts e ds
  | _, _, _ => none
def stM : Tg → En → List D → Option En
  | .nl, e, [] => some e
  | .cn a r, e, d :: ds => (stT a e d).bind fun e => stM r e ds
  | _, _, _ => none
end
def tgIx : Tg → List Nat
  | .nm i => [i]
  | .tp ts => tgIx ts
  | .nl => []
  | .cn a r => tgIx a ++ tgIx r
def wipeE (e : En) : List Nat → En
  | [] => e
  | v :: vs => (wipeE e vs).set v .un
/-- the own names of a comprehension hold nothing of their own -/
def mayWipe (e : En) (vs : List Nat) : Bool := vs.all fun v => match e[v]? with
  | some .un => true
  | some (.im _) => true
  | _ => false
/-- behind a comprehension the names are as ahead -/
def backE (e0 : En) (e : En) : List Nat → En
  | [] => e
  | v :: vs => (backE e0 e vs).set v (e0.getD v .un)
def popI (xs : List D) (i : Int) : Option (List D × D) :=
  if -(2 ^ 63) ≤ i && i < 2 ^ 63 then (seqIndex? i xs.length).bind fun k => (xs[k]?).map fun y => (xs.eraseIdx k, y) else none
def lmD : Lm → List D → List D → Option (List D × D)
  | .app, [d], xs => if xs.length < sizeLine then some (xs ++ [d], .none) else none
  | .ext, [.list ys], xs => if xs.length + ys.length ≤ sizeLine then some (xs ++ ys, .none) else none
  | .ins, [.int i, d], xs => if 0 ≤ i ∧ i < 2 ^ 63 ∧ xs.length < sizeLine then some (xs.take i.toNat ++ d :: xs.drop i.toNat, .none) else none
  | .pop, [], xs => (xs[xs.length - 1]?).map fun y => (xs.dropLast, y)
  | .popAt, [.int i], xs => popI xs i
  | .rev, [], xs => some (xs.reverse, .none)
  | .clr, [], _ => some ([], .none)
  | _, _, _ => none
/-- the slots of the handed in arguments -/
def ioIx : E → List Bool → List Nat
  | .cons (.var i) r, true :: bs => i :: ioIx r bs
  | .cons _ r, _ :: bs => ioIx r bs
  | _, _ => []
def wb (e : En) : List Nat → List D → Option En
  | [], [] => some e
  | i :: is, d :: ds => (match e[i]? with
    | some (.ow _) => wb (e.set i (.ow d)) is ds
    | some (.io _) => wb (e.set i (.io d)) is ds
    | _ => none)
  | _, _ => none
/-- the slots that are walked, of those that may be changed -/
def rowVars : E → List Nat
  | .cons (.var i) r => if i ∈ rowVars r then rowVars r else i :: rowVars r
  | .cons _ r => rowVars r
  | _ => []
def srcs : E → List Nat
  | .of (.var i) => [i]
  | .enum as => rowVars as
  | .enum2 as => rowVars as
  | .zip as => rowVars as
  | .zip3 as => rowVars as
  | _ => []
def lkAll (e : En) (is : List Nat) : En := is.foldl lkS e
def ulAll (e : En) (is : List Nat) : En := is.foldl ulS e
def inR (i : Int) : Bool := decide (-(2 ^ 62) ≤ i) && decide (i < 2 ^ 62)
def walkD : D → Option (List D)
  | .list xs => some xs
  | .tuple xs => some xs
  | _ => none
def enumD (k : Int) (xs : List D) : List D := xs.mapIdx fun i x => .tuple [.int (k + (i : Int)), x]
def zipD (xs ys : List D) : List D := List.zipWith (fun x y => .tuple [x, y]) xs ys
def zip3D (xs ys zs : List D) : List D := List.zipWith (fun p z => .tuple [p.1, p.2, z]) (List.zipWith (fun x y => (x, y)) xs ys) zs
def enumL : List D → Option (List D)
  | [d] => (walkD d).map (enumD 0)
  | _ => none
def enumL2 : List D → Option (List D)
  | [d, .int k] => if inR k then (walkD d).map (enumD k) else none
  | _ => none
def zipL : List D → Option (List D)
  | [d, e] => (walkD d).bind fun xs => (walkD e).map fun ys => zipD xs ys
  | _ => none
def zipL3 : List D → Option (List D)
  | [d, e, f] => (walkD d).bind fun xs => (walkD e).bind fun ys => (walkD f).map fun zs => zip3D xs ys zs
  | _ => none
def lift {α : Type} (o : Option α) (e : En) : R α := match o with
  | some a => .ok a e
  | none => .bad
def lift2 {α : Type} (a : α) (o : Option En) : R α := match o with
  | some e => .ok a e
  | none => .bad

/-- a comprehension's loop -/
def lcL (vs : List Nat) (t : Tg) (c : En → R Bool) (el : En → R (D × Bool)) : List D → List D → En → R (List D)
  | [], acc, e => .ok acc e
  | d :: r, acc, e => match stT t e d with
    | none => .bad
    | some e1 => match c e1 with
      | .ok true e2 => (match el e2 with
        | .ok (y, _) e3 => if acc.length < sizeLine ∧ mayWipe e3 vs then lcL vs t c el r (acc ++ [y]) (wipeE e3 vs) else .bad
        | _ => .bad)
      | .ok false e2 => if mayWipe e2 vs then lcL vs t c el r acc (wipeE e2 vs) else .bad
      | _ => .bad

mutual
/-- the value, ready to be kept -/
noncomputable def evE : E → En → R (D × Bool)
  | .var i, e => (match e[i]? with
    | some (.im d) => .ok (d, false) e
    | some (.ow d) => .ok (d, false) (e.set i (.im d))
    | _ => .bad)
  | .con d, e => .ok (d, false) e
  | .tup as, e => (evA as e).bind fun ds e => if ds.length ≤ sizeLine then .ok (.tuple ds, false) e else .bad
  | .lst as, e => (evA as e).bind fun ds e => if ds.length ≤ sizeLine then .ok (.list ds, true) e else .bad
  | .pr p as, e => (evB as e).bind fun ds e => lift (prD p ds) e
  | .not a, e => (evE a e).bind fun r e => lift ((boolOf r.1).map fun b => (.bool (!b), false)) e
  | .and a b, e => (evE a e).bind fun r e => match boolOf r.1 with
    | some true => evE b e
    | some false => .ok (.bool false, false) e
    | none => .bad
  | .or a b, e => (evE a e).bind fun r e => match boolOf r.1 with
    | some true => .ok (.bool true, false) e
    | some false => evE b e
    | none => .bad
  | .ite c a b, e => (evT c e).bind fun t e => if t = true then evE a e else evE b e
  | .chn p q a b c, e => (evE a e).bind fun x e => (evE b e).bind fun y e => match cmpD p [x.1, y.1] with
    | some true => (evE c e).bind fun z e => lift ((cmpD q [y.1, z.1]).map fun b => (.bool b, false)) e
    | some false => .ok (.bool false, false) e
    | none => .bad
  | .call m as, e => (evC as m.io e).bind fun ds e => if (ioIx as m.io).Nodup then (match m.run ds with
      | .ok d f os => lift2 (d, f) (wb e (ioIx as m.io) os)
      | .exn x os => (match wb e (ioIx as m.io) os with
        | some e => .exn x e
        | none => .bad)
      | .bad => .bad) else .bad
  | .callT m a, e => (evE a e).bind fun r e => if r.2 = true ∧ m.io = [true] then (match m.run [r.1] with
      | .ok d f _ => .ok (d, f) e
      | .exn x _ => .exn x e
      | .bad => .bad) else .bad
  | .lm m i as, e => if canLk e i then (evA as e).bind fun ds e => (match chS e i (lmD m ds) with
    | some (d, e) => .ok (d, false) e
    | none => .bad) else .bad
  | .lc vs t it c el, e => (evI it e).bind fun ds e1 =>
    if mayWipe e1 vs then (match lcL vs t (fun e => evT c e) (fun e => evE el e) ds [] (wipeE (lkAll e1 ((srcs it).filter (canLk e1))) vs) with
      | .ok ys e2 => .ok (.list ys, true) (ulAll (backE e1 e2 vs) ((srcs it).filter (canLk e1)))
      | _ => .bad) else .bad
  | _, _ => .bad
/-- a row of values, ready to be kept -/
noncomputable def evA : E → En → R (List D)
  | .nil, e => .ok [] e
  | .cons a r, e => (evE a e).bind fun x e => (evA r e).bind fun xs e => .ok (x.1 :: xs) e
  | _, _ => .bad
/-- a row of values that are looked at: what a name holds is read at the end -/
noncomputable def evB : E → En → R (List D)
  | .nil, e => .ok [] e
  | .cons (.var i) r, e => if (rdS e i).isSome then (evB r e).bind fun xs e => lift ((rdS e i).map (· :: xs)) e else .bad
  | .cons a r, e => (evE a e).bind fun x e => (evB r e).bind fun xs e => .ok (x.1 :: xs) e
  | _, _ => .bad
/-- a call's arguments -/
noncomputable def evC : E → List Bool → En → R (List D)
  | .nil, [], e => .ok [] e
  | .cons (.var i) r, true :: bs, e => if canLk e i then (evC r bs e).bind fun xs e => if canLk e i then lift ((rdS e i).map (· :: xs)) e else .bad else .bad
  | .cons a r, false :: bs, e => (evE a e).bind fun x e => (evC r bs e).bind fun xs e => .ok (x.1 :: xs) e
  | _, _, _ => .bad
/-- a truth -/
noncomputable def evT : E → En → R Bool
  | .not a, e => (evT a e).bind fun b e => .ok (!b) e
  | .and a b, e => (evT a e).bind fun t e => if t = true then evT b e else .ok false e
  | .or a b, e => (evT a e).bind fun t e => if t = true then .ok true e else evT b e
  | .pr (.cmp c) as, e => (evB as e).bind fun ds e => lift (cmpD c ds) e
  | .var i, e => lift ((rdS e i).bind truD) e
  | .chn p q a b c, e => (evE a e).bind fun x e => (evE b e).bind fun y e => match cmpD p [x.1, y.1] with
    | some true => (evE c e).bind fun z e => lift (cmpD q [y.1, z.1]) e
    | some false => .ok false e
    | none => .bad
  | .ite _ _ _, _ => .bad
  | a, e => (evE a e).bind fun r e => lift (truD r.1) e
/-- what is walked -/
noncomputable def evI : E → En → R (List D)
  | .of (.var i), e => lift ((rdS e i).bind walkD) e
  | .of a, e => (evE a e).bind fun x e => lift (walkD x.1) e
  | .rng1 a, e => (evE a e).bind fun x e => lift ((intOf x.1).bind fun j => if inR j then some (rngD 0 j.toNat) else none) e
  | .rng2 a b, e => (evE a e).bind fun x e => (evE b e).bind fun y e => lift ((intOf x.1).bind fun i => (intOf y.1).bind fun j => if inR i && inR j then some (rngD i (j - i).toNat) else none) e
  | .enum as, e => (evB as e).bind fun ds e => lift (enumL ds) e
  | .enum2 as, e => (evB as e).bind fun ds e => lift (enumL2 ds) e
  | .zip as, e => (evB as e).bind fun ds e => lift (zipL ds) e
  | .zip3 as, e => (evB as e).bind fun ds e => lift (zipL3 ds) e
  | _, _ => .bad
end

/-! ### statements -/
inductive T where
  | nm (i : Nat) | ix (i : Nat) (k : E)
inductive S where
  | skip | bad | seq (a b : S)
  | set (i : Nat) (a : E)
  | put (i : Nat) (k a : E)
  | unp (ts : List T) (a : E)
  | par (i j : Nat) (a b : E)
  | aug (i : Nat) (p : Pr) (a : E)
  | ex (a : E)
  | iff (c : E) (a b : S)
  | whl (c : E) (b : S)
  | frr (t : Tg) (it : E) (b : S)
  | ret (a : E) | retN | brk | cnt
def RS.bind (r : RS) (f : En → RS) : RS := match r with
  | .nx e => f e
  | .rt d b e => .rt d b e
  | .bk e => .bk e
  | .ct e => .ct e
  | .exn x e => .exn x e
  | .bad => .bad
def R.go {α : Type} (r : R α) (f : α → En → RS) : RS := match r with
  | .ok a e => f a e
  | .exn x e => .exn x e
  | .bad => .bad
def go1 (o : Option En) : RS := match o with
  | some e => .nx e
  | none => .bad
def putI (d : D) (k : D) (xs : List D) : Option (List D × Unit) := match k with
  | .int i => (ixN xs.length i).map fun j => (xs.set j d, ())
  | _ => none
noncomputable def stTs : List T → List D → En → RS
  | [], [], e => .nx e
  | .nm i :: ts, d :: ds, e => (go1 (stS e i d false)).bind fun e => stTs ts ds e
  | .ix i k :: ts, d :: ds, e => if canLk e i then (evE k e).go fun z e => (go1 ((chS e i (putI d z.1)).map (·.2))).bind fun e => stTs ts ds e else .bad
  | _, _, _ => .bad
/-- a loop's turns -/
def frL (t : Tg) (b : En → RS) : List D → En → RS
  | [], e => .nx e
  | d :: r, e => match stT t e d with
    | none => .bad
    | some e1 => match b e1 with
      | .nx e2 => frL t b r e2
      | .ct e2 => frL t b r e2
      | .bk e2 => .nx e2
      | q => q
def whN (c : En → R Bool) (b : En → RS) : Nat → En → RS
  | 0, _ => .bad
  | n + 1, e => match c e with
    | .ok true e1 => (match b e1 with
      | .nx e2 => whN c b n e2
      | .ct e2 => whN c b n e2
      | .bk e2 => .nx e2
      | q => q)
    | .ok false e1 => .nx e1
    | .exn x e1 => .exn x e1
    | .bad => .bad
open Classical in
noncomputable def whL (c : En → R Bool) (b : En → RS) (e : En) : RS := if h : ∃ n, whN c b n e ≠ .bad then whN c b h.choose e else .bad
def ulRS (is : List Nat) : RS → RS
  | .nx e => .nx (ulAll e is)
  | .bk e => .bk (ulAll e is)
  | .ct e => .ct (ulAll e is)
  | r => r
noncomputable def evS : S → En → RS
  | .skip, e => .nx e
  | .bad, _ => .bad
  | .seq a b, e => (evS a e).bind fun e => evS b e
  | .set i a, e => (evE a e).go fun r e => go1 (stS e i r.1 r.2)
  | .put i k a, e => (evE a e).go fun d e => if canLk e i then (evE k e).go fun z e => go1 ((chS e i (putI d.1 z.1)).map (·.2)) else .bad
  | .unp ts a, e => (evE a e).go fun r e => (match r.1 with
    | .tuple ds => if ds.length = ts.length then stTs ts ds e else .bad
    | _ => .bad)
  | .par i j a b, e => (evE a e).go fun x e => (evE b e).go fun y e => go1 ((stS e j y.1 y.2).bind fun e => stS e i x.1 x.2)
  | .aug i p a, e => (evE a e).go fun y e => (match rdS e i with
    | some x => (match prD p [x, y.1] with
      | some (z, false) => go1 (stS e i z false)
      | _ => .bad)
    | none => .bad)
  | .ex a, e => (evE a e).go fun _ e => .nx e
  | .iff c a b, e => (evT c e).go fun t e => if t = true then evS a e else evS b e
  | .whl c b, e => whL (fun e => evT c e) (fun e => evS b e) e
  | .frr t it b, e => (evI it e).go fun ds e1 => ulRS ((srcs it).filter (canLk e1)) (frL t (fun e => evS b e) ds (lkAll e1 ((srcs it).filter (canLk e1))))
  | .ret (.var i), e => (match e[i]? with
    | some (.im d) => .rt d false e
    | some (.ow d) => .rt d true (e.set i .un)
    | _ => .bad)
  | .ret a, e => (evE a e).go fun r e => .rt r.1 r.2 e
  | .retN, e => .rt .none false e
  | .brk, e => .bk e
  | .cnt, e => .ct e

/-! ### a def -/
def startE : List Bool → List D → List Slot
  | b :: bs, d :: ds => (if b then .io d else .im d) :: startE bs ds
  | _, _ => []
def contS : Slot → Option D
  | .io d => some d
  | .lk true d => some d
  | _ => none
def outsE : List Bool → List Slot → List D
  | true :: bs, s :: e => (match contS s with | some d => [d] | none => []) ++ outsE bs e
  | false :: bs, _ :: e => outsE bs e
  | _, _ => []
noncomputable def runF (io : List Bool) (n : Nat) (b : S) (ds : List D) : Out :=
  if ds.length = io.length then (match evS b (startE io ds ++ List.replicate (n - ds.length) .un) with
    | .nx e => .ok .none false (outsE io e)
    | .rt d f e => .ok d f (outsE io e)
    | .exn x e => .exn x (outsE io e)
    | _ => .bad) else .bad
end Vm
/-! Vm 2: how data lie in the abstract heap -/
namespace Vm
open PySem PySem.Spec PyProof.Rows L2

/-! ### data -/
def KT (K : PySem.W.Frag) (a : Addr) (vs : List V) : Prop :=
  ∃ (o : Obj) (its : Array Value) (n : Nat), K.lookup a = some o ∧ o.cls = .type "tuple" ∧ o.data = .seq its n ∧ its.size ≤ sizeLine ∧ Vals vs its.toList
/-- a list, a tuple at a, off A -/
def KL (K : PySem.W.Frag) (a : Addr) (vs : List V) : Prop := ∃ (its : List Value) (n : Nat), K.lookup a = some { cls := .type "list", data := .seq its.toArray n } ∧ its.length ≤ sizeLine ∧ Vals vs its
/-- what may be read as a list -/
def RdL (K : PySem.W.Frag) (H : Hp) (a : Addr) (vs : List V) : Prop := Rd H a (.lst vs) ∨ KL K a vs
def StL (K : PySem.W.Frag) (A : Addr → Prop) (H : Hp) (a : Addr) (vs : List V) : Prop := (¬ A a ∧ Rd H a (.lst vs)) ∨ KL K a vs
def StT (K : PySem.W.Frag) (A : Addr → Prop) (H : Hp) (a : Addr) (vs : List V) : Prop := (¬ A a ∧ Rd H a (.tup vs)) ∨ KT K a vs
theorem RdL.sq {K H a vs} (h : RdL K H a vs) : SqL K H a vs := by
  rcases h with h | ⟨its, n, h1, h2, h3⟩
  · exact .inl h
  · exact .inr ⟨_, its.toArray, n, h1, rfl, rfl, rfl, by simpa using h2, by simpa using h3⟩
theorem StL.rd {K A H a vs} (h : StL K A H a vs) : RdL K H a vs := h.elim (fun h => .inl h.2) .inr
theorem StL.sq {K A H a vs} (h : StL K A H a vs) : SqL K H a vs := h.rd.sq
theorem StT.sq {K A H a vs} (h : StT K A H a vs) : SqT K H a vs := h.elim (fun h => .inl h.2) .inr

mutual
inductive Rep (K : PySem.W.Frag) (A : Addr → Prop) (H : Hp) : D → V → Prop
  | non : Rep K A H .none .non
  | bl (b : Bool) : Rep K A H (.bool b) (.bl b)
  | int (i : Int) : Rep K A H (.int i) (.int i)
  | str (x : Str) : Rep K A H (.str x) (.str x)
  | lst {a : Addr} {vs : List V} {ds : List D} : StL K A H a vs → RepL K A H ds vs → Rep K A H (.list ds) (.ref a)
  | tup {a : Addr} {vs : List V} {ds : List D} : StT K A H a vs → RepL K A H ds vs → Rep K A H (.tuple ds) (.ref a)
inductive RepL (K : PySem.W.Frag) (A : Addr → Prop) (H : Hp) : List D → List V → Prop
  | nil : RepL K A H [] []
  | cons {d : D} {v : V} {ds : List D} {vs : List V} : Rep K A H d v → RepL K A H ds vs → RepL K A H (d :: ds) (v :: vs)
end
/-- what is tracked off A stays, and A grows at most by what wasn't tracked -/
structure Kp (A A' : Addr → Prop) (H H' : Hp) : Prop where
  k : ∀ b o, H b = some o → ¬ A b → H' b = some o
  s : ∀ b o, H b = some o → A' b → A b
section
variable {K : PySem.W.Frag} {A A' A'' : Addr → Prop} {H H' H'' : Hp}
theorem Kp.refl : Kp A A H H := ⟨fun _ _ h _ => h, fun _ _ _ h => h⟩
theorem Kp.grow (h : ∀ b o, H b = some o → H' b = some o) : Kp A A H H' := ⟨fun b o e _ => h b o e, fun _ _ _ h => h⟩
theorem Kp.trans (p : Kp A A' H H') (q : Kp A' A'' H' H'') (t : ∀ b o, H b = some o → ∃ o', H' b = some o') : Kp A A'' H H'' :=
  ⟨fun b o e n => q.k b o (p.k b o e n) fun z => n (p.s b o e z), fun b o e z => by
    obtain ⟨o', e'⟩ := t b o e
    exact p.s b o e (q.s b o' e' z)⟩
theorem StL.mono (p : Kp A A' H H') {a vs} (h : StL K A H a vs) : StL K A' H' a vs := by
  rcases h with ⟨n, r | ⟨o, r⟩⟩ | h
  · exact .inl ⟨fun z => n (p.s _ _ r z), .inl (p.k _ _ r n)⟩
  · exact .inl ⟨fun z => n (p.s _ _ r z), .inr ⟨o, p.k _ _ r n⟩⟩
  · exact .inr h
theorem StT.mono (p : Kp A A' H H') {a vs} (h : StT K A H a vs) : StT K A' H' a vs := by
  rcases h with ⟨n, r | ⟨o, r⟩⟩ | h
  · exact .inl ⟨fun z => n (p.s _ _ r z), .inl (p.k _ _ r n)⟩
  · exact .inl ⟨fun z => n (p.s _ _ r z), .inr ⟨o, p.k _ _ r n⟩⟩
  · exact .inr h
mutual
theorem Rep.mono (p : Kp A A' H H') : ∀ {d : D} {v : V}, Rep K A H d v → Rep K A' H' d v
  | _, _, .non => .non
  | _, _, .bl b => .bl b
  | _, _, .int i => .int i
  | _, _, .str x => .str x
  | _, _, .lst h r => .lst (h.mono p) (RepL.mono p r)
  | _, _, .tup h r => .tup (h.mono p) (RepL.mono p r)
theorem RepL.mono (p : Kp A A' H H') : ∀ {ds : List D} {vs : List V}, RepL K A H ds vs → RepL K A' H' ds vs
  | _, _, .nil => .nil
  | _, _, .cons h r => .cons (Rep.mono p h) (RepL.mono p r)
end
mutual
theorem Rep.dp : ∀ {d : D} {v : V}, Rep K A H d v → Dp K H v d
  | _, _, .non => .non
  | _, _, .bl b => .bl b
  | _, _, .int i => .int i
  | _, _, .str x => .str x
  | _, _, .lst h r => .lst h.sq (RepL.dp r)
  | _, _, .tup h r => .tup h.sq (RepL.dp r)
theorem RepL.dp : ∀ {ds : List D} {vs : List V}, RepL K A H ds vs → DpAll K H vs ds
  | _, _, .nil => .nil
  | _, _, .cons h r => .cons (Rep.dp h) (RepL.dp r)
end
theorem RepL.length : ∀ {ds : List D} {vs : List V}, RepL K A H ds vs → vs.length = ds.length
  | _, _, .nil => rfl
  | _, _, .cons _ r => congrArg Nat.succ (RepL.length r)
theorem RepL.get : ∀ {ds : List D} {vs : List V} {i : Nat} {d : D}, RepL K A H ds vs → ds[i]? = some d → ∃ v, vs[i]? = some v ∧ Rep K A H d v
  | _, _, _, _, .nil, e => by simp at e
  | _, _, 0, _, .cons h _, e => by simp at e; subst e; exact ⟨_, rfl, h⟩
  | _, _, i + 1, _, .cons _ r, e => by
    obtain ⟨v, h1, h2⟩ := RepL.get (i := i) r (by simpa using e)
    exact ⟨v, by simpa using h1, h2⟩
theorem RepL.getV : ∀ {ds : List D} {vs : List V} {i : Nat} {v : V}, RepL K A H ds vs → vs[i]? = some v → ∃ d, ds[i]? = some d ∧ Rep K A H d v
  | _, _, _, _, .nil, e => by simp at e
  | _, _, 0, _, .cons h _, e => by simp at e; subst e; exact ⟨_, rfl, h⟩
  | _, _, i + 1, _, .cons _ r, e => by
    obtain ⟨d, h1, h2⟩ := RepL.getV (i := i) r (by simpa using e)
    exact ⟨d, by simpa using h1, h2⟩
theorem RepL.append : ∀ {ds es : List D} {vs us : List V}, RepL K A H ds vs → RepL K A H es us → RepL K A H (ds ++ es) (vs ++ us)
  | _, _, _, _, .nil, s => s
  | _, _, _, _, .cons h r, s => .cons h (RepL.append r s)
theorem RepL.take : ∀ {ds : List D} {vs : List V} (n : Nat), RepL K A H ds vs → RepL K A H (ds.take n) (vs.take n)
  | _, _, 0, _ => by simp; exact .nil
  | _, _, _ + 1, .nil => .nil
  | _, _, n + 1, .cons h r => .cons h (RepL.take n r)
theorem RepL.drop : ∀ {ds : List D} {vs : List V} (n : Nat), RepL K A H ds vs → RepL K A H (ds.drop n) (vs.drop n)
  | _, _, 0, r => r
  | _, _, _ + 1, .nil => .nil
  | _, _, n + 1, .cons _ r => RepL.drop n r
theorem RepL.set {d : D} {v : V} (h : Rep K A H d v) : ∀ {ds : List D} {vs : List V} (i : Nat), RepL K A H ds vs → RepL K A H (ds.set i d) (vs.set i v)
  | _, _, _, .nil => .nil
  | _, _, 0, .cons _ r => .cons h r
  | _, _, i + 1, .cons q r => .cons q (RepL.set h i r)
theorem RepL.erase : ∀ {ds : List D} {vs : List V} (i : Nat), RepL K A H ds vs → RepL K A H (ds.eraseIdx i) (vs.eraseIdx i)
  | _, _, _, .nil => .nil
  | _, _, 0, .cons _ r => r
  | _, _, i + 1, .cons h r => .cons h (RepL.erase i r)
theorem RepL.rev {ds : List D} {vs : List V} (r : RepL K A H ds vs) : RepL K A H ds.reverse vs.reverse := by
  induction ds generalizing vs with
  | nil => cases r; exact .nil
  | cons d ds ih =>
    cases r with
    | cons h r =>
      rw [List.reverse_cons, List.reverse_cons]
      exact (ih r).append (.cons h .nil)
theorem RepL.dropLast {ds : List D} {vs : List V} (r : RepL K A H ds vs) : RepL K A H ds.dropLast vs.dropLast := by
  rw [List.dropLast_eq_take, List.dropLast_eq_take, r.length]
  exact r.take _
theorem RepL.ints : ∀ {ns : List Int}, RepL K A H (ns.map PyData.int) (ns.map V.int)
  | [] => .nil
  | n :: ns => .cons (.int n) RepL.ints
end

/-! ### slots -/
def Own (K : PySem.W.Frag) (A : Addr → Prop) (H : Hp) (a : Addr) (d : D) : Prop := ∃ ds vs, d = .list ds ∧ H a = some (.lst vs) ∧ RepL K A H ds vs
inductive SlotR (K : PySem.W.Frag) (A : Addr → Prop) (H : Hp) : Slot → Option Addr → Option V → Prop
  | un {x} : SlotR K A H .un none x
  | im {d v} : Rep K A H d v → SlotR K A H (.im d) none (some v)
  | ow {d a} : Own K A H a d → SlotR K A H (.ow d) (some a) (some (.ref a))
  | io {d a} : Own K A H a d → SlotR K A H (.io d) (some a) (some (.ref a))
  | lk {f d a} : Own K A H a d → SlotR K A H (.lk f d) (some a) (some (.ref a))
def Slot.isIo : Slot → Bool
  | .io _ => true
  | .lk f _ => f
  | _ => false
/-- what a call was begun with: what is to be avoided, what was handed in to be changed, the heap, new lists that wait
    to be stored, what loops walk -/
structure Gh where
  B : Addr → Prop
  ioa : List (Nat × Addr)
  H0 : Hp
  T : Addr → Prop := fun _ => False
  lk : List (Nat × Addr × D) := []
  Z : Hp := fun _ => none
def Gh.av (g : Gh) (as : Nat → Option Addr) (b : Addr) : Prop := g.B b ∨ g.T b ∨ ∃ i, as i = some b
def Gh.plus (g : Gh) (a : Addr) : Gh := { g with T := fun b => g.T b ∨ b = a }
structure Rel (K : PySem.W.Frag) (g : Gh) (e : En) (as : Nat → Option Addr) (σ : L2.St) (H : Hp) : Prop where
  len : σ.length = e.length
  sl : ∀ i s, e[i]? = some s → SlotR K (g.av as) H s (as i) (σ[i]?.join)
  out : ∀ i, e.length ≤ i → as i = none
  inj : ∀ i j a, as i = some a → as j = some a → i = j
  own : ∀ i s a, e[i]? = some s → as i = some a → (s.isIo = true ∧ (i, a) ∈ g.ioa) ∨ (s.isIo = false ∧ g.H0 a = none)
  iok : ∀ p ∈ g.ioa, as p.1 = some p.2 ∧ ∃ s, e[p.1]? = some s ∧ s.isIo = true
  keep : ∀ b o, g.H0 b = some o → (∀ p ∈ g.ioa, p.2 ≠ b) → H b = some o
  lks : ∀ p ∈ g.lk, as p.1 = some p.2.1 ∧ ∃ f, e[p.1]? = some (.lk f p.2.2)
  trB : ∀ b, g.B b → ∃ o, g.H0 b = some o
  trT : ∀ b, g.T b → (∃ o, H b = some o) ∧ (∀ i, as i ≠ some b) ∧ g.H0 b = none
  fz : ∀ b o, g.Z b = some o → H b = some o ∧ ¬ g.av as b
section
variable {K : PySem.W.Frag} {g g' : Gh} {e : En} {as as' : Nat → Option Addr} {σ : L2.St} {H H' : Hp} {A A' : Addr → Prop}
theorem Own.mono (p : Kp A A' H H') {a : Addr} {d : D} (h : Own K A H a d) (hk : ∀ vs, H a = some (.lst vs) → H' a = some (.lst vs)) : Own K A' H' a d := by
  obtain ⟨ds, vs, e1, e2, r⟩ := h
  exact ⟨ds, vs, e1, hk vs e2, r.mono p⟩
theorem SlotR.mono (p : Kp A A' H H') {s : Slot} {o : Option Addr} {x : Option V} (hk : ∀ a vs, o = some a → H a = some (.lst vs) → H' a = some (.lst vs)) (h : SlotR K A H s o x) : SlotR K A' H' s o x := by
  cases h with
  | un => exact .un
  | im h => exact .im (h.mono p)
  | ow h => exact .ow (h.mono p fun vs e => hk _ vs rfl e)
  | io h => exact .io (h.mono p fun vs e => hk _ vs rfl e)
  | lk h => exact .lk (h.mono p fun vs e => hk _ vs rfl e)
theorem SlotR.addr {s : Slot} {a : Addr} {x : Option V} (h : SlotR K A H s (some a) x) : ∃ d, Own K A H a d ∧ x = some (.ref a) := by
  cases h with
  | ow h => exact ⟨_, h, rfl⟩
  | io h => exact ⟨_, h, rfl⟩
  | lk h => exact ⟨_, h, rfl⟩
theorem SlotR.ow_inv {d : D} {a : Addr} {x : Option V} (h : SlotR K A H (.ow d) (some a) x) : Own K A H a d := by
  cases h with
  | ow q => exact q
theorem Rel.lt (h : Rel K g e as σ H) {i : Nat} {a : Addr} (q : as i = some a) : i < e.length := by
  apply Nat.lt_of_not_le
  intro z
  rw [h.out i z] at q
  cases q
theorem Rel.at (h : Rel K g e as σ H) {i : Nat} {a : Addr} (q : as i = some a) : ∃ vs, H a = some (.lst vs) := by
  have hl := h.lt q
  have := h.sl i _ (List.getElem?_eq_getElem hl)
  rw [q] at this
  obtain ⟨d, ⟨ds, vs, _, e2, _⟩, _⟩ := this.addr
  exact ⟨vs, e2⟩
theorem Rel.old (h : Rel K g e as σ H) {b : Addr} {o : HO} (q : g.H0 b = some o) : ∃ o', H b = some o' := by
  by_cases z : ∃ p ∈ g.ioa, p.2 = b
  · obtain ⟨p, hp, rfl⟩ := z
    obtain ⟨vs, hv⟩ := h.at (h.iok p hp).1
    exact ⟨_, hv⟩
  · exact ⟨o, h.keep b o q fun p hp e => z ⟨p, hp, e⟩⟩
theorem Rel.tr (h : Rel K g e as σ H) {b : Addr} (q : g.av as b) : ∃ o, H b = some o := by
  rcases q with q | q | ⟨i, q⟩
  · obtain ⟨o, ho⟩ := h.trB b q
    exact h.old ho
  · exact (h.trT b q).1
  · obtain ⟨vs, hv⟩ := h.at q
    exact ⟨_, hv⟩
theorem Rel.new0 (h : Rel K g e as σ H) {p : Addr} (n : H p = none) : g.H0 p = none := by
  cases q : g.H0 p with
  | none => rfl
  | some o =>
    obtain ⟨o', e'⟩ := h.old q
    rw [n] at e'
    cases e'
theorem Rel.newA (h : Rel K g e as σ H) {p : Addr} (n : H p = none) : ¬ g.av as p := fun z => by
  obtain ⟨o, e'⟩ := h.tr z
  rw [n] at e'
  cases e'
/-- the heap grows -/
theorem Rel.grow (h : Rel K g e as σ H) (k : ∀ b o, H b = some o → H' b = some o) : Rel K g e as σ H' :=
  ⟨h.len, fun i s q => (h.sl i s q).mono (Kp.grow k) (fun a vs _ z => k a _ z), h.out, h.inj, h.own, h.iok, fun b o q n => k b o (h.keep b o q n), h.lks, h.trB, fun b q => by
    obtain ⟨⟨o, ho⟩, r⟩ := h.trT b q
    exact ⟨⟨o, k b o ho⟩, r⟩, fun b o q => ⟨k b o (h.fz b o q).1, (h.fz b o q).2⟩⟩
/-- a new list is to wait -/
theorem Rel.plus (h : Rel K g e as σ H) {p : Addr} {o : HO} (n : H p = none) : Rel K (g.plus p) e as σ (upd H p o) := by
  have kk : ∀ b u, H b = some u → upd H p o b = some u := fun b u z => by
    rw [upd_ne (ne_of_none z n)]
    exact z
  refine ⟨h.len, fun i s q => (h.sl i s q).mono ⟨fun b u z _ => kk b u z, fun b u z w => ?_⟩ (fun a vs _ z => kk a _ z), h.out, h.inj, h.own, h.iok, fun b o q n => kk b o (h.keep b o q n), h.lks, h.trB, fun b q => ?_, fun b u q => ⟨kk b u (h.fz b u q).1, fun z => ?_⟩⟩
  · rcases w with w | (w | w) | w
    · exact .inl w
    · exact .inr (.inl w)
    · rw [w, n] at z
      cases z
    · exact .inr (.inr w)
  · rcases q with q | q
    · obtain ⟨⟨o, ho⟩, r⟩ := h.trT b q
      exact ⟨⟨o, kk b o ho⟩, r⟩
    · subst q
      exact ⟨⟨o, upd_same⟩, fun i z => h.newA n (.inr (.inr ⟨i, z⟩)), h.new0 n⟩
  · rcases z with w | (w | w) | w
    · exact (h.fz b u q).2 (.inl w)
    · exact (h.fz b u q).2 (.inr (.inl w))
    · have := (h.fz b u q).1
      rw [w, n] at this
      cases this
    · exact (h.fz b u q).2 (.inr (.inr w))
/-- it needn't wait -/
theorem Rel.minus {p : Addr} (h : Rel K (g.plus p) e as σ H) : Rel K g e as σ H :=
  ⟨h.len, fun i s q => (h.sl i s q).mono ⟨fun _ _ z _ => z, fun b _ _ w => w.elim .inl fun w => .inr (w.elim (fun w => .inl (.inl w)) .inr)⟩ (fun _ _ _ z => z), h.out, h.inj, h.own, h.iok, h.keep, h.lks, h.trB, fun b q => h.trT b (.inl q), fun b o q => ⟨(h.fz b o q).1, fun w => (h.fz b o q).2 (w.elim .inl fun w => .inr (w.elim (fun w => .inl (.inl w)) .inr))⟩⟩

/-! ### one slot put otherwise -/
def setA (as : Nat → Option Addr) (i : Nat) (o : Option Addr) : Nat → Option Addr := fun j => if j = i then o else as j
theorem setA_same {i : Nat} {o : Option Addr} : setA as i o i = o := if_pos rfl
theorem setA_ne {i j : Nat} {o : Option Addr} (h : j ≠ i) : setA as i o j = as j := if_neg h
theorem Slot.lk_or (s : Slot) : (∃ f d, s = .lk f d) ∨ ∀ f d, s ≠ .lk f d := by
  cases s with
  | lk f d => exact .inl ⟨f, d, rfl⟩
  | _ => exact .inr fun _ _ z => by cases z
theorem Rel.notIo (h : Rel K g e as σ H) {i : Nat} {s : Slot} (hs : e[i]? = some s) (n : s.isIo = false) : ∀ p ∈ g.ioa, p.1 ≠ i := fun p hp z => by
  obtain ⟨_, s', e', t⟩ := h.iok p hp
  rw [z, hs] at e'
  cases e'
  rw [n] at t
  cases t
theorem Rel.notLk (h : Rel K g e as σ H) {i : Nat} {s : Slot} (hs : e[i]? = some s) (n : ∀ f d, s ≠ .lk f d) : ∀ p ∈ g.lk, p.1 ≠ i := fun p hp z => by
  obtain ⟨_, f, e'⟩ := h.lks p hp
  rw [z, hs] at e'
  exact n _ _ (Option.some.inj e')
/-- a slot of the body's own is put otherwise: nothing, a datum, a list that waited -/
theorem Rel.put (h : Rel K g' e as σ H) {i : Nat} {s s' : Slot} {o : Option Addr} {x : Option V} (eB : g'.B = g.B) (ei : g'.ioa = g.ioa) (e0 : g'.H0 = g.H0) (el : g'.lk = g.lk)
    (sub : ∀ b, g.T b → g'.T b ∧ o ≠ some b) (ho : ∀ a, o = some a → g'.T a) (hs : e[i]? = some s) (n : s.isIo = false) (nl : ∀ f d, s ≠ .lk f d) (n' : s'.isIo = false)
    (hx : SlotR K (g'.av as) H s' o x) (ez : g'.Z = g.Z := by rfl) : Rel K g (e.set i s') (setA as i o) (σ.set i x) H := by
  have hi : i < e.length := (List.getElem?_eq_some_iff.mp hs).1
  have hiσ : i < σ.length := by rw [h.len]; exact hi
  have av : ∀ b, g.av (setA as i o) b → g'.av as b := fun b z => by
    rcases z with z | z | ⟨j, z⟩
    · exact .inl (by rw [eB]; exact z)
    · exact .inr (.inl (sub b z).1)
    · by_cases hj : j = i
      · subst hj
        rw [setA_same] at z
        exact .inr (.inl (ho b z))
      · rw [setA_ne hj] at z
        exact .inr (.inr ⟨j, z⟩)
  have kp : Kp (g'.av as) (g.av (setA as i o)) H H := ⟨fun _ _ z _ => z, fun b _ _ w => av b w⟩
  refine ⟨by rw [List.length_set, List.length_set]; exact h.len, fun j s2 q => ?_, fun j q => ?_, fun j k a q r => ?_, fun j s2 a q r => ?_, fun p hp => ?_, fun b u q w => ?_, fun p hp => ?_, fun b q => ?_, fun b q => ?_, fun b u q => ⟨(h.fz b u (by rw [ez]; exact q)).1, fun z => (h.fz b u (by rw [ez]; exact q)).2 (av b z)⟩⟩
  · by_cases hj : j = i
    · subst hj
      rw [List.getElem?_set_self hi] at q
      cases q
      rw [setA_same, List.getElem?_set_self hiσ]
      exact hx.mono kp fun _ _ _ z => z
    · rw [List.getElem?_set_ne (Ne.symm hj)] at q
      rw [setA_ne hj, List.getElem?_set_ne (Ne.symm hj)]
      exact (h.sl j s2 q).mono kp fun _ _ _ z => z
  · rw [List.length_set] at q
    rw [setA_ne (by omega)]
    exact h.out j q
  · by_cases hj : j = i
    · by_cases hk : k = i
      · rw [hj, hk]
      · rw [setA_ne hk] at r
        rw [hj, setA_same] at q
        exact absurd r ((h.trT a (ho a q)).2.1 k)
    · by_cases hk : k = i
      · rw [setA_ne hj] at q
        rw [hk, setA_same] at r
        exact absurd q ((h.trT a (ho a r)).2.1 j)
      · rw [setA_ne hj] at q
        rw [setA_ne hk] at r
        exact h.inj j k a q r
  · by_cases hj : j = i
    · subst hj
      rw [List.getElem?_set_self hi] at q
      cases q
      rw [setA_same] at r
      refine .inr ⟨n', ?_⟩
      rw [← e0]
      exact (h.trT a (ho a r)).2.2
    · rw [List.getElem?_set_ne (Ne.symm hj)] at q
      rw [setA_ne hj] at r
      rw [← e0, ← ei]
      exact h.own j s2 a q r
  · rw [← ei] at hp
    have ne := h.notIo hs n p hp
    obtain ⟨h1, s2, h2, h3⟩ := h.iok p hp
    exact ⟨by rw [setA_ne ne]; exact h1, s2, by rw [List.getElem?_set_ne (Ne.symm ne)]; exact h2, h3⟩
  · exact h.keep b u (by rw [e0]; exact q) fun p hp => w p (by rw [← ei]; exact hp)
  · rw [← el] at hp
    have ne := h.notLk hs nl p hp
    obtain ⟨h1, f, h2⟩ := h.lks p hp
    exact ⟨by rw [setA_ne ne]; exact h1, f, by rw [List.getElem?_set_ne (Ne.symm ne)]; exact h2⟩
  · rw [← e0]
    exact h.trB b (by rw [eB]; exact q)
  · obtain ⟨q1, q2⟩ := sub b q
    obtain ⟨r1, r2, r3⟩ := h.trT b q1
    refine ⟨r1, fun j z => ?_, by rw [← e0]; exact r3⟩
    by_cases hj : j = i
    · rw [hj, setA_same] at z
      exact q2 z
    · rw [setA_ne hj] at z
      exact r2 j z
/-- the list in a slot is changed -/
theorem Rel.chg (h : Rel K g e as σ H) {i : Nat} {a : Addr} {s s' : Slot} {vs : List V} {ds : List D} (hs : e[i]? = some s) (ha : as i = some a)
    (hk : (s' = .ow (.list ds) ∧ ∃ d, s = .ow d) ∨ (s' = .io (.list ds) ∧ ∃ d, s = .io d)) (r : RepL K (g.av as) H ds vs) : Rel K g (e.set i s') as σ (upd H a (.lst vs)) := by
  have hi : i < e.length := (List.getElem?_eq_some_iff.mp hs).1
  have av : g.av as a := .inr (.inr ⟨i, ha⟩)
  have kp : Kp (g.av as) (g.av as) H (upd H a (.lst vs)) := ⟨fun b u z n => by
    rw [upd_ne (fun q => n (by rw [q]; exact av))]
    exact z, fun _ _ _ z => z⟩
  have hsl := h.sl i s hs
  rw [ha] at hsl
  have hx : σ[i]?.join = some (.ref a) := hsl.addr.choose_spec.2
  have io' : s'.isIo = s.isIo := by
    rcases hk with ⟨rfl, d, rfl⟩ | ⟨rfl, d, rfl⟩ <;> rfl
  have nlk : ∀ f d, s ≠ .lk f d := fun f d z => by
    rcases hk with ⟨_, d', z'⟩ | ⟨_, d', z'⟩ <;> (rw [z] at z'; cases z')
  refine ⟨by rw [List.length_set]; exact h.len, fun j s2 q => ?_, fun j q => ?_, h.inj, fun j s2 b q w => ?_, fun p hp => ?_, fun b u q w => ?_, fun p hp => ?_, h.trB, fun b q => ?_, fun b u q => ⟨by
    rw [upd_ne (fun z => (h.fz b u q).2 (by rw [z]; exact av))]
    exact (h.fz b u q).1, (h.fz b u q).2⟩⟩
  · by_cases hj : j = i
    · subst hj
      rw [List.getElem?_set_self hi] at q
      cases q
      rw [hx, ha]
      have ow : Own K (g.av as) (upd H a (.lst vs)) a (.list ds) := ⟨ds, vs, rfl, upd_same, r.mono kp⟩
      rcases hk with ⟨rfl, _⟩ | ⟨rfl, _⟩
      · exact .ow ow
      · exact .io ow
    · rw [List.getElem?_set_ne (Ne.symm hj)] at q
      refine (h.sl j s2 q).mono kp fun b us w z => ?_
      rw [upd_ne (fun y => hj (h.inj j i a (by rw [← y]; exact w) ha))]
      exact z
  · rw [List.length_set] at q
    exact h.out j q
  · by_cases hj : j = i
    · subst hj
      rw [List.getElem?_set_self hi] at q
      cases q
      rw [io']
      exact h.own j s b hs w
    · rw [List.getElem?_set_ne (Ne.symm hj)] at q
      exact h.own j s2 b q w
  · obtain ⟨h1, s2, h2, h3⟩ := h.iok p hp
    refine ⟨h1, ?_⟩
    by_cases hj : p.1 = i
    · rw [hj] at h2 ⊢
      rw [hs] at h2
      cases h2
      exact ⟨s', by rw [List.getElem?_set_self hi], by rw [io']; exact h3⟩
    · exact ⟨s2, by rw [List.getElem?_set_ne (Ne.symm hj)]; exact h2, h3⟩
  · rw [upd_ne]
    · exact h.keep b u q w
    · intro z
      rcases h.own i s a hs ha with ⟨_, m⟩ | ⟨_, m⟩
      · exact w _ m z.symm
      · rw [← z, q] at m
        cases m
  · have ne := h.notLk hs nlk p hp
    obtain ⟨h1, f, h2⟩ := h.lks p hp
    exact ⟨h1, f, by rw [List.getElem?_set_ne (Ne.symm ne)]; exact h2⟩
  · obtain ⟨⟨u, r1⟩, r2, r3⟩ := h.trT b q
    exact ⟨⟨u, by rw [upd_ne (fun z => r2 i (by rw [z]; exact ha))]; exact r1⟩, r2, r3⟩
/-- a slot's kind changes: kept for good (its address nobody's), or walked, or no more walked -/
theorem Rel.kind' (h : Rel K g e as σ H) {i : Nat} {s s' : Slot} (hs : e[i]? = some s) (hk : s'.isIo = s.isIo) (nl : ∀ p ∈ g.lk, p.1 ≠ i) (hx : ∀ o x, SlotR K (g.av as) H s o x → SlotR K (g.av as) H s' o x) : Rel K g (e.set i s') as σ H := by
  have hi : i < e.length := (List.getElem?_eq_some_iff.mp hs).1
  refine ⟨by rw [List.length_set]; exact h.len, fun j s2 q => ?_, fun j q => ?_, h.inj, fun j s2 b q w => ?_, fun p hp => ?_, h.keep, fun p hp => ?_, h.trB, h.trT, h.fz⟩
  · by_cases hj : j = i
    · subst hj
      rw [List.getElem?_set_self hi] at q
      cases q
      exact hx _ _ (h.sl j s hs)
    · rw [List.getElem?_set_ne (Ne.symm hj)] at q
      exact h.sl j s2 q
  · rw [List.length_set] at q
    exact h.out j q
  · by_cases hj : j = i
    · subst hj
      rw [List.getElem?_set_self hi] at q
      cases q
      rw [hk]
      exact h.own j s b hs w
    · rw [List.getElem?_set_ne (Ne.symm hj)] at q
      exact h.own j s2 b q w
  · obtain ⟨h1, s2, h2, h3⟩ := h.iok p hp
    refine ⟨h1, ?_⟩
    by_cases hj : p.1 = i
    · rw [hj] at h2 ⊢
      rw [hs] at h2
      cases h2
      exact ⟨s', by rw [List.getElem?_set_self hi], by rw [hk]; exact h3⟩
    · exact ⟨s2, by rw [List.getElem?_set_ne (Ne.symm hj)]; exact h2, h3⟩
  · have ne := nl p hp
    obtain ⟨h1, f, h2⟩ := h.lks p hp
    exact ⟨h1, f, by rw [List.getElem?_set_ne (Ne.symm ne)]; exact h2⟩
theorem Rel.kind (h : Rel K g e as σ H) {i : Nat} {s s' : Slot} (hs : e[i]? = some s) (hk : s'.isIo = s.isIo) (nl : ∀ f d, s ≠ .lk f d) (hx : ∀ o x, SlotR K (g.av as) H s o x → SlotR K (g.av as) H s' o x) : Rel K g (e.set i s') as σ H := h.kind' hs hk (h.notLk hs nl) hx
/-- a list of the body's own becomes a datum -/
theorem Rel.freeze (h : Rel K g e as σ H) {i : Nat} {d : D} (hs : e[i]? = some (.ow d)) : Rel K g (e.set i (.im d)) (setA as i none) σ H ∧ ∃ v, σ[i]? = some (some v) ∧ Rep K (g.av (setA as i none)) H d v := by
  have hi : i < e.length := (List.getElem?_eq_some_iff.mp hs).1
  have hiσ : i < σ.length := by rw [h.len]; exact hi
  have hsl := h.sl i _ hs
  obtain ⟨a, ha⟩ : ∃ a, as i = some a := by
    cases q : as i with
    | some a => exact ⟨a, rfl⟩
    | none => rw [q] at hsl; cases hsl
  rw [ha] at hsl
  obtain ⟨_, _, hx⟩ := hsl.addr
  have hσ : σ[i]? = some (some (.ref a)) := by
    rw [List.getElem?_eq_getElem hiσ] at hx ⊢
    exact congrArg some (by simpa using hx)
  have ow : Own K (g.av as) H a d := hsl.ow_inv
  obtain ⟨ds, vs, rfl, e2, r⟩ := ow
  have hT : ¬ g.T a := fun z => (h.trT a z).2.1 i ha
  have hB : ¬ g.B a := fun z => by
    rcases h.own i _ a hs ha with ⟨m, _⟩ | ⟨_, m⟩
    · cases m
    · obtain ⟨o, ho⟩ := h.trB a z
      rw [m] at ho
      cases ho
  have off : ¬ g.av (setA as i none) a := fun z => by
    rcases z with z | z | ⟨j, z⟩
    · exact hB z
    · exact hT z
    · by_cases hj : j = i
      · rw [hj, setA_same] at z
        cases z
      · rw [setA_ne hj] at z
        exact hj (h.inj j i a z ha)
  have kp : Kp (g.av as) (g.av (setA as i none)) H H := ⟨fun _ _ z _ => z, fun b _ _ w => by
    rcases w with w | w | ⟨j, w⟩
    · exact .inl w
    · exact .inr (.inl w)
    · by_cases hj : j = i
      · rw [hj, setA_same] at w
        cases w
      · rw [setA_ne hj] at w
        exact .inr (.inr ⟨j, w⟩)⟩
  have rp : Rep K (g.av (setA as i none)) H (.list ds) (.ref a) := .lst (.inl ⟨off, .inl e2⟩) (r.mono kp)
  refine ⟨?_, _, hσ, rp⟩
  refine ⟨by rw [List.length_set]; exact h.len, fun j s2 q => ?_, fun j q => ?_, fun j k b q w => ?_, fun j s2 b q w => ?_, fun p hp => ?_, h.keep, fun p hp => ?_, h.trB, fun b q => ?_, fun b o q => ⟨(h.fz b o q).1, fun w => (h.fz b o q).2 ?_⟩⟩
  · by_cases hj : j = i
    · subst hj
      rw [List.getElem?_set_self hi] at q
      cases q
      rw [setA_same, hσ]
      exact .im rp
    · rw [List.getElem?_set_ne (Ne.symm hj)] at q
      rw [setA_ne hj]
      exact (h.sl j s2 q).mono kp fun _ _ _ z => z
  · rw [List.length_set] at q
    rw [setA_ne (by omega)]
    exact h.out j q
  · by_cases hj : j = i
    · rw [hj, setA_same] at q
      cases q
    · by_cases hk : k = i
      · rw [hk, setA_same] at w
        cases w
      · rw [setA_ne hj] at q
        rw [setA_ne hk] at w
        exact h.inj j k b q w
  · by_cases hj : j = i
    · rw [hj, setA_same] at w
      cases w
    · rw [List.getElem?_set_ne (Ne.symm hj)] at q
      rw [setA_ne hj] at w
      exact h.own j s2 b q w
  · have ne := h.notIo hs rfl p hp
    obtain ⟨h1, s2, h2, h3⟩ := h.iok p hp
    exact ⟨by rw [setA_ne ne]; exact h1, s2, by rw [List.getElem?_set_ne (Ne.symm ne)]; exact h2, h3⟩
  · have ne := h.notLk hs (fun _ _ z => by cases z) p hp
    obtain ⟨h1, f, h2⟩ := h.lks p hp
    exact ⟨by rw [setA_ne ne]; exact h1, f, by rw [List.getElem?_set_ne (Ne.symm ne)]; exact h2⟩
  · obtain ⟨r1, r2, r3⟩ := h.trT b q
    refine ⟨r1, fun j z => ?_, r3⟩
    by_cases hj : j = i
    · rw [hj, setA_same] at z
      cases z
    · rw [setA_ne hj] at z
      exact r2 j z
  · rcases w with w | w | ⟨j, w⟩
    · exact .inl w
    · exact .inr (.inl w)
    · by_cases hj : j = i
      · rw [hj, setA_same] at w
        cases w
      · rw [setA_ne hj] at w
        exact .inr (.inr ⟨j, w⟩)
end
end Vm
/-! Vm 3: each operation on values does what its operation on data says -/
namespace Vm
open PySem PySem.Spec PyProof.Rows L2

/-- a value that is looked at: a datum, or a list that is somebody's -/
inductive Bor (K : PySem.W.Frag) (A : Addr → Prop) (H : Hp) : D → V → Prop
  | rep {d v} : Rep K A H d v → Bor K A H d v
  | own {ds a vs} : A a → H a = some (.lst vs) → RepL K A H ds vs → Bor K A H (.list ds) (.ref a)
inductive BorL (K : PySem.W.Frag) (A : Addr → Prop) (H : Hp) : List D → List V → Prop
  | nil : BorL K A H [] []
  | cons {d v ds vs} : Bor K A H d v → BorL K A H ds vs → BorL K A H (d :: ds) (v :: vs)
/-- what an operation hands back: a datum in a grown heap, or a new list -/
def ResV (K : PySem.W.Frag) (A : Addr → Prop) (H : Hp) (r : D × Bool) (v : V) (H' : Hp) : Prop := match r.2 with
  | false => (∀ b o, H b = some o → H' b = some o) ∧ Rep K A H' r.1 v
  | true => ∃ p ds vs, v = .ref p ∧ r.1 = .list ds ∧ H p = none ∧ H' = upd H p (.lst vs) ∧ RepL K A H ds vs
def Trk (A : Addr → Prop) (H : Hp) : Prop := ∀ b, A b → ∃ o, H b = some o
section
variable {K : PySem.W.Frag} {A A' : Addr → Prop} {H H' : Hp}
theorem Bor.dp {d : D} {v : V} (h : Bor K A H d v) : Dp K H v d := by
  cases h with
  | rep r => exact r.dp
  | own _ e r => exact .lst (.of e) r.dp
theorem Bor.int {i : Int} {v : V} (h : Bor K A H (.int i) v) : v = .int i := by
  cases h with
  | rep r => cases r; rfl
theorem Bor.bool {b : Bool} {v : V} (h : Bor K A H (.bool b) v) : v = .bl b := by
  cases h with
  | rep r => cases r; rfl
theorem Bor.str {x : Str} {v : V} (h : Bor K A H (.str x) v) : v = .str x := by
  cases h with
  | rep r => cases r; rfl
theorem Bor.none {v : V} (h : Bor K A H .none v) : v = .non := by
  cases h with
  | rep r => cases r; rfl
theorem Bor.list {ds : List D} {v : V} (h : Bor K A H (.list ds) v) : ∃ a vs, v = .ref a ∧ RdL K H a vs ∧ RepL K A H ds vs := by
  cases h with
  | rep r => cases r with | lst h r => exact ⟨_, _, rfl, h.rd, r⟩
  | own _ e r => exact ⟨_, _, rfl, .inl (.inl e), r⟩
theorem Bor.tuple {ds : List D} {v : V} (h : Bor K A H (.tuple ds) v) : ∃ a vs, v = .ref a ∧ StT K A H a vs ∧ RepL K A H ds vs := by
  cases h with
  | rep r => cases r with | tup h r => exact ⟨_, _, rfl, h, r⟩
theorem BorL.one {d : D} {vs : List V} (h : BorL K A H [d] vs) : ∃ v, vs = [v] ∧ Bor K A H d v := by
  cases h with
  | cons h r => cases r; exact ⟨_, rfl, h⟩
theorem BorL.two {d e : D} {vs : List V} (h : BorL K A H [d, e] vs) : ∃ v u, vs = [v, u] ∧ Bor K A H d v ∧ Bor K A H e u := by
  cases h with
  | cons h r =>
    cases r with
    | cons h' r => cases r; exact ⟨_, _, rfl, h, h'⟩
theorem BorL.three {d e f : D} {vs : List V} (h : BorL K A H [d, e, f] vs) : ∃ v u w, vs = [v, u, w] ∧ Bor K A H d v ∧ Bor K A H e u ∧ Bor K A H f w := by
  cases h with
  | cons h r =>
    cases r with
    | cons h' r =>
      cases r with
      | cons h'' r => cases r; exact ⟨_, _, _, rfl, h, h', h''⟩
theorem BorL.length {ds : List D} {vs : List V} (h : BorL K A H ds vs) : vs.length = ds.length := by
  induction h with
  | nil => rfl
  | cons _ _ ih => exact congrArg Nat.succ ih
theorem trk_off {p : Addr} (t : Trk A H) (n : H p = Option.none) : ¬ A p := fun z => by
  obtain ⟨o, e⟩ := t p z
  rw [n] at e
  cases e
theorem kp_upd {p : Addr} {o : HO} (n : H p = none) (t : Trk A H) : Kp A A H (upd H p o) :=
  Kp.grow fun b u e => by rw [upd_ne (ne_of_none e n)]; exact e
theorem grow_upd {p : Addr} {o : HO} (n : H p = none) : ∀ b u, H b = some u → upd H p o b = some u := fun b u e => by rw [upd_ne (ne_of_none e n)]; exact e
theorem resI {i : Int} : ResV K A H (.int i, false) (.int i) H := ⟨fun _ _ h => h, .int i⟩
theorem resB {b : Bool} : ResV K A H (.bool b, false) (.bl b) H := ⟨fun _ _ h => h, .bl b⟩
theorem resS {x : Str} : ResV K A H (.str x, false) (.str x) H := ⟨fun _ _ h => h, .str x⟩
theorem resR {d : D} {v : V} (h : Rep K A H d v) : ResV K A H (d, false) v H := ⟨fun _ _ h => h, h⟩
theorem resL {p : Addr} {ds : List D} {vs : List V} (n : H p = none) (r : RepL K A H ds vs) : ResV K A H (.list ds, true) (.ref p) (upd H p (.lst vs)) := ⟨p, ds, vs, rfl, rfl, n, rfl, r⟩
theorem resT {p : Addr} {ds : List D} {vs : List V} (t : Trk A H) (n : H p = none) (r : RepL K A H ds vs) : ResV K A H (.tuple ds, false) (.ref p) (upd H p (.tup vs)) :=
  ⟨grow_upd n, .tup (.inl ⟨trk_off t n, .inl upd_same⟩) (r.mono (kp_upd n t))⟩
theorem RepL.ints_of : ∀ {ds : List D} {vs : List V} {ns : List Int}, RepL K A H ds vs → intsOf ds = some ns → vs = ns.map V.int ∧ ds = ns.map PyData.int
  | _, _, _, .nil, e => by
    cases e
    exact ⟨rfl, rfl⟩
  | _, _, ns, .cons (d := d) h r, e => by
    cases h with
    | int i =>
      simp only [intsOf, Option.map_eq_some_iff] at e
      obtain ⟨ms, e1, rfl⟩ := e
      obtain ⟨h1, h2⟩ := RepL.ints_of r e1
      rw [h1, h2]
      exact ⟨rfl, rfl⟩
    | _ => simp [intsOf] at e
theorem RepL.bools_of : ∀ {ds : List D} {vs : List V} {bs : List Bool}, RepL K A H ds vs → boolsOf ds = some bs → vs = bs.map V.bl
  | _, _, _, .nil, e => by
    cases e
    rfl
  | _, _, bs, .cons (d := d) h r, e => by
    cases h with
    | bl b =>
      simp only [boolsOf, Option.map_eq_some_iff] at e
      obtain ⟨ms, e1, rfl⟩ := e
      rw [RepL.bools_of r e1]
      rfl
    | _ => simp [boolsOf] at e
end

/-! ### sorting -/
theorem putOrd_perm (x : Int) : ∀ l, (putOrd x l).Perm (x :: l)
  | [] => .refl _
  | y :: r => by
    unfold putOrd
    split
    · exact .refl _
    · exact ((putOrd_perm x r).cons y).trans (.swap x y r)
theorem sortI_perm : ∀ l, (sortI l).Perm l
  | [] => .refl _
  | x :: r => (putOrd_perm x _).trans ((sortI_perm r).cons x)
theorem putOrd_mem {x z : Int} {l : List Int} (h : z ∈ putOrd x l) : z = x ∨ z ∈ l := by
  have := (putOrd_perm x l).mem_iff.mp h
  simpa using this
theorem putOrd_sorted (x : Int) : ∀ l : List Int, l.Pairwise (· ≤ ·) → (putOrd x l).Pairwise (· ≤ ·)
  | [], _ => by simp [putOrd]
  | y :: r, h => by
    unfold putOrd
    have h1 : ∀ z ∈ r, y ≤ z := fun z hz => List.rel_of_pairwise_cons h hz
    have h2 := List.Pairwise.of_cons h
    split
    · rename_i hxy
      refine List.pairwise_cons.mpr ⟨fun z hz => ?_, h⟩
      rcases List.mem_cons.mp hz with e | hz
      · rw [e]; exact hxy
      · exact Int.le_trans hxy (h1 z hz)
    · rename_i hxy
      refine List.pairwise_cons.mpr ⟨fun z hz => ?_, putOrd_sorted x r h2⟩
      rcases putOrd_mem hz with e | hz
      · rw [e]; omega
      · exact h1 z hz
theorem sortI_sorted : ∀ l, (sortI l).Pairwise (· ≤ ·)
  | [] => .nil
  | x :: r => putOrd_sorted x _ (sortI_sorted r)
theorem sorted_same {l m : List Int} (p : l.Perm m) (h : l.Pairwise (· ≤ ·)) (k : m.Pairwise (· ≤ ·)) : l = m :=
  p.eq_of_pairwise (fun a b _ _ h1 h2 => Int.le_antisymm h1 h2) h k

/-! ### operations on values -/
section
variable {X : Cx}
/-- f, of values, does what F, of data, says -/
def FR (X : Cx) (f : List Value → Sem Value) (F : List D → Option (D × Bool)) : Prop :=
  ∀ (pins : List (Addr × Obj)) (s : Shared) (σ : L2.St) (H : Hp) (vs : List V) (us : List Value) (ds : List D) (r : D × Bool) (A : Addr → Prop) (Q : VK), Inv X pins σ H s → Vals vs us → Trk A H → BorL X.K A H ds vs → F ds = some r → (∀ v H', ResV X.K A H r v H' → Q v H') →
    wpAny (model X.prog X.w) X.A (f us) (EP X pins σ Q) X.xe s
def f2 (f : Value → Value → Sem Value) : List Value → Sem Value
  | [v, u] => f v u
  | _ => pure .none
def f1 (f : Value → Sem Value) : List Value → Sem Value
  | [v] => f v
  | _ => pure .none
/-- of a two-place rule -/
theorem FR.op {f : Value → Value → Sem Value} {r : R2} {F : List D → Option (D × Bool)} (h : OpR X f r) (hl : ∀ ds z, F ds = some z → ∃ d e, ds = [d, e])
    (hr : ∀ A H d e z x y Q, Trk A H → Bor X.K A H d x → Bor X.K A H e y → F [d, e] = some z → (∀ v H', ResV X.K A H z v H' → Q v H') → r x y H Q) : FR X (f2 f) F := by
  intro pins s σ H vs us ds z A Q I rv t b e q
  obtain ⟨d1, d2, rfl⟩ := hl ds z e
  obtain ⟨x, y, rfl, b1, b2⟩ := b.two
  obtain ⟨u, w, rfl, r1, r2⟩ := vals2 rv
  exact h pins s σ H x y u w Q I r1 r2 (hr A H d1 d2 z x y Q t b1 b2 e q)
theorem FR.un {f : Value → Sem Value} {r : V → Hp → VK → Prop} {F : List D → Option (D × Bool)} (h : UnR X f r) (hl : ∀ ds z, F ds = some z → ∃ d, ds = [d])
    (hr : ∀ A H d z x Q, Trk A H → Bor X.K A H d x → F [d] = some z → (∀ v H', ResV X.K A H z v H' → Q v H') → r x H Q) : FR X (f1 f) F := by
  intro pins s σ H vs us ds z A Q I rv t b e q
  obtain ⟨d1, rfl⟩ := hl ds z e
  obtain ⟨x, rfl, b1⟩ := b.one
  obtain ⟨u, rfl, r1⟩ := vals1 rv
  exact h pins s σ H x u Q I r1 (hr A H d1 z x Q t b1 e q)
theorem FR.call {f : Value} {r : List V → Hp → VK → Prop} {F : List D → Option (D × Bool)} (h : CallR X f r)
    (hr : ∀ A H ds z vs Q, Trk A H → BorL X.K A H ds vs → F ds = some z → (∀ v H', ResV X.K A H z v H' → Q v H') → r vs H Q) : FR X (fun us => call f us) F := by
  intro pins s σ H vs us ds z A Q I rv t b e q
  exact h pins s σ H vs us Q I rv (hr A H ds z vs Q t b e q)
theorem FR.or {f : Value → Value → Sem Value} {F G : List D → Option (D × Bool)} {f : List Value → Sem Value} (h : FR X f F) (k : FR X f G) {E : List D → Option (D × Bool)} (he : ∀ ds z, E ds = some z → F ds = some z ∨ G ds = some z) : FR X f E := by
  intro pins s σ H vs us ds z A Q I rv t b e q
  rcases he ds z e with e | e
  · exact h pins s σ H vs us ds z A Q I rv t b e q
  · exact k pins s σ H vs us ds z A Q I rv t b e q

theorem Rd.lstM {pins : List (Addr × Obj)} {s : Shared} {σ : L2.St} {H : Hp} {a : Addr} {xs : List V} (I : Inv X pins σ H s) (h : RdL X.K H a xs) : xs.length ≤ sizeLine ∧ ∃ (its : List Value) (n : Nat), Vals xs its ∧ xs.length = its.length ∧ s.heap.get? a = some { cls := .type "list", data := .seq its.toArray n } := by
  rcases h with h | ⟨its, n, h1, h2, h3⟩
  · obtain ⟨hz, its, n, rv, e⟩ := h.ok I.hok
    exact ⟨hz, its, n, rv, rv.length, e⟩
  · exact ⟨by rw [h3.length]; exact h2, its, n, h3, h3.length, I.kIn a _ h1⟩
/-- xs + ys, whatever may be read as lists -/
def rCatL (K : PySem.W.Frag) : R2 := fun x y H Q => ∃ l b xs zs, x = .ref l ∧ y = .ref b ∧ RdL K H l xs ∧ RdL K H b zs ∧ xs.length + zs.length ≤ sizeLine ∧ ∀ p, H p = none → Q (.ref p) (upd H p (.lst (xs ++ zs)))
theorem op_catL : OpR X (binaryOp .Add) (rCatL X.K) := by
  intro pins s σ H x y v u Q I rx ry h
  obtain ⟨l, b, xs, zs, rfl, rfl, hl, hb, hz, q⟩ := h
  cases rx
  cases ry
  obtain ⟨_, its, n, r, l1, e1⟩ := Rd.lstM I hl
  obtain ⟨_, its2, n2, r2, l2, e2⟩ := Rd.lstM I hb
  have room : its.toArray.size + its2.toArray.size ≤ sizeLine := by
    rw [List.size_toArray, List.size_toArray]
    omega
  refine PySem.P.add_list e1 e2 ?_ (by omega)
  have both : its.toArray ++ its2.toArray = (its ++ its2).toArray := by simp
  rw [both]
  refine ⟨.ref _, _, I.lnew (t' := s.toks) (r.append r2) ?_, rfl, q _ I.fresh⟩
  rw [List.length_append]
  exact hz

theorem fr_add : FR X (f2 (binaryOp .Add)) addD := by
  refine FR.op (op_add.or (op_add_str.or (op_catL.or op_catA))) (fun ds z e => ?_) fun A H d e z x y Q t b1 b2 h q => ?_
  · unfold addD at e
    split at e <;> first | exact ⟨_, _, rfl⟩ | cases e
  · unfold addD at h
    split at h
    · rename_i hd
      cases hd
      cases h
      rw [b1.int, b2.int]
      exact .inl ⟨_, _, rfl, rfl, q _ _ resI⟩
    · rename_i hd
      cases hd
      split at h
      · rename_i hz
        cases h
        rw [b1.str, b2.str]
        exact .inr (.inl ⟨_, _, rfl, rfl, hz, q _ _ resS⟩)
      · cases h
    · rename_i hd
      cases hd
      split at h
      · rename_i hz
        cases h
        obtain ⟨a, vs, rfl, h1, r1⟩ := b1.list
        obtain ⟨b, us, rfl, h2, r2⟩ := b2.list
        exact .inr (.inr (.inl ⟨_, _, _, _, rfl, rfl, h1, h2, by rw [r1.length, r2.length]; exact hz, fun p n => q _ _ (resL n (r1.append r2))⟩))
      · cases h
    · rename_i hd
      cases hd
      split at h
      · rename_i hz
        cases h
        obtain ⟨a, vs, rfl, h1, r1⟩ := b1.tuple
        obtain ⟨b, us, rfl, h2, r2⟩ := b2.tuple
        refine .inr (.inr (.inr ⟨_, _, _, _, rfl, rfl, h1.sq, h2.sq, by rw [r1.length, r2.length]; exact hz, fun e => ?_, fun _ e => ?_, fun _ _ p n => q _ _ (resT t n (r1.append r2))⟩))
        · subst e
          cases r1
          exact q _ _ (resR (.tup h2 r2))
        · subst e
          cases r2
          rw [List.append_nil] at q
          exact q _ _ (resR (.tup h1 r1))
      · cases h
    · cases h
theorem fr_sub : FR X (f2 (binaryOp .Sub)) subD := by
  refine FR.op op_sub (fun ds z e => ?_) fun A H d e z x y Q t b1 b2 h q => ?_
  · unfold subD at e
    split at e <;> first | exact ⟨_, _, rfl⟩ | cases e
  · unfold subD at h
    split at h
    · rename_i hd
      cases hd
      cases h
      rw [b1.int, b2.int]
      exact ⟨_, _, rfl, rfl, q _ _ resI⟩
    · cases h
theorem mulOk_X {i j : Int} (h : mulOk i j = true) : CMulX i j := (@decide_eq_true_iff _ (Classical.propDecidable _)).mp (show @decide ((Builtin.Int.intBits i : Int) + (Builtin.Int.intBits j : Int) ≤ 134217728) (Classical.propDecidable _) = true from h)
theorem fr_mul : FR X (f2 (binaryOp .Mult)) mulD := by
  refine FR.op op_mulX (fun ds z e => ?_) fun A H d e z x y Q t b1 b2 h q => ?_
  · unfold mulD at e
    split at e <;> first | exact ⟨_, _, rfl⟩ | cases e
  · unfold mulD at h
    split at h
    · rename_i hd
      cases hd
      split at h
      · rename_i hz
        cases h
        rw [b1.int, b2.int]
        exact ⟨_, _, rfl, rfl, mulOk_X hz, q _ _ resI⟩
      · cases h
    · cases h
theorem op_fdivP : OpR X (binaryOp .FloorDiv) (rI CDivP fun i j => .int (i / j)) := opI fun i j _ _ _ _ _ hc q => by
  have h1 : (0 : Int) < j := hc.1
  refine floordiv_int (by omega) ?_ (.inl hc.2)
  rw [Int.fdiv_eq_ediv_of_nonneg i (Int.le_of_lt h1)]
  exact q
theorem divOk_P {i j : Int} (h : divOk i j = true) : CDivP i j := by
  unfold divOk at h
  simp only [Bool.and_eq_true, decide_eq_true_eq, Bool.not_eq_true'] at h
  exact h
theorem fr_fdiv : FR X (f2 (binaryOp .FloorDiv)) fdivD := by
  refine FR.op op_fdivP (fun ds z e => ?_) fun A H d e z x y Q t b1 b2 h q => ?_
  · unfold fdivD at e
    split at e <;> first | exact ⟨_, _, rfl⟩ | cases e
  · unfold fdivD at h
    split at h
    · rename_i hd
      cases hd
      split at h
      · rename_i hz
        cases h
        rw [b1.int, b2.int]
        exact ⟨_, _, rfl, rfl, divOk_P hz, q _ _ resI⟩
      · cases h
    · cases h
theorem fr_mod : FR X (f2 (binaryOp .Mod)) modD := by
  refine FR.op op_mod (fun ds z e => ?_) fun A H d e z x y Q t b1 b2 h q => ?_
  · unfold modD at e
    split at e <;> first | exact ⟨_, _, rfl⟩ | cases e
  · unfold modD at h
    split at h
    · rename_i hd
      cases hd
      split at h
      · rename_i hz
        cases h
        rw [b1.int, b2.int]
        exact ⟨_, _, rfl, rfl, hz, q _ _ resI⟩
      · cases h
    · cases h
theorem fr_pow : FR X (f2 (binaryOp .Pow)) powD := by
  refine FR.op op_pow (fun ds z e => ?_) fun A H d e z x y Q t b1 b2 h q => ?_
  · unfold powD at e
    split at e <;> first | exact ⟨_, _, rfl⟩ | cases e
  · unfold powD at h
    split at h
    · rename_i hd
      cases hd
      split at h
      · rename_i hz
        cases h
        rw [b1.int, b2.int]
        unfold powOk at hz
        simp only [Bool.and_eq_true, decide_eq_true_eq] at hz
        exact ⟨_, _, rfl, rfl, ⟨hz.1.1, hz.1.2, hz.2⟩, q _ _ resI⟩
      · cases h
    · cases h
theorem fr_neg : FR X (f1 (unaryOp .USub)) negD := by
  refine FR.un un_neg (fun ds z e => ?_) fun A H d z x Q t b1 h q => ?_
  · unfold negD at e
    split at e <;> first | exact ⟨_, rfl⟩ | cases e
  · unfold negD at h
    split at h
    · rename_i hd
      cases hd
      cases h
      rw [b1.int]
      exact ⟨_, rfl, q _ _ resI⟩
    · cases h

/-! comparisons -/
def boolR (o : Option Bool) : Option (D × Bool) := o.map fun b => (.bool b, false)
theorem boolR_some {o : Option Bool} {z : D × Bool} (h : boolR o = some z) : ∃ b, o = some b ∧ z = (.bool b, false) := by
  unfold boolR at h
  cases o with
  | none => cases h
  | some b => exact ⟨b, rfl, (Option.some.inj h).symm⟩
theorem ordD_two {f : Int → Int → Bool} {ds : List D} {b : Bool} (h : ordD f ds = some b) : ∃ i j, ds = [.int i, .int j] ∧ b = f i j := by
  unfold ordD at h
  split at h
  · exact ⟨_, _, rfl, (Option.some.inj h).symm⟩
  · cases h
theorem fr_ord {f : Int → Int → Bool} {g : Value → Value → Sem Value} (h : OpR X g (rI0 fun i j => .bl (f i j))) : FR X (f2 g) fun ds => boolR (ordD f ds) := by
  refine FR.op h (fun ds z e => ?_) fun A H d e z x y Q t b1 b2 h q => ?_
  · obtain ⟨b, e, _⟩ := boolR_some e
    obtain ⟨i, j, rfl, _⟩ := ordD_two e
    exact ⟨_, _, rfl⟩
  · obtain ⟨b, e, rfl⟩ := boolR_some h
    obtain ⟨i, j, hd, rfl⟩ := ordD_two e
    cases hd
    rw [b1.int, b2.int]
    exact ⟨_, _, rfl, rfl, q _ _ resB⟩
def EqS (d e : D) (b : Bool) : Prop := (∃ x y, d = .str x ∧ e = .str y ∧ b = decide (x = y)) ∨ (SeqAt.shaped d = true ∧ SeqAt.shaped e = true ∧ b = PyData.eqv d e)
theorem eqD_some {d e : D} {b : Bool} (h : eqD d e = some b) : EqS d e b := by
  unfold eqD at h
  split at h
  · exact .inl ⟨_, _, rfl, rfl, (Option.some.inj h).symm⟩
  · split at h
    · rename_i hs
      obtain ⟨h1, h2⟩ := Bool.and_eq_true_iff.mp hs
      exact .inr ⟨h1, h2, (Option.some.inj h).symm⟩
    · cases h
theorem eqL_some {ds : List D} {b : Bool} (h : eqL ds = some b) : ∃ d e, ds = [d, e] ∧ EqS d e b := by
  unfold eqL at h
  split at h
  · exact ⟨_, _, rfl, eqD_some h⟩
  · cases h
theorem dec_strV {x y : Str} : decide (V.str x = V.str y) = decide (x = y) := by
  by_cases h : x = y
  · subst h; simp
  · rw [decide_eq_false h, decide_eq_false fun q => h (V.str.inj q)]
theorem mapnot {o : Option Bool} {b : Bool} (h : o.map not = some b) : ∃ c, o = some c ∧ b = !c := by
  obtain ⟨c, h1, h2⟩ := Option.map_eq_some_iff.mp h
  exact ⟨c, h1, h2.symm⟩
theorem fr_eq (hu : X.A.units + 64 < cLine) : FR X (f2 (compareOp .Eq)) fun ds => boolR (eqL ds) := by
  refine FR.op ((op_eqD hu).or op_eq) (fun ds z e => ?_) fun A H d e z x y Q t b1 b2 h q => ?_
  · obtain ⟨b, e3, _⟩ := boolR_some e
    obtain ⟨d, e, rfl, _⟩ := eqL_some e3
    exact ⟨_, _, rfl⟩
  · obtain ⟨b, e3, rfl⟩ := boolR_some h
    obtain ⟨d, e, hd, s⟩ := eqL_some e3
    cases hd
    rcases s with ⟨x, y, rfl, rfl, rfl⟩ | ⟨s1, s2, rfl⟩
    · rw [b1.str, b2.str]
      exact .inr ⟨rfl, by rw [dec_strV]; exact q _ _ resB⟩
    · exact .inl ⟨_, _, b1.dp, b2.dp, s1, s2, q _ _ resB⟩
theorem fr_ne (hu : X.A.units + 64 < cLine) : FR X (f2 (compareOp .NotEq)) fun ds => boolR ((eqL ds).map not) := by
  refine FR.op ((op_neD hu).or op_ne) (fun ds z e => ?_) fun A H d e z x y Q t b1 b2 h q => ?_
  · obtain ⟨b, e3, _⟩ := boolR_some e
    obtain ⟨c, e4, _⟩ := mapnot e3
    obtain ⟨d, e, rfl, _⟩ := eqL_some e4
    exact ⟨_, _, rfl⟩
  · obtain ⟨b, e3, rfl⟩ := boolR_some h
    obtain ⟨c, e4, rfl⟩ := mapnot e3
    obtain ⟨d, e, hd, s⟩ := eqL_some e4
    cases hd
    rcases s with ⟨x, y, rfl, rfl, rfl⟩ | ⟨s1, s2, rfl⟩
    · rw [b1.str, b2.str]
      exact .inr ⟨rfl, by rw [dec_strV]; exact q _ _ resB⟩
    · exact .inl ⟨_, _, b1.dp, b2.dp, s1, s2, q _ _ resB⟩
/-! in, not in -/
theorem inL_some {ds : List D} {b : Bool} (h : inL ds = some b) : (∃ x ys, ds = [x, .list ys] ∧ SeqAt.shaped x = true ∧ SeqAt.shaped (.list ys) = true ∧ b = ys.any fun y => PyData.eqv y x) ∨
    (∃ x ys, ds = [x, .tuple ys] ∧ flatD x = true ∧ ys.all flatD = true ∧ b = ys.any fun y => PyData.eqv y x) := by
  unfold inL at h
  split at h
  · unfold inD at h
    split at h
    · rename_i hs
      obtain ⟨h1, h2⟩ := Bool.and_eq_true_iff.mp hs
      exact .inl ⟨_, _, rfl, h1, h2, (Option.some.inj h).symm⟩
    · cases h
  · unfold inT at h
    split at h
    · rename_i hs
      obtain ⟨h1, h2⟩ := Bool.and_eq_true_iff.mp hs
      exact .inr ⟨_, _, rfl, h1, h2, (Option.some.inj h).symm⟩
    · cases h
  · cases h
theorem flat_rep {K A H} {d : D} {v : V} (h : Rep K A H d v) (f : flatD d = true) : flatV v = true := by
  cases h <;> first | rfl | cases f
theorem eqV_rep {K A H} {d e : D} {v u : V} (h : Rep K A H d v) (h' : Rep K A H e u) (f : flatD d = true) (f' : flatD e = true) : eqV v u = PyData.eqv d e := by
  cases h <;> first | (cases f; done) | skip
  all_goals (cases h' <;> first | (cases f'; done) | rfl | (simp [eqV, PyData.eqv]))
theorem inV_rep {K A H} {d : D} {v : V} (h : Rep K A H d v) (f : flatD d = true) : ∀ {ds : List D} {vs : List V}, RepL K A H ds vs → ds.all flatD = true → vs.all flatV = true ∧ inV v vs = ds.any fun y => PyData.eqv y d
  | _, _, .nil, _ => ⟨rfl, rfl⟩
  | _, _, .cons h' r, q => by
    obtain ⟨q1, q2⟩ := Bool.and_eq_true_iff.mp (show (flatD _ && List.all _ flatD) = true from q)
    obtain ⟨i1, i2⟩ := inV_rep h f r q2
    refine ⟨Bool.and_eq_true_iff.mpr ⟨flat_rep h' q1, i1⟩, ?_⟩
    show (eqV _ v || inV v _) = (PyData.eqv _ d || List.any _ _)
    rw [i2, eqV_rep h' h q1 f]
theorem Bor.flat {K A H} {d : D} {v : V} (h : Bor K A H d v) (f : flatD d = true) : Rep K A H d v := by
  cases h with
  | rep r => exact r
  | own _ _ _ => cases f
theorem fr_in (hu : X.A.units + 65 < cLine) : FR X (f2 (compareOp .In)) fun ds => boolR (inL ds) := by
  refine FR.op ((op_inD hu).or op_in_seq) (fun ds z e => ?_) fun A H d e z x y Q t b1 b2 h q => ?_
  · obtain ⟨b, e3, _⟩ := boolR_some e
    rcases inL_some e3 with ⟨_, _, rfl, _⟩ | ⟨_, _, rfl, _⟩ <;> exact ⟨_, _, rfl⟩
  · obtain ⟨b, e3, rfl⟩ := boolR_some h
    rcases inL_some e3 with ⟨_, _, hd, s1, s2, rfl⟩ | ⟨_, _, hd, s1, s2, rfl⟩
    · cases hd
      exact .inl ⟨_, _, b1.dp, b2.dp, s1, s2, q _ _ resB⟩
    · cases hd
      obtain ⟨a, vs, rfl, h1, r1⟩ := b2.tuple
      obtain ⟨i1, i2⟩ := inV_rep (b1.flat s1) s1 r1 s2
      refine .inr ⟨_, _, rfl, .inr h1.sq, flat_rep (b1.flat s1) s1, i1, ?_⟩
      rw [if_neg Bool.false_ne_true, i2]
      exact q _ _ resB
theorem fr_notin (hu : X.A.units + 65 < cLine) : FR X (f2 (compareOp .NotIn)) fun ds => boolR ((inL ds).map not) := by
  refine FR.op ((op_notInD hu).or op_notIn_seq) (fun ds z e => ?_) fun A H d e z x y Q t b1 b2 h q => ?_
  · obtain ⟨b, e3, _⟩ := boolR_some e
    obtain ⟨c, e4, _⟩ := mapnot e3
    rcases inL_some e4 with ⟨_, _, rfl, _⟩ | ⟨_, _, rfl, _⟩ <;> exact ⟨_, _, rfl⟩
  · obtain ⟨b, e3, rfl⟩ := boolR_some h
    obtain ⟨c, e4, rfl⟩ := mapnot e3
    rcases inL_some e4 with ⟨_, _, hd, s1, s2, rfl⟩ | ⟨_, _, hd, s1, s2, rfl⟩
    · cases hd
      exact .inl ⟨_, _, b1.dp, b2.dp, s1, s2, q _ _ resB⟩
    · cases hd
      obtain ⟨a, vs, rfl, h1, r1⟩ := b2.tuple
      obtain ⟨i1, i2⟩ := inV_rep (b1.flat s1) s1 r1 s2
      refine .inr ⟨_, _, rfl, .inr h1.sq, flat_rep (b1.flat s1) s1, i1, ?_⟩
      rw [if_pos rfl, i2]
      exact q _ _ resB
/-! is -/
theorem Bor.isNo {K A H} {d : D} {v : V} (h : Bor K A H d v) : decide (v = V.non) = isNoD d := by
  cases h with
  | rep r => cases r <;> rfl
  | own _ _ _ => rfl
theorem noneL_some {ds : List D} {b : Bool} (h : noneL ds = some b) : ∃ d, ds = [d] ∧ b = isNoD d := by
  unfold noneL at h
  split at h
  · exact ⟨_, rfl, (Option.some.inj h).symm⟩
  · cases h
theorem isBL_some {c : Bool} {ds : List D} {b : Bool} (h : isBL c ds = some b) : ∃ e, ds = [.bool e] ∧ b = decide (e = c) := by
  unfold isBL at h
  split at h
  · exact ⟨_, rfl, (Option.some.inj h).symm⟩
  · cases h
theorem fr_isNone : FR X (f1 fun v => compareOp .Is v .none) fun ds => boolR (noneL ds) := by
  intro pins s σ H vs us ds z A Q I rv t b e q
  obtain ⟨c, e3, rfl⟩ := boolR_some e
  obtain ⟨d, rfl, rfl⟩ := noneL_some e3
  obtain ⟨x, rfl, b1⟩ := b.one
  obtain ⟨u, rfl, r1⟩ := vals1 rv
  refine op_isN pins s σ H x .non u .none Q I r1 rfl ⟨rfl, ?_⟩
  rw [b1.isNo]
  exact q _ _ resB
theorem fr_notNone : FR X (f1 fun v => compareOp .IsNot v .none) fun ds => boolR ((noneL ds).map not) := by
  intro pins s σ H vs us ds z A Q I rv t b e q
  obtain ⟨c, e3, rfl⟩ := boolR_some e
  obtain ⟨c, e4, rfl⟩ := mapnot e3
  obtain ⟨d, rfl, rfl⟩ := noneL_some e4
  obtain ⟨x, rfl, b1⟩ := b.one
  obtain ⟨u, rfl, r1⟩ := vals1 rv
  refine op_notN pins s σ H x .non u .none Q I r1 rfl ⟨rfl, ?_⟩
  rw [b1.isNo]
  exact q _ _ resB
theorem fr_isBool (c : Bool) : FR X (f1 fun v => compareOp .Is v (.bool c)) fun ds => boolR (isBL c ds) := by
  intro pins s σ H vs us ds z A Q I rv t b e q
  obtain ⟨_, e3, rfl⟩ := boolR_some e
  obtain ⟨d, rfl, rfl⟩ := isBL_some e3
  obtain ⟨x, rfl, b1⟩ := b.one
  obtain ⟨u, rfl, r1⟩ := vals1 rv
  exact op_isBl pins s σ H x (.bl c) u (.bool c) Q I r1 rfl ⟨d, c, b1.bool, rfl, q _ _ resB⟩
theorem fr_notBool (c : Bool) : FR X (f1 fun v => compareOp .IsNot v (.bool c)) fun ds => boolR ((isBL c ds).map not) := by
  intro pins s σ H vs us ds z A Q I rv t b e q
  obtain ⟨_, e3, rfl⟩ := boolR_some e
  obtain ⟨_, e4, rfl⟩ := mapnot e3
  obtain ⟨d, rfl, rfl⟩ := isBL_some e4
  obtain ⟨x, rfl, b1⟩ := b.one
  obtain ⟨u, rfl, r1⟩ := vals1 rv
  exact op_notBl pins s σ H x (.bl c) u (.bool c) Q I r1 rfl ⟨d, c, b1.bool, rfl, q _ _ resB⟩
/-! subscripts -/
theorem atI_rep {K A H} {ds : List D} {vs : List V} {i : Int} {d : D} (r : RepL K A H ds vs) (h : atI ds i = some d) : ∃ v, atI vs i = some v ∧ Rep K A H d v := by
  unfold atI at h ⊢
  obtain ⟨j, h1, h2⟩ := Option.bind_eq_some_iff.mp h
  obtain ⟨v, h3, h4⟩ := r.get h2
  exact ⟨v, by rw [r.length, h1]; exact h3, h4⟩
theorem fr_item {H : Hp} {x y : V} {Q : VK} {d e : D} {r : D × Bool} {A : Addr → Prop} (t : Trk A H) (b1 : Bor X.K A H d x) (b2 : Bor X.K A H e y) (h : itemD [d, e] = some r) (q : ∀ v H', ResV X.K A H r v H' → Q v H') : rIx X.K x y H Q := by
  unfold itemD at h
  split at h
  · rename_i hd
    cases hd
    obtain ⟨d1, h1, rfl⟩ := Option.map_eq_some_iff.mp h
    obtain ⟨a, vs, rfl, hl, r1⟩ := b1.list
    obtain ⟨v, h2, h3⟩ := atI_rep r1 h1
    rw [b2.int]
    exact .inl ⟨_, _, _, _, rfl, rfl, hl.sq, h2, q _ _ (resR h3)⟩
  · rename_i hd
    cases hd
    obtain ⟨d1, h1, rfl⟩ := Option.map_eq_some_iff.mp h
    obtain ⟨a, vs, rfl, hl, r1⟩ := b1.tuple
    obtain ⟨v, h2, h3⟩ := atI_rep r1 h1
    rw [b2.int]
    exact .inr (.inl ⟨_, _, _, _, rfl, rfl, hl.sq, h2, q _ _ (resR h3)⟩)
  · rename_i hd
    cases hd
    split at h
    · rename_i hz
      obtain ⟨c, h1, rfl⟩ := Option.map_eq_some_iff.mp h
      rw [b1.str, b2.int]
      exact .inr (.inr ⟨_, _, _, rfl, rfl, hz, h1, q _ _ resS⟩)
    · cases h
  · cases h
theorem cutV_rep {K A H} {ds : List D} {vs : List V} (r : RepL K A H ds vs) (lo hi : Option Int) : RepL K A H (cutD ds lo hi) (cutV vs lo hi) := by
  unfold cutD cutV
  rw [r.length]
  exact (r.drop _).take _
theorem cut_whole {α : Type} {xs : List α} {lo hi : Option Int} (h : HT.sIx xs.length 0 lo = 0 ∧ HT.sIx xs.length xs.length hi = xs.length) : (xs.drop (HT.sIx xs.length 0 lo)).take (HT.sIx xs.length xs.length hi - HT.sIx xs.length 0 lo) = xs := by
  rw [h.1, h.2, List.drop_zero, Nat.sub_zero, List.take_length]
/-- a slice -/
theorem fr_slc {H : Hp} {x : V} {Q : VK} {d : D} {lo hi : Option Int} {r : D × Bool} {A : Addr → Prop} (t : Trk A H) (b1 : Bor X.K A H d x) (h : slcD d lo hi = some r) (q : ∀ v H', ResV X.K A H r v H' → Q v H') : (rSlL X.K x lo hi H Q ∨ rSlA X.K x lo hi H Q) ∨ rSlS x lo hi H Q := by
  unfold slcD at h
  split at h
  · cases h
    obtain ⟨a, vs, rfl, hl, r1⟩ := b1.list
    exact .inl (.inl ⟨_, _, rfl, hl.sq, fun p n => q _ _ (resL n (cutV_rep r1 lo hi))⟩)
  · cases h
    obtain ⟨a, vs, rfl, hl, r1⟩ := b1.tuple
    refine .inl (.inr ⟨_, _, rfl, hl.sq, fun w => q _ _ (resR ?_), fun _ p n => q _ _ (resT t n (cutV_rep r1 lo hi))⟩)
    have e : cutD _ lo hi = _ := cut_whole (by rw [r1.length] at w; exact w)
    rw [e]
    exact .tup hl r1
  · split at h
    · rename_i hz
      cases h
      exact .inr ⟨_, b1.str, hz, q _ _ resS⟩
    · cases h
  · cases h

/-! built-in functions -/
theorem fr_len : FR X (fun us => PySem.call (.builtin "len") us) lensD := by
  refine FR.call call_len fun A H ds z vs Q t b h q => ?_
  unfold lensD at h
  split at h
  · obtain ⟨n, h1, rfl⟩ := Option.map_eq_some_iff.mp h
    obtain ⟨x, rfl, b1⟩ := b.one
    refine ⟨x, (n : Nat), rfl, ?_, q _ _ resI⟩
    unfold lenD at h1
    split at h1
    · cases h1
      obtain ⟨a, vs, rfl, hl, r1⟩ := b1.list
      exact .inl ⟨vs, hl.sq, r1.length.symm⟩
    · cases h1
      obtain ⟨a, vs, rfl, hl, r1⟩ := b1.tuple
      exact .inr ⟨vs, hl.sq, r1.length.symm⟩
    · split at h1
      · rename_i hz
        cases h1
        rw [b1.str]
        exact ⟨hz, rfl⟩
      · cases h1
    · cases h1
  · cases h
theorem fr_abs : FR X (fun us => PySem.call (.builtin "abs") us) absD := by
  refine FR.call call_abs fun A H ds z vs Q t b h q => ?_
  unfold absD at h
  split at h
  · cases h
    obtain ⟨x, rfl, b1⟩ := b.one
    rw [b1.int]
    exact ⟨_, rfl, q _ _ resI⟩
  · cases h
theorem fr_max (hc : X.calm = true) : FR X (fun us => PySem.call (.builtin "max") us) maxD := by
  refine FR.call (call_max2 hc) fun A H ds z vs Q t b h q => ?_
  unfold maxD at h
  split at h
  · cases h
    obtain ⟨x, y, rfl, b1, b2⟩ := b.two
    rw [b1.int, b2.int]
    exact ⟨_, _, rfl, q _ _ resI⟩
  · cases h
theorem fr_min (hc : X.calm = true) : FR X (fun us => PySem.call (.builtin "min") us) minD := by
  refine FR.call (call_min2 hc) fun A H ds z vs Q t b h q => ?_
  unfold minD at h
  split at h
  · cases h
    obtain ⟨x, y, rfl, b1, b2⟩ := b.two
    rw [b1.int, b2.int]
    exact ⟨_, _, rfl, q _ _ resI⟩
  · cases h
theorem fr_toInt : FR X (fun us => PySem.call (.type "int") us) toIntD := by
  refine FR.call call_int1 fun A H ds z vs Q t b h q => ?_
  unfold toIntD at h
  split at h
  · cases h
    obtain ⟨x, rfl, b1⟩ := b.one
    rw [b1.int]
    exact .inl ⟨_, rfl, q _ _ resI⟩
  · cases h
    obtain ⟨x, rfl, b1⟩ := b.one
    rw [b1.bool]
    exact .inr ⟨_, rfl, q _ _ resI⟩
  · cases h
theorem itemsOf_some {d : D} {xs : List D} (h : itemsOf d = some xs) : d = .list xs ∨ d = .tuple xs := by
  unfold itemsOf at h
  split at h
  · cases h; exact .inl rfl
  · cases h; exact .inr rfl
  · cases h
theorem fr_toList : FR X (fun us => PySem.call (.type "list") us) toListD := by
  refine FR.call call_list_of fun A H ds z vs Q t b h q => ?_
  unfold toListD at h
  split at h
  · obtain ⟨xs, h1, rfl⟩ := Option.map_eq_some_iff.mp h
    obtain ⟨x, rfl, b1⟩ := b.one
    rcases itemsOf_some h1 with rfl | rfl
    · obtain ⟨a, vs, rfl, hl, r1⟩ := b1.list
      exact ⟨_, _, rfl, .inl (hl.sq), fun p n => q _ _ (resL n r1)⟩
    · obtain ⟨a, vs, rfl, hl, r1⟩ := b1.tuple
      exact ⟨_, _, rfl, .inr hl.sq, fun p n => q _ _ (resL n r1)⟩
  · cases h
theorem fr_toTuple : FR X (fun us => PySem.call (.type "tuple") us) toTupleD := by
  refine FR.call call_tuple_of fun A H ds z vs Q t b h q => ?_
  unfold toTupleD at h
  split at h
  · obtain ⟨xs, h1, rfl⟩ := Option.map_eq_some_iff.mp h
    obtain ⟨x, rfl, b1⟩ := b.one
    rcases itemsOf_some h1 with rfl | rfl
    · obtain ⟨a, vs, rfl, hl, r1⟩ := b1.list
      exact ⟨_, _, rfl, .inl ⟨hl.sq, fun p n => q _ _ (resT t n r1)⟩⟩
    · obtain ⟨a, vs, rfl, hl, r1⟩ := b1.tuple
      exact ⟨_, _, rfl, .inr ⟨hl.sq, q _ _ (resR (.tup hl r1))⟩⟩
  · cases h
theorem fr_sum (hc : X.calm = true) : FR X (fun us => PySem.call (.builtin "sum") us) sumD := by
  refine FR.call (cr_sum hc) fun A H ds z vs Q t b h q => ?_
  unfold sumD at h
  split at h
  · obtain ⟨ns, h1, rfl⟩ := Option.map_eq_some_iff.mp h
    obtain ⟨x, rfl, b1⟩ := b.one
    obtain ⟨a, vs, rfl, hl, r1⟩ := b1.list
    obtain ⟨rfl, _⟩ := r1.ints_of h1
    exact ⟨_, _, rfl, hl.sq, q _ _ resI⟩
  · cases h
theorem fr_sorted : FR X (fun us => PySem.call (.builtin "sorted") us) sortedD := by
  refine FR.call cr_sortedI fun A H ds z vs Q t b h q => ?_
  unfold sortedD at h
  split at h
  · obtain ⟨ns, h1, rfl⟩ := Option.map_eq_some_iff.mp h
    obtain ⟨x, rfl, b1⟩ := b.one
    obtain ⟨a, vs, rfl, hl, r1⟩ := b1.list
    obtain ⟨rfl, _⟩ := r1.ints_of h1
    refine ⟨_, _, rfl, hl.sq, fun ns' p hp hs n => q _ _ ?_⟩
    rw [sorted_same (hp.trans (sortI_perm ns).symm) hs (sortI_sorted ns)]
    exact resL n RepL.ints
  · cases h
theorem fr_all (hc : X.calm = true) : FR X (fun us => PySem.call (.builtin "all") us) allD := by
  refine FR.call (cr_all hc) fun A H ds z vs Q t b h q => ?_
  unfold allD at h
  split at h
  · obtain ⟨bs, h1, rfl⟩ := Option.map_eq_some_iff.mp h
    obtain ⟨x, rfl, b1⟩ := b.one
    obtain ⟨a, vs, rfl, hl, r1⟩ := b1.list
    have e := r1.bools_of h1
    subst e
    exact ⟨_, _, rfl, hl.sq, q _ _ resB⟩
  · cases h
theorem fr_any (hc : X.calm = true) : FR X (fun us => PySem.call (.builtin "any") us) anyD := by
  refine FR.call (cr_any hc) fun A H ds z vs Q t b h q => ?_
  unfold anyD at h
  split at h
  · obtain ⟨bs, h1, rfl⟩ := Option.map_eq_some_iff.mp h
    obtain ⟨x, rfl, b1⟩ := b.one
    obtain ⟨a, vs, rfl, hl, r1⟩ := b1.list
    have e := r1.bools_of h1
    subst e
    exact ⟨_, _, rfl, hl.sq, q _ _ resB⟩
  · cases h
theorem fr_divmod : FR X (fun us => PySem.call (.builtin "divmod") us) divmodD := by
  refine FR.call call_divmodW fun A H ds z vs Q t b h q => ?_
  unfold divmodD at h
  split at h
  · split at h
    · rename_i hz
      cases h
      obtain ⟨x, y, rfl, b1, b2⟩ := b.two
      rw [b1.int, b2.int]
      exact ⟨_, _, rfl, divOk_P hz, fun p n => q _ _ (resT t n (.cons (.int _) (.cons (.int _) .nil)))⟩
    · cases h
  · cases h
/-- isinstance(x, T) -/
def tyN : Ty → String
  | .int => "int" | .bool => "bool" | .str => "str" | .tuple => "tuple" | .list => "list"
theorem kit_list : ∀ T, kitB "list" (tyN T) = some (isTy T (.list [])) := by intro T; cases T <;> decide +kernel
theorem kit_tuple : ∀ T, kitB "tuple" (tyN T) = some (isTy T (.tuple [])) := by intro T; cases T <;> decide +kernel
theorem kit_bool : ∀ T, kitB "bool" (tyN T) = some (isTy T (.bool true)) := by intro T; cases T <;> decide +kernel
theorem kit_int : ∀ T, kitB "int" (tyN T) = some (isTy T (.int 0)) := by intro T; cases T <;> decide +kernel
theorem kit_str : ∀ T, kitB "str" (tyN T) = some (isTy T (.str ⟨#[]⟩)) := by intro T; cases T <;> decide +kernel
theorem kit_none : ∀ T, kitB "NoneType" (tyN T) = some (isTy T .none) := by intro T; cases T <;> decide +kernel
theorem Bor.ty {K A H} {d : D} {v : V} (h : Bor K A H d v) : ∃ t, TyX K H v (.type t) ∧ ∀ T : Ty, kitB t (tyN T) = some (isTy T d) := by
  cases h with
  | own _ e r => exact ⟨"list", .base (.lst e), fun T => (kit_list T).trans (by cases T <;> rfl)⟩
  | rep r =>
    cases r with
    | non => exact ⟨"NoneType", .base .non, fun T => kit_none T⟩
    | bl b => exact ⟨"bool", .base (.bl b), fun T => (kit_bool T).trans (by cases T <;> rfl)⟩
    | int i => exact ⟨"int", .base (.int i), fun T => (kit_int T).trans (by cases T <;> rfl)⟩
    | str x => exact ⟨"str", .base (.str x), fun T => (kit_str T).trans (by cases T <;> rfl)⟩
    | lst h r =>
      refine ⟨"list", ?_, fun T => (kit_list T).trans (by cases T <;> rfl)⟩
      rcases h with ⟨_, e | ⟨o, e⟩⟩ | ⟨its, n, e, _⟩
      · exact .base (.lst e)
      · exact .base (.frz e)
      · exact .kList e rfl
    | tup h r =>
      refine ⟨"tuple", ?_, fun T => (kit_tuple T).trans (by cases T <;> rfl)⟩
      rcases h with ⟨_, e | ⟨o, e⟩⟩ | ⟨o, its, n, e, c, _⟩
      · exact .base (.tup e)
      · exact .fTuple e
      · exact .kTuple e c
theorem fr_isi (T : Ty) : FR X (fun us => PySem.call (.builtin "isinstance") (us ++ [.type (tyN T)])) (isiD T) := by
  intro pins s σ H vs us ds z A Q I rv t b e q
  unfold isiD at e
  split at e
  · cases e
    obtain ⟨x, rfl, b1⟩ := b.one
    obtain ⟨u, rfl, r1⟩ := vals1 rv
    obtain ⟨t, h1, h2⟩ := b1.ty
    exact call_isi pins s σ H [x, .ty (tyN T)] [u, .type (tyN T)] Q I (.cons r1 (.cons rfl .nil)) ⟨x, .ty (tyN T), _, _, _, rfl, .ty _, h1, kit_ty (h2 T), q _ _ resB⟩
  · cases e

/-- repr(x) -/
theorem fr_repr (hg : X.A.guards = some []) (hu : X.A.units + 66 < cLine) : FR X (fun us => PySem.call (.builtin "repr") us) reprD := by
  intro pins s σ H vs us ds z A Q I rv t b e q
  unfold reprD at e
  split at e
  · rename_i d
    split at e
    · rename_i hz
      cases e
      simp only [Bool.and_eq_true, decide_eq_true_eq] at hz
      obtain ⟨⟨h1, h2⟩, h3⟩ := hz
      obtain ⟨x, rfl, b1⟩ := b.one
      obtain ⟨u, rfl, r1⟩ := vals1 rv
      obtain ⟨as, rd⟩ := Dp.reads I d x u b1.dp r1
      have nd := PyData.noDict_hsm (as := as) (PyData.hasDict_of_canLay d (SeqAt.canLay_of_shaped h2))
      have hd := SeqAt.depth_of_shaped h2
      have fin : ∀ h' tk u', (∀ b o, s.heap.get? b = some o → h'.get? b = some o) → EP X pins σ Q (.str d.shown u') { s with heap := h', toks := tk } := fun h' tk u' k =>
        ⟨.str d.shown, H, I.kept k, ⟨_, rfl⟩, q _ _ resS⟩
      have same : ∀ tk u', EP X pins σ Q (.str d.shown u') { s with toks := tk } := fun tk u' => fin s.heap tk u' fun _ _ h => h
      cases rd with
      | none => exact P.repr_of_none (same _ _)
      | bool c =>
        have := same (s.toks + 1) s.toks
        exact P.repr_of_bool (by cases c <;> exact this)
      | int i t' => exact P.repr_of_int (by simpa [PyData.showable] using h1) (same _ _)
      | str y t' => exact P.repr_of_str (same _ _) h3
      | list k1 k2 k3 k4 => exact repr_of_reads' (Reads.list k1 k2 k3 k4) h1 nd hg (by omega) (fun _ _ h => h) (fun h' u' tk k => fin h' tk u' k) h3
      | tuple k1 k2 k3 k4 => exact repr_of_reads' (Reads.tuple k1 k2 k3 k4) h1 nd hg (by omega) (fun _ _ h => h) (fun h' u' tk k => fin h' tk u' k) h3
      | dict => exact absurd (SeqAt.canLay_of_shaped h2) (by simp [PyData.canLay0])
    · cases e
  · cases e
end
end Vm
/-! Vm 4: an expression's end, in the heap -/
namespace Vm
open PySem PySem.Spec PyProof.Rows L2

/-- how a state follows another one while an expression is worked out -/
structure Stp (as as' : Nat → Option Addr) (H H' : Hp) : Prop where
  keep : ∀ b o, H b = some o → (∀ i, as i ≠ some b) → H' b = some o
  le : ∀ i a, as' i = some a → (∃ j, as j = some a) ∨ H a = none
  there : ∀ b o, H b = some o → ∃ o', H' b = some o'
/-- an exception as it lies: K told by cl -/
def XR (cl : Str → Option Value) (x : Xn) (cls : Value) (dd : Option Addr) (H : Hp) : Prop := cl x.cls = some cls ∧ dd = none ∧ x.has = []
section
variable {K : PySem.W.Frag} {g : Gh} {e e' : En} {as as' as'' : Nat → Option Addr} {σ : L2.St} {H H' H'' : Hp} {A A' : Addr → Prop}
theorem Stp.refl : Stp as as H H := ⟨fun _ _ h _ => h, fun i _ h => .inl ⟨i, h⟩, fun _ o h => ⟨o, h⟩⟩
theorem Stp.grow (k : ∀ b o, H b = some o → H' b = some o) : Stp as as H H' := ⟨fun b o h _ => k b o h, fun i _ h => .inl ⟨i, h⟩, fun b o h => ⟨o, k b o h⟩⟩
theorem Stp.nought (p : Stp as as' H H') {b : Addr} (n : H' b = none) : H b = none := by
  cases q : H b with
  | none => rfl
  | some o =>
    obtain ⟨o', e'⟩ := p.there b o q
    rw [n] at e'
    cases e'
theorem Stp.trans (p : Stp as as' H H') (q : Stp as' as'' H' H'') : Stp as as'' H H'' :=
by
  refine ⟨fun b o h n => q.keep b o (p.keep b o h n) fun i z => ?_, fun i a z => ?_, fun b o h => ?_⟩
  · rcases p.le i b z with ⟨j, w⟩ | w
    · exact n j w
    · rw [w] at h
      cases h
  · rcases q.le i a z with ⟨j, w⟩ | w
    · exact p.le j a w
    · exact .inr (p.nought w)
  · obtain ⟨o', h'⟩ := p.there b o h
    exact q.there b o' h'
theorem Stp.kp (p : Stp as as' H H') : Kp (g.av as) (g.av as') H H' :=
  ⟨fun b o h n => p.keep b o h fun i z => n (.inr (.inr ⟨i, z⟩)), fun b o h z => by
    rcases z with z | z | ⟨i, z⟩
    · exact .inl z
    · exact .inr (.inl z)
    · rcases p.le i b z with w | w
      · exact .inr (.inr w)
      · rw [w] at h
        cases h⟩
theorem Rel.trk (h : Rel K g e as σ H) : Trk (g.av as) H := fun b z => h.tr z

/-- a value that is ready to be kept; true: a new list that waits -/
def RV (K : PySem.W.Frag) (g : Gh) (f : Bool) (e : En) (as : Nat → Option Addr) (σ : L2.St) (H : Hp) (d : D) (v : V) : Prop := match f with
  | false => Rep K (g.av as) H d v
  | true => ∃ a, v = .ref a ∧ ¬ g.T a ∧ Rel K (g.plus a) e as σ H ∧ Own K ((g.plus a).av as) H a d
theorem kp_minus {a : Addr} : Kp ((g.plus a).av as) (g.av as) H H := ⟨fun _ _ h _ => h, fun b _ _ z => by
  rcases z with z | z | z
  · exact .inl z
  · exact .inr (.inl (.inl z))
  · exact .inr (.inr z)⟩
theorem RV.rep {f : Bool} {d : D} {v : V} (r : RV K g f e as σ H d v) : Rep K (g.av as) H d v := by
  cases f with
  | false => exact r
  | true =>
    obtain ⟨a, rfl, nT, h, ds, vs, rfl, e2, rl⟩ := r
    obtain ⟨t1, t2, t3⟩ := h.trT a (.inr rfl)
    refine .lst (.inl ⟨fun z => ?_, .inl e2⟩) (rl.mono kp_minus)
    rcases z with z | z | ⟨i, z⟩
    · obtain ⟨o, ho⟩ := h.trB a z
      rw [t3] at ho
      cases ho
    · exact nT z
    · exact t2 i z

/-- the end r, from (as, H): V tells what is known of its value, Q what is wanted -/
def Post {α β : Type} (K : PySem.W.Frag) (g : Gh) (cl : Str → Option Value) (W : WX) (V : α → En → (Nat → Option Addr) → Hp → β → Prop) (Q : β → Hp → Prop) (as : Nat → Option Addr) (σ : L2.St) (H : Hp) (r : R α) : Prop := match r with
  | .ok a e' => ∀ v H' as', Rel K g e' as' σ H' → Stp as as' H H' → V a e' as' H' v → Q v H'
  | .exn x e' => ∀ cls dd H' as', Rel K g e' as' σ H' → Stp as as' H H' → XR cl x cls dd H' → W cls dd σ H'
  | .bad => False
variable {α β γ δ : Type} {cl : Str → Option Value} {W : WX}
/-- from a later state -/
theorem Post.later {V : α → En → (Nat → Option Addr) → Hp → β → Prop} {Q : β → Hp → Prop} {r : R α} (s : Stp as as' H H') (h : Post K g cl W V Q as σ H r) : Post K g cl W V Q as' σ H' r := by
  cases r with
  | ok a e' => exact fun v H2 as2 rel st q => h v H2 as2 rel (s.trans st) q
  | exn x e' => exact fun c d H2 as2 rel st q => h c d H2 as2 rel (s.trans st) q
  | bad => exact h
theorem Post.imp {V : α → En → (Nat → Option Addr) → Hp → β → Prop} {V' : α → En → (Nat → Option Addr) → Hp → γ → Prop} {Q : β → Hp → Prop} {Q' : γ → Hp → Prop} {r : R α} (h : Post K g cl W V Q as σ H r)
    (k : ∀ a e' v H' as', Rel K g e' as' σ H' → Stp as as' H H' → V' a e' as' H' v → (∀ w H'' , Rel K g e' as' σ H'' → Stp as as' H H'' → V a e' as' H'' w → Q w H'') → Q' v H') : Post K g cl W V' Q' as σ H r := by
  cases r with
  | ok a e' => exact fun v H2 as2 rel st q => k a e' v H2 as2 rel st q fun w H3 rel3 st3 q3 => h w H3 as2 rel3 st3 q3
  | exn x e' => exact h
  | bad => exact h
/-- one thing behind another -/
theorem Post.bind {V : α → En → (Nat → Option Addr) → Hp → β → Prop} {V' : γ → En → (Nat → Option Addr) → Hp → δ → Prop} {Q : β → Hp → Prop} {Q' : δ → Hp → Prop} {r : R α} {f : α → En → R γ} (h : Post K g cl W V' Q' as σ H (r.bind f))
    (k : ∀ a e' v H' as', Rel K g e' as' σ H' → Stp as as' H H' → V a e' as' H' v → Post K g cl W V' Q' as' σ H' (f a e') → Q v H') : Post K g cl W V Q as σ H r := by
  cases r with
  | ok a e' => exact fun v H2 as2 rel st q => k a e' v H2 as2 rel st q (Post.later st h)
  | exn x e' => exact h
  | bad => exact h

/-! ### readings -/
def VE (K : PySem.W.Frag) (g : Gh) (σ : L2.St) (p : D × Bool) (e : En) (as : Nat → Option Addr) (H : Hp) (v : V) : Prop := RV K g p.2 e as σ H p.1 v
def VA (K : PySem.W.Frag) (g : Gh) (ds : List D) (e : En) (as : Nat → Option Addr) (H : Hp) (vs : List V) : Prop := RepL K (g.av as) H ds vs
def VB (K : PySem.W.Frag) (g : Gh) (ds : List D) (e : En) (as : Nat → Option Addr) (H : Hp) (vs : List V) : Prop := BorL K (g.av as) H ds vs
def VT (b : Bool) (e : En) (as : Nat → Option Addr) (H : Hp) (c : Bool) : Prop := c = b
/-- from a state that e tells -/
def TR {α β : Type} (K : PySem.W.Frag) (g : Gh) (cl : Str → Option Value) (W : WX) (V : L2.St → α → En → (Nat → Option Addr) → Hp → β → Prop) (m : En → R α) : L2.St → Hp → (β → Hp → Prop) → Prop :=
  fun σ H Q => ∃ e as, Rel K g e as σ H ∧ Post K g cl W (V σ) Q as σ H (m e)

theorem RV.of {r : D × Bool} {v : V} (h : Rel K g e as σ H) (q : ResV K (g.av as) H r v H') : Rel K g e as σ H' ∧ Stp as as H H' ∧ RV K g r.2 e as σ H' r.1 v := by
  obtain ⟨d, f⟩ := r
  cases f with
  | false => exact ⟨h.grow q.1, Stp.grow q.1, q.2⟩
  | true =>
    obtain ⟨p, ds, vs, rfl, rfl, n, rfl, rl⟩ := q
    refine ⟨h.grow (grow_upd n), Stp.grow (grow_upd n), p, rfl, fun z => ?_, h.plus n, ds, vs, rfl, upd_same, rl.mono ⟨fun b o z _ => grow_upd n b o z, fun b o z w => ?_⟩⟩
    · exact h.newA n (.inr (.inl z))
    · rcases w with w | (w | w) | w
      · exact .inl w
      · exact .inr (.inl w)
      · rw [w, n] at z
        cases z
      · exact .inr (.inr w)
end

section
variable {X : Cx} {cl : Str → Option Value} {W : WX}
theorem weakE {e : Expr} {t t' : TE} (h : PE X e t) (k : ∀ σ H Q, t' σ H Q → t σ H Q) : PE X e t' := ⟨fun pins s σ H Q I q => h.run pins s σ H Q I (k σ H Q q)⟩
theorem weakT {e : Expr} {t t' : TT} (h : PT X e t) (k : ∀ σ H Q, t' σ H Q → t σ H Q) : PT X e t' := ⟨fun pins s σ H Q I q => h.run pins s σ H Q I (k σ H Q q)⟩
theorem weakA {e : List Expr} {t t' : TA} (h : PA X e t) (k : ∀ σ H Q, t' σ H Q → t σ H Q) : PA X e t' := ⟨fun pos pins s σ H Q I q => h.run pos pins s σ H Q I (k σ H Q q)⟩
theorem weakS {e : Stmt} {t t' : TS} (h : PS X e t) (k : ∀ D σ H, t' D σ H → t D σ H) : PS X e t' := ⟨fun pins s σ H D I q => h.run pins s σ H D I (k D σ H q)⟩
theorem weakSs {e : List Stmt} {t t' : TS} (h : PSs X e t) (k : ∀ D σ H, t' D σ H → t D σ H) : PSs X e t' := ⟨fun pins s σ H D I q => h.run pins s σ H D I (k D σ H q)⟩

/-- a's value, by m -/
def SE (X : Cx) (cl : Str → Option Value) (W : WX) (a : Expr) (m : E) : Prop := ∀ g, PE X a (TR X.K g cl W (VE X.K g) (evE m))
def ST (X : Cx) (cl : Str → Option Value) (W : WX) (a : Expr) (m : E) : Prop := ∀ g, PT X a (TR X.K g cl W (fun _ => VT) (evT m))
/-- all that is known of an expression -/
structure SB (X : Cx) (cl : Str → Option Value) (W : WX) (a : Expr) (m : E) : Prop where
  se : SE X cl W a m
  st : ST X cl W a m
  var : ∀ i, m = .var i → PE X a (tVar i)
  ns : ∀ x p, a ≠ .Starred x p
/-- the first look at an argument: a name's value is taken as it is -/
def PostF (K : PySem.W.Frag) (g : Gh) (cl : Str → Option Value) (W : WX) (m : E) (e : En) (as : Nat → Option Addr) (σ : L2.St) (H : Hp) (Q : VK) : Prop := match m with
  | .var i => (rdS e i).isSome = true ∧ ∀ v, σ[i]? = some (some v) → Q v H
  | m => Post K g cl W (VE K g σ) Q as σ H (evE m e)
def TF (K : PySem.W.Frag) (g : Gh) (cl : Str → Option Value) (W : WX) (m : E) : TE := fun σ H Q => ∃ e as, Rel K g e as σ H ∧ PostF K g cl W m e as σ H Q
theorem rdS_val {K : PySem.W.Frag} {g : Gh} {e : En} {as : Nat → Option Addr} {σ : L2.St} {H : Hp} (h : Rel K g e as σ H) {i : Nat} {d : D} (q : rdS e i = some d) : ∃ v, σ[i]? = some (some v) ∧ Bor K (g.av as) H d v := by
  unfold rdS at q
  cases hs : e[i]? with
  | none => rw [hs] at q; cases q
  | some s =>
    rw [hs] at q
    have hi : i < e.length := (List.getElem?_eq_some_iff.mp hs).1
    have hiσ : i < σ.length := by rw [h.len]; exact hi
    have r := h.sl i s hs
    have jn : ∀ v, σ[i]?.join = some v → σ[i]? = some (some v) := fun v z => by
      rw [List.getElem?_eq_getElem hiσ] at z ⊢
      exact congrArg some (by simpa using z)
    generalize hx : σ[i]?.join = x at r
    have ow : ∀ a, as i = some a → Own K (g.av as) H a d → x = some (.ref a) → ∃ v, σ[i]? = some (some v) ∧ Bor K (g.av as) H d v := fun a ha o hxa => by
      obtain ⟨ds, vs, rfl, e2, rl⟩ := o
      exact ⟨_, jn _ (hx.trans hxa), .own (.inr (.inr ⟨i, ha⟩)) e2 rl⟩
    generalize ho : as i = o at r
    cases r with
    | un => cases q
    | im r => cases q; exact ⟨_, jn _ hx, .rep r⟩
    | ow r => cases q; exact ow _ ho r rfl
    | io r => cases q; exact ow _ ho r rfl
    | lk r => cases q; exact ow _ ho r rfl
theorem SB.first {a : Expr} {m : E} (h : SB X cl W a m) (g : Gh) : PE X a (TF X.K g cl W m) := by
  by_cases hv : ∃ i, m = .var i
  · obtain ⟨i, rfl⟩ := hv
    refine weakE (h.var i rfl) fun σ H Q ⟨e, as, rel, hs, q⟩ => ?_
    obtain ⟨d, hd⟩ := Option.isSome_iff_exists.mp hs
    obtain ⟨v, hv, _⟩ := rdS_val rel hd
    exact ⟨v, hv, q v hv⟩
  · refine weakE (h.se g) fun σ H Q ⟨e, as, rel, q⟩ => ⟨e, as, rel, ?_⟩
    unfold PostF at q
    split at q
    · exact absurd ⟨_, rfl⟩ hv
    · exact q
theorem BorL.mono {K : PySem.W.Frag} {A : Addr → Prop} {H : Hp} {ds vs} (h : RepL K A H ds vs) : BorL K A H ds vs := by
  induction ds generalizing vs with
  | nil => cases h; exact .nil
  | cons d ds ih =>
    cases h with
    | cons h r => exact .cons (.rep h) (ih r)
/-- one argument of a row that is looked at, then the others -/
theorem rowB {K : PySem.W.Frag} {g : Gh} {e : En} {as : Nat → Option Addr} {σ : L2.St} {H : Hp} {m r : E} {Q : List V → Hp → Prop} (rel : Rel K g e as σ H) (h : Post K g cl W (VB K g) Q as σ H (evB (.cons m r) e)) :
    PostF K g cl W m e as σ H fun v H1 => ∃ e1 as1, Rel K g e1 as1 σ H1 ∧ Post K g cl W (VB K g) (fun vs H2 => Q (v :: vs) H2) as1 σ H1 (evB r e1) := by
  unfold PostF
  split
  · rename_i i
    simp only [evB] at h
    split at h
    · rename_i hs
      refine ⟨hs, fun v hv => ⟨e, as, rel, Post.bind h fun xs e2 vs H2 as2 rel2 st2 b q => ?_⟩⟩
      cases hd : rdS e2 i with
      | none => rw [hd] at q; exact q.elim
      | some d =>
        rw [hd] at q
        obtain ⟨v', hv', b'⟩ := rdS_val rel2 hd
        rw [hv] at hv'
        cases hv'
        exact q _ _ _ rel2 Stp.refl (.cons b' b)
    · exact h.elim
  · rename_i hm
    have h' : Post K g cl W (VB K g) Q as σ H ((evE m e).bind fun x e => (evB r e).bind fun xs e => .ok (x.1 :: xs) e) := by
      cases m with
      | var i => exact absurd rfl (hm i)
      | _ => simpa only [evB] using h
    refine Post.bind h' fun x e1 v H1 as1 rel1 st1 rv q => ⟨e1, as1, rel1, Post.bind q fun xs e2 vs H2 as2 rel2 st2 b q => ?_⟩
    exact q _ _ _ rel2 Stp.refl (.cons (.rep ((show RV K g x.2 e1 as1 σ H1 x.1 v from rv).rep.mono st2.kp)) b)
end
end Vm
/-! Vm 5: expressions -/
namespace Vm
open PySem PySem.Spec PyProof.Rows L2

def rFs (K : PySem.W.Frag) (F : List D → Option (D × Bool)) : List V → Hp → VK → Prop := fun vs H Q => ∃ A ds z, Trk A H ∧ BorL K A H ds vs ∧ F ds = some z ∧ ∀ v H', ResV K A H z v H' → Q v H'
section
variable {X : Cx} {cl : Str → Option Value} {W : WX} {F : List D → Option (D × Bool)} {p : Pr}
theorem FR.opR {f : Value → Value → Sem Value} (h : FR X (f2 f) F) : OpR X f (fun x y H Q => rFs X.K F [x, y] H Q) := by
  rintro pins s σ H x y v u Q I rx ry ⟨A, ds, z, t, b, e, q⟩
  exact h pins s σ H [x, y] [v, u] ds z A Q I (.cons rx (.cons ry .nil)) t b e q
theorem FR.unR {f : Value → Sem Value} (h : FR X (f1 f) F) : UnR X f (fun x H Q => rFs X.K F [x] H Q) := by
  rintro pins s σ H x v Q I rx ⟨A, ds, z, t, b, e, q⟩
  exact h pins s σ H [x] [v] ds z A Q I (.cons rx .nil) t b e q
theorem FR.callR {f : Value} (h : FR X (fun us => PySem.call f us) F) : CallR X f (rFs X.K F) := by
  rintro pins s σ H vs us Q I r ⟨A, ds, z, t, b, e, q⟩
  exact h pins s σ H vs us ds z A Q I r t b e q
theorem prFin {K : PySem.W.Frag} {g : Gh} {e : En} {as : Nat → Option Addr} {σ : L2.St} {H : Hp} {ds : List D} {vs : List V} {Q : VK} (rel : Rel K g e as σ H) (b : BorL K (g.av as) H ds vs) (h : Post K g cl W (VE K g σ) Q as σ H (lift (F ds) e)) : rFs K F vs H Q := by
  cases hF : F ds with
  | none => rw [hF] at h; exact h.elim
  | some z =>
    rw [hF] at h
    refine ⟨_, ds, z, rel.trk, b, hF, fun v H' r => ?_⟩
    obtain ⟨r1, r2, r3⟩ := RV.of rel r
    exact h v H' as r1 r2 r3
/-- what is wanted behind a row that is looked at -/
def QB (K : PySem.W.Frag) (g : Gh) (cl : Str → Option Value) (W : WX) {α β : Type} (σ : L2.St) (Vx : α → En → (Nat → Option Addr) → Hp → β → Prop) (Q : β → Hp → Prop) (f : List D → En → R α) : List V → Hp → Prop :=
  fun vs H => ∃ ds e as, Rel K g e as σ H ∧ BorL K (g.av as) H ds vs ∧ Post K g cl W Vx Q as σ H (f ds e)
theorem bindB {K : PySem.W.Frag} {g : Gh} {as : Nat → Option Addr} {σ : L2.St} {H : Hp} {α β : Type} {Vx : α → En → (Nat → Option Addr) → Hp → β → Prop} {Q : β → Hp → Prop} {r : R (List D)} {f : List D → En → R α} (h : Post K g cl W Vx Q as σ H (r.bind f)) :
    Post K g cl W (VB K g) (QB K g cl W σ Vx Q f) as σ H r := Post.bind h fun ds e1 vs H1 as1 rel1 st1 b q => ⟨ds, e1, as1, rel1, b, q⟩
theorem prE {K : PySem.W.Frag} {g : Gh} {e : En} {as : Nat → Option Addr} {σ : L2.St} {H : Hp} {r : E} {Q : VK} (h : Post K g cl W (VE K g σ) Q as σ H (evE (.pr p r) e)) :
    Post K g cl W (VB K g) (QB K g cl W σ (VE K g σ) Q fun ds e => lift (prD p ds) e) as σ H (evB r e) := bindB (by simpa only [evE] using h)
theorem prT {K : PySem.W.Frag} {g : Gh} {e : En} {as : Nat → Option Addr} {σ : L2.St} {H : Hp} {r : E} {c : Cm} {Q : Bool → Hp → Prop} (h : Post K g cl W VT Q as σ H (evT (.pr (.cmp c) r) e)) :
    Post K g cl W (VB K g) (QB K g cl W σ VT Q fun ds e => lift (cmpD c ds) e) as σ H (evB r e) := bindB (by simpa only [evT] using h)
theorem one_arg {K : PySem.W.Frag} {g : Gh} {e : En} {as : Nat → Option Addr} {σ : L2.St} {H : Hp} {m : E} {Q : List V → Hp → Prop} (rel : Rel K g e as σ H) (h : Post K g cl W (VB K g) Q as σ H (evB (.cons m .nil) e)) :
    TF K g cl W m σ H fun x H1 => Q [x] H1 := by
  refine ⟨e, as, rel, ?_⟩
  have h1 := rowB rel h
  unfold PostF at h1 ⊢
  split at h1
  · exact ⟨h1.1, fun v hv => by
      obtain ⟨e1, as1, rel1, q⟩ := h1.2 v hv
      simp only [evB] at q
      exact q [] H as1 rel1 Stp.refl .nil⟩
  · refine Post.imp h1 fun a e' v H' as' rel' st' va k => ?_
    obtain ⟨e1, as1, rel1, q⟩ := k v H' rel' st' va
    simp only [evB] at q
    exact q [] H' as1 rel1 Stp.refl .nil
theorem two_args {K : PySem.W.Frag} {g : Gh} {e : En} {as : Nat → Option Addr} {σ : L2.St} {H : Hp} {m n : E} {Q : List V → Hp → Prop} (rel : Rel K g e as σ H) (h : Post K g cl W (VB K g) Q as σ H (evB (.cons m (.cons n .nil)) e)) :
    TF K g cl W m σ H fun x H1 => TF K g cl W n σ H1 fun y H2 => Q [x, y] H2 := by
  refine ⟨e, as, rel, ?_⟩
  have h1 := rowB rel h
  unfold PostF at h1 ⊢
  split at h1
  · exact ⟨h1.1, fun v hv => by
      obtain ⟨e1, as1, rel1, q⟩ := h1.2 v hv
      exact one_arg rel1 q⟩
  · refine Post.imp h1 fun a e' v H' as' rel' st' va k => ?_
    obtain ⟨e1, as1, rel1, q⟩ := k v H' rel' st' va
    exact one_arg rel1 q
theorem TF.imp {K : PySem.W.Frag} {g : Gh} {m : E} {σ : L2.St} {H : Hp} {Q Q' : VK} (h : TF K g cl W m σ H Q) (k : ∀ v H', Q v H' → Q' v H') : TF K g cl W m σ H Q' := by
  obtain ⟨e, as, rel, h⟩ := h
  refine ⟨e, as, rel, ?_⟩
  unfold PostF at h ⊢
  split at h
  · exact ⟨h.1, fun v hv => k _ _ (h.2 v hv)⟩
  · exact Post.imp h fun a e' v H' as' rel' st' va q => k _ _ (q v H' rel' st' va)

variable {a b : Expr} {ma mb : E} {pos : Pos}
/-! ### operators -/
theorem se_bin {op : Operator} (fr : FR X (f2 (binaryOp op)) (prD p)) (ha : SB X cl W a ma) (hb : SB X cl W b mb) : SE X cl W (.BinOp a op b pos) (.pr p (.cons ma (.cons mb .nil))) := fun g =>
  weakE (pe_op fr.opR (ha.first g) (hb.first g)) fun σ H Q ⟨e, as, rel, h⟩ =>
    (two_args rel (prE h)).imp fun x H1 h1 => h1.imp fun y H2 ⟨ds, e2, as2, rel2, b2, q⟩ => prFin rel2 b2 q
theorem se_un {op : UnaryOp} (fr : FR X (f1 (unaryOp op)) (prD p)) (ha : SB X cl W a ma) : SE X cl W (.UnaryOp op a pos) (.pr p (.cons ma .nil)) := fun g =>
  weakE (pe_un fr.unR (ha.first g)) fun σ H Q ⟨e, as, rel, h⟩ =>
    (one_arg rel (prE h)).imp fun x H1 ⟨ds, e2, as2, rel2, b2, q⟩ => prFin rel2 b2 q
theorem se_cmp {op : CmpOp} (fr : FR X (f2 (compareOp op)) (prD p)) (ha : SB X cl W a ma) (hb : SB X cl W b mb) (hm : behindInMarks op b = false) : SE X cl W (.Compare a [op] [b] pos) (.pr p (.cons ma (.cons mb .nil))) := fun g =>
  weakE (pe_cmpR fr.opR (ha.first g) (hb.first g) hm) fun σ H Q ⟨e, as, rel, h⟩ =>
    (two_args rel (prE h)).imp fun x H1 h1 => h1.imp fun y H2 ⟨ds, e2, as2, rel2, b2, q⟩ => prFin rel2 b2 q
theorem prFinT {K : PySem.W.Frag} {g : Gh} {e : En} {as : Nat → Option Addr} {σ : L2.St} {H : Hp} {c : Cm} {ds : List D} {vs : List V} {Q : Bool → Hp → Prop} (rel : Rel K g e as σ H) (b : BorL K (g.av as) H ds vs) (h : Post K g cl W VT Q as σ H (lift (cmpD c ds) e)) : rFs K (prD (.cmp c)) vs H fun x H' => ∃ k, x = .bl k ∧ Q k H' := by
  cases hF : cmpD c ds with
  | none => rw [hF] at h; exact h.elim
  | some z =>
    rw [hF] at h
    refine ⟨_, ds, (.bool z, false), rel.trk, b, ?_, fun v H' r => ?_⟩
    · show (cmpD c ds).map _ = _
      rw [hF]
      rfl
    · obtain ⟨r1, r2, r3⟩ := RV.of rel r
      refine ⟨z, ?_, h z H' as r1 r2 rfl⟩
      cases (show Rep K _ H' (.bool z) v from r3)
      rfl
theorem st_cmp {op : CmpOp} {c : Cm} (fr : FR X (f2 (compareOp op)) (prD (.cmp c))) (ha : SB X cl W a ma) (hb : SB X cl W b mb) (hm : behindInMarks op b = false) : ST X cl W (.Compare a [op] [b] pos) (.pr (.cmp c) (.cons ma (.cons mb .nil))) := fun g =>
  weakT (pt_cmpR fr.opR (ha.first g) (hb.first g) hm) fun σ H Q ⟨e, as, rel, h⟩ =>
    (two_args rel (prT h)).imp fun x H1 h1 => h1.imp fun y H2 ⟨ds, e2, as2, rel2, b2, q⟩ => prFinT rel2 b2 q
/-- x is C, C written -/
theorem op_con {op : CmpOp} {u : Value} (fr : FR X (f1 fun v => compareOp op v u) F) {w : V} (hw : ∀ u', RelV w u' → u' = u) : OpR X (compareOp op) (fun x y H Q => y = w ∧ rFs X.K F [x] H Q) := by
  rintro pins s σ H x y v u' Q I rx ry ⟨rfl, A, ds, z, t, b, e, q⟩
  rw [hw u' ry]
  exact fr pins s σ H [x] [v] ds z A Q I (.cons rx .nil) t b e q
theorem se_is {op : CmpOp} {u : Value} {w : V} (fr : FR X (f1 fun v => compareOp op v u) (prD p)) (hw : ∀ u', RelV w u' → u' = u) (ha : SB X cl W a ma) (hb : PE X b (tC w)) (hm : behindInMarks op b = false) : SE X cl W (.Compare a [op] [b] pos) (.pr p (.cons ma .nil)) := fun g =>
  weakE (pe_cmpR (op_con fr hw) (ha.first g) hb hm) fun σ H Q ⟨e, as, rel, h⟩ =>
    (one_arg rel (prE h)).imp fun x H1 ⟨ds, e2, as2, rel2, b2, q⟩ => ⟨rfl, prFin rel2 b2 q⟩
theorem st_is {op : CmpOp} {u : Value} {w : V} {c : Cm} (fr : FR X (f1 fun v => compareOp op v u) (prD (.cmp c))) (hw : ∀ u', RelV w u' → u' = u) (ha : SB X cl W a ma) (hb : PE X b (tC w)) (hm : behindInMarks op b = false) : ST X cl W (.Compare a [op] [b] pos) (.pr (.cmp c) (.cons ma .nil)) := fun g =>
  weakT (pt_cmpR (op_con fr hw) (ha.first g) hb hm) fun σ H Q ⟨e, as, rel, h⟩ =>
    (one_arg rel (prT h)).imp fun x H1 ⟨ds, e2, as2, rel2, b2, q⟩ => ⟨rfl, prFinT rel2 b2 q⟩
/-! ### subscripts -/
theorem two_of {K : PySem.W.Frag} {A : Addr → Prop} {H : Hp} {ds : List D} {x y : V} (b : BorL K A H ds [x, y]) : ∃ d e, ds = [d, e] ∧ Bor K A H d x ∧ Bor K A H e y := by
  cases b with
  | cons h r =>
    cases r with
    | cons h' r => cases r; exact ⟨_, _, rfl, h, h'⟩
theorem one_of {K : PySem.W.Frag} {A : Addr → Prop} {H : Hp} {ds : List D} {x : V} (b : BorL K A H ds [x]) : ∃ d, ds = [d] ∧ Bor K A H d x := by
  cases b with
  | cons h r => cases r; exact ⟨_, rfl, h⟩
theorem three_of {K : PySem.W.Frag} {A : Addr → Prop} {H : Hp} {ds : List D} {x y z : V} (b : BorL K A H ds [x, y, z]) : ∃ d e f, ds = [d, e, f] ∧ Bor K A H d x ∧ Bor K A H e y ∧ Bor K A H f z := by
  cases b with
  | cons h r =>
    obtain ⟨d, e, rfl, h1, h2⟩ := two_of r
    exact ⟨_, _, _, rfl, h, h1, h2⟩
theorem se_item (ha : SB X cl W a ma) (hb : SB X cl W b mb) (hs : PlainIx b) : SE X cl W (.Subscript a b pos) (.pr .item (.cons ma (.cons mb .nil))) := fun g =>
  weakE (pe_ix ix_seq (ha.first g) (hb.first g) hs) fun σ H Q ⟨e, as, rel, h⟩ =>
    (two_args rel (prE h)).imp fun x H1 h1 => h1.imp fun y H2 ⟨ds, e2, as2, rel2, b2, q⟩ => by
      obtain ⟨A, ds, z, t, b3, e3, q3⟩ := prFin (F := prD .item) rel2 b2 q
      obtain ⟨d, e, rfl, c1, c2⟩ := two_of b3
      exact fr_item t c1 c2 e3 q3
end
end Vm
/-! Vm 6: expressions, further: names, rows, displays, truth, built-in functions, slices -/
namespace Vm
open PySem PySem.Spec PyProof.Rows L2
section
variable {X : Cx} {cl : Str → Option Value} {W : WX} {F : List D → Option (D × Bool)} {p : Pr} {a b c : Expr} {ma mb mc : E} {pos : Pos}

/-! ### names, constants -/
theorem se_var {x : Str} {i : Nat} (hv : PE X (.Name x pos) (tVar i)) : SE X cl W (.Name x pos) (.var i) := fun g =>
  weakE hv fun σ H Q ⟨e, as, rel, h⟩ => by
    simp only [evE] at h
    split at h
    · rename_i d hs
      have hr : rdS e i = some d := by unfold rdS; rw [hs]
      obtain ⟨v, hv, _⟩ := rdS_val rel hr
      have r := rel.sl i _ hs
      rw [hv] at r
      refine ⟨v, hv, h v H as rel Stp.refl ?_⟩
      show Rep _ _ _ _ _
      generalize as i = o at r
      cases r with
      | im r => exact r
    · rename_i d hs
      obtain ⟨rel2, v, hv, rp⟩ := rel.freeze hs
      refine ⟨v, hv, h v H _ rel2 ⟨fun _ _ z _ => z, fun j b z => ?_, fun _ o z => ⟨o, z⟩⟩ rp⟩
      by_cases hj : j = i
      · rw [hj, setA_same] at z
        cases z
      · rw [setA_ne hj] at z
        exact .inl ⟨j, z⟩
    · exact h.elim
theorem st_gen {m : E} (hs : ∀ e, evT m e = (evE m e).bind fun r e => lift (truD r.1) e) (hn : ∀ i, m ≠ .var i) (hf : PE X a (TF X.K g cl W m)) : True := trivial
theorem truV_of {K : PySem.W.Frag} {A : Addr → Prop} {H : Hp} {d : D} {v : V} {k : Bool} (h : Bor K A H d v) (e : truD d = some k) : TruV K v H k := by
  unfold truD at e
  split at e
  · cases e; rw [h.none]; rfl
  · cases e; rw [h.bool]; rfl
  · cases e; rw [h.int]; rfl
  · split at e
    · rename_i hz
      cases e; rw [h.str]; exact ⟨hz, rfl⟩
    · cases e
  · cases e
    obtain ⟨a, vs, rfl, hl, r⟩ := h.list
    refine .inl ⟨vs, hl.sq, ?_⟩
    cases r <;> rfl
  · cases e
    obtain ⟨a, vs, rfl, hl, r⟩ := h.tuple
    refine .inr (.inl ⟨vs, hl.sq, ?_⟩)
    cases r <;> rfl
  · cases e
/-- an expression's truth, by its value -/
theorem st_of {m : E} (hm : ∀ e, evT m e = (evE m e).bind fun r e => lift (truD r.1) e) (hs : SE X cl W a m) (he : ∀ whole, isTrue a X.env whole = (do let v ← whole; standAt a.pos; holding [v] (truthy v))) : ST X cl W a m := fun g =>
  weakT (pt_truth (hs g) he) fun σ H Q ⟨e, as, rel, h⟩ => by
    rw [hm] at h
    refine ⟨e, as, rel, Post.bind h fun r e' v H' as' rel' st' rv q => ?_⟩
    cases ht : truD r.1 with
    | none => rw [ht] at q; exact q.elim
    | some k =>
      rw [ht] at q
      exact ⟨k, truV_of (.rep (show RV X.K g r.2 e' as' σ H' r.1 v from rv).rep) ht, q k H' as' rel' Stp.refl rfl⟩
theorem st_var {x : Str} {i : Nat} (hv : PE X (.Name x pos) (tVar i)) : ST X cl W (.Name x pos) (.var i) := fun g =>
  weakT (pt_truth hv (fun _ => rfl)) fun σ H Q ⟨e, as, rel, h⟩ => by
    simp only [evT] at h
    cases hr : rdS e i with
    | none => rw [hr] at h; exact h.elim
    | some d =>
      rw [hr] at h
      obtain ⟨v, hv, b⟩ := rdS_val rel hr
      cases ht : truD d with
      | none => rw [show (some d).bind truD = truD d from rfl, ht] at h; exact h.elim
      | some k =>
        rw [show (some d).bind truD = truD d from rfl, ht] at h
        exact ⟨v, hv, k, truV_of b ht, h k H as rel Stp.refl rfl⟩
theorem sb_var {x : Str} {i : Nat} (hv : PE X (.Name x pos) (tVar i)) : SB X cl W (.Name x pos) (.var i) :=
  ⟨se_var hv, st_var hv, fun j e => by cases e; exact hv, fun _ _ => by simp⟩
/-- a value that is the same in every heap -/
theorem se_con {d : D} {v : V} (h : PE X a (tC v)) (r : ∀ A H, Rep X.K A H d v) : SE X cl W a (.con d) := fun g =>
  weakE h fun σ H Q ⟨e, as, rel, h⟩ => by
    simp only [evE] at h
    exact h v H as rel Stp.refl (r _ _)

/-! ### rows -/
inductive Row (X : Cx) (cl : Str → Option Value) (W : WX) : List Expr → E → Prop
  | nil : Row X cl W [] .nil
  | cons {a as m r} : SB X cl W a m → Row X cl W as r → Row X cl W (a :: as) (.cons m r)
theorem star_cons {es : List Expr} (h : ∀ x p, a ≠ .Starred x p) : starEach (a :: es) X.env = (false, eval a X.env) :: starEach es X.env := by
  cases a <;> first | rfl | exact absurd rfl (h _ _)
theorem Row.plain {es : List Expr} {r : E} (h : Row X cl W es r) : (backTo pos (starEach es X.env)).any (·.1) = false := by
  induction h with
  | nil => rfl
  | cons h _ ih =>
    rw [star_cons h.ns]
    show (false || _) = false
    rw [Bool.false_or]
    exact ih
theorem Row.paB {es : List Expr} {r : E} (h : Row X cl W es r) : ∀ g, PA X es (TR X.K g cl W (fun _ => VB X.K g) (evB r)) := by
  induction h with
  | nil =>
    intro g
    refine weakA pa_nil fun σ H Q ⟨e, as, rel, h⟩ => ?_
    simp only [evB] at h
    exact h [] H as rel Stp.refl .nil
  | cons h _ ih => exact fun g => weakA (pa_cons (h.first g) (ih g) (star_cons h.ns)) fun σ H Q ⟨e, as, rel, q⟩ => ⟨e, as, rel, rowB rel q⟩
theorem Row.paA {es : List Expr} {r : E} (h : Row X cl W es r) : ∀ g, PA X es (TR X.K g cl W (fun _ => VA X.K g) (evA r)) := by
  induction h with
  | nil =>
    intro g
    refine weakA pa_nil fun σ H Q ⟨e, as, rel, h⟩ => ?_
    simp only [evA] at h
    exact h [] H as rel Stp.refl .nil
  | cons h _ ih =>
    intro g
    refine weakA (pa_cons (h.se g) (ih g) (star_cons h.ns)) fun σ H Q ⟨e, as, rel, q⟩ => ?_
    simp only [evA] at q
    refine ⟨e, as, rel, Post.bind q fun x e1 v H1 as1 rel1 st1 rv q1 => ⟨e1, as1, rel1, Post.bind q1 fun xs e2 vs H2 as2 rel2 st2 rl q2 => ?_⟩⟩
    exact q2 _ _ _ rel2 Stp.refl (.cons ((show RV X.K g x.2 e1 as1 σ H1 x.1 v from rv).rep.mono st2.kp) rl)
/-! ### displays -/
theorem se_tup {es : List Expr} {r : E} {k : Nat} (h : Row X cl W es r) : SE X cl W (.Tuple es k pos) (.tup r) := fun g =>
  weakE (pe_tup (h.paA g)) fun σ H Q ⟨e, as, rel, q⟩ => by
    simp only [evE] at q
    refine ⟨e, as, rel, Post.bind q fun ds e1 vs H1 as1 rel1 st1 rl q1 => ?_⟩
    have rl : RepL X.K (g.av as1) H1 ds vs := rl
    split at q1
    · rename_i hz
      refine ⟨by rw [rl.length]; exact hz, fun p n => ?_⟩
      obtain ⟨r1, r2, r3⟩ := RV.of rel1 (resT rel1.trk n rl)
      exact q1 _ _ _ r1 r2 r3
    · exact q1.elim
theorem se_lst {es : List Expr} {r : E} (h : Row X cl W es r) : SE X cl W (.List es pos) (.lst r) := fun g =>
  weakE (pe_lst (h.paA g)) fun σ H Q ⟨e, as, rel, q⟩ => by
    simp only [evE] at q
    refine ⟨e, as, rel, Post.bind q fun ds e1 vs H1 as1 rel1 st1 rl q1 => ?_⟩
    have rl : RepL X.K (g.av as1) H1 ds vs := rl
    split at q1
    · rename_i hz
      refine ⟨by rw [rl.length]; exact hz, fun p n => ?_⟩
      obtain ⟨r1, r2, r3⟩ := RV.of rel1 (resL n rl)
      exact q1 _ _ _ r1 r2 r3
    · exact q1.elim
/-! ### truth -/
theorem boolOf_some {d : D} {k : Bool} (h : boolOf d = some k) : d = .bool k := by
  unfold boolOf at h
  split at h
  · cases h; rfl
  · cases h
theorem VE.bl {K : PySem.W.Frag} {g : Gh} {σ : L2.St} {r : D × Bool} {e : En} {as : Nat → Option Addr} {H : Hp} {v : V} {k : Bool} (rv : VE K g σ r e as H v) (h : boolOf r.1 = some k) : v = .bl k := by
  have rp := (show RV K g r.2 e as σ H r.1 v from rv).rep
  rw [boolOf_some h] at rp
  cases rp
  rfl
theorem se_not (ha : SE X cl W a ma) : SE X cl W (.UnaryOp .Not a pos) (.not ma) := fun g =>
  weakE (pe_not (ha g)) fun σ H Q ⟨e, as, rel, q⟩ => by
    simp only [evE] at q
    refine ⟨e, as, rel, Post.bind q fun r e1 v H1 as1 rel1 st1 rv q1 => ?_⟩
    cases hb : boolOf r.1 with
    | none => rw [hb] at q1; exact q1.elim
    | some k =>
      rw [hb] at q1
      exact ⟨k, rv.bl hb, q1 _ _ _ rel1 Stp.refl (Rep.bl _)⟩
theorem st_not (ha : ST X cl W a ma) : ST X cl W (.UnaryOp .Not a pos) (.not ma) := fun g =>
  weakT (pt_not (ha g)) fun σ H Q ⟨e, as, rel, q⟩ => by
    simp only [evT] at q
    exact ⟨e, as, rel, Post.bind q fun k e1 v H1 as1 rel1 st1 rv q1 => by
      cases (show v = k from rv)
      exact q1 _ _ _ rel1 Stp.refl rfl⟩
theorem se_and {es : List Expr} (ha : SE X cl W a ma) (hb : SE X cl W (.BoolOp .And (b :: es) pos) mb) : SE X cl W (.BoolOp .And (a :: b :: es) pos) (.and ma mb) := fun g =>
  weakE (pe_and (ha g) (hb g)) fun σ H Q ⟨e, as, rel, q⟩ => by
    simp only [evE] at q
    refine ⟨e, as, rel, Post.bind q fun r e1 v H1 as1 rel1 st1 rv q1 => ?_⟩
    cases hb : boolOf r.1 with
    | none => rw [hb] at q1; exact q1.elim
    | some k =>
      rw [hb] at q1
      refine ⟨k, rv.bl hb, ?_⟩
      cases k with
      | true =>
        rw [if_pos rfl]
        exact ⟨e1, as1, rel1, q1⟩
      | false =>
        rw [if_neg Bool.false_ne_true]
        exact q1 _ _ _ rel1 Stp.refl (Rep.bl _)
theorem se_or {es : List Expr} (ha : SE X cl W a ma) (hb : SE X cl W (.BoolOp .Or (b :: es) pos) mb) : SE X cl W (.BoolOp .Or (a :: b :: es) pos) (.or ma mb) := fun g =>
  weakE (pe_or (ha g) (hb g)) fun σ H Q ⟨e, as, rel, q⟩ => by
    simp only [evE] at q
    refine ⟨e, as, rel, Post.bind q fun r e1 v H1 as1 rel1 st1 rv q1 => ?_⟩
    cases hb : boolOf r.1 with
    | none => rw [hb] at q1; exact q1.elim
    | some k =>
      rw [hb] at q1
      refine ⟨k, rv.bl hb, ?_⟩
      cases k with
      | false =>
        rw [if_neg Bool.false_ne_true]
        exact ⟨e1, as1, rel1, q1⟩
      | true =>
        rw [if_pos rfl]
        exact q1 _ _ _ rel1 Stp.refl (Rep.bl _)
theorem se_one {op : BoolOp} (ha : SE X cl W a ma) : SE X cl W (.BoolOp op [a] pos) ma := fun g => pe_one (ha g)
def SW (X : Cx) (cl : Str → Option Value) (W : WX) (a : Expr) (m : E) : Prop := ∀ g, PW X a (TR X.K g cl W (fun _ => VT) (evT m))
theorem weakW {e : Expr} {t t' : TT} (h : PW X e t) (k : ∀ σ H Q, t' σ H Q → t σ H Q) : PW X e t' := ⟨fun wh pins s σ H Q I q => h.run wh pins s σ H Q I (k σ H Q q)⟩
theorem sw_and1 (ha : ST X cl W a ma) : SW X cl W (.BoolOp .And [a] pos) ma := fun g => pw_and1 (ha g)
theorem sw_or1 (ha : ST X cl W a ma) : SW X cl W (.BoolOp .Or [a] pos) ma := fun g => pw_or1 (ha g)
theorem sw_and {es : List Expr} (ha : ST X cl W a ma) (hb : SW X cl W (.BoolOp .And (b :: es) pos) mb) : SW X cl W (.BoolOp .And (a :: b :: es) pos) (.and ma mb) := fun g =>
  weakW (pw_and (ha g) (hb g)) fun σ H Q ⟨e, as, rel, q⟩ => by
    simp only [evT] at q
    refine ⟨e, as, rel, Post.bind q fun k e1 v H1 as1 rel1 st1 rv q1 => ?_⟩
    cases (show v = k from rv)
    cases k with
    | true =>
      rw [if_pos rfl] at q1 ⊢
      exact ⟨e1, as1, rel1, q1⟩
    | false =>
      rw [if_neg Bool.false_ne_true] at q1 ⊢
      exact q1 _ _ _ rel1 Stp.refl rfl
theorem sw_or {es : List Expr} (ha : ST X cl W a ma) (hb : SW X cl W (.BoolOp .Or (b :: es) pos) mb) : SW X cl W (.BoolOp .Or (a :: b :: es) pos) (.or ma mb) := fun g =>
  weakW (pw_or (ha g) (hb g)) fun σ H Q ⟨e, as, rel, q⟩ => by
    simp only [evT] at q
    refine ⟨e, as, rel, Post.bind q fun k e1 v H1 as1 rel1 st1 rv q1 => ?_⟩
    cases (show v = k from rv)
    cases k with
    | true =>
      rw [if_pos rfl] at q1 ⊢
      exact q1 _ _ _ rel1 Stp.refl rfl
    | false =>
      rw [if_neg Bool.false_ne_true] at q1 ⊢
      exact ⟨e1, as1, rel1, q1⟩
theorem SW.st (h : SW X cl W a ma) : ST X cl W a ma := fun g => (h g).pt
theorem se_ite (hc : ST X cl W c mc) (ha : SE X cl W a ma) (hb : SE X cl W b mb) : SE X cl W (.IfExp c a b pos) (.ite mc ma mb) := fun g =>
  weakE (pe_ifExp (hc g) (ha g) (hb g)) fun σ H Q ⟨e, as, rel, q⟩ => by
    simp only [evE] at q
    refine ⟨e, as, rel, Post.bind q fun k e1 v H1 as1 rel1 st1 rv q1 => ?_⟩
    cases (show v = k from rv)
    cases k with
    | true =>
      rw [if_pos rfl] at q1 ⊢
      exact ⟨e1, as1, rel1, q1⟩
    | false =>
      rw [if_neg Bool.false_ne_true] at q1 ⊢
      exact ⟨e1, as1, rel1, q1⟩
/-! ### a op b op c -/
theorem rF_cmp {K : PySem.W.Frag} {A : Addr → Prop} {H : Hp} {cm : Cm} {x y : V} {d e : D} {k : Bool} {Q : VK} (t : Trk A H) (h1 : Rep K A H d x) (h2 : Rep K A H e y) (hk : cmpD cm [d, e] = some k) (q : ∀ v H', ResV K A H (.bool k, false) v H' → Q v H') : rFs K (prD (.cmp cm)) [x, y] H Q :=
  ⟨A, [d, e], (.bool k, false), t, .cons (.rep h1) (.cons (.rep h2) .nil), by show (cmpD cm [d, e]).map _ = _; rw [hk]; rfl, q⟩
theorem resB_inv {K : PySem.W.Frag} {A : Addr → Prop} {H H' : Hp} {k : Bool} {v : V} (h : ResV K A H (.bool k, false) v H') : v = .bl k := by
  cases (show Rep K A H' (.bool k) v from h.2)
  rfl
theorem se_chn {op op' : CmpOp} {cm cm' : Cm} (f1 : FR X (f2 (compareOp op)) (prD (.cmp cm))) (f2 : FR X (f2 (compareOp op')) (prD (.cmp cm'))) (ha : SE X cl W a ma) (hb : SE X cl W b mb) (hc : SE X cl W c mc) (hm : lastMarks [op, op'] [b, c] = false) :
    SE X cl W (.Compare a [op, op'] [b, c] pos) (.chn cm cm' ma mb mc) := fun g =>
  weakE (pe_chain f1.opR f2.opR (ha g) (hb g) (hc g) hm) fun σ H Q ⟨e, as, rel, q⟩ => by
    simp only [evE] at q
    refine ⟨e, as, rel, Post.bind q fun r e1 x H1 as1 rel1 st1 rv q1 => ⟨e1, as1, rel1, Post.bind q1 fun r2 e2 y H2 as2 rel2 st2 rv2 q2 => ?_⟩⟩
    have p1 := (show RV X.K g r.2 e1 as1 σ H1 r.1 x from rv).rep.mono (st2.kp (g := g))
    have p2 := (show RV X.K g r2.2 e2 as2 σ H2 r2.1 y from rv2).rep
    cases hk : cmpD cm [r.1, r2.1] with
    | none => rw [hk] at q2; exact q2.elim
    | some k =>
      rw [hk] at q2
      refine rF_cmp rel2.trk p1 p2 hk fun v H3 rs => ?_
      obtain ⟨rel3, st3, _⟩ := RV.of rel2 rs
      refine ⟨k, resB_inv rs, ?_⟩
      cases k with
      | false =>
        rw [if_neg Bool.false_ne_true]
        exact q2 _ _ _ rel3 st3 (Rep.bl _)
      | true =>
        rw [if_pos rfl]
        refine ⟨e2, as2, rel3, Post.bind (Post.later st3 q2) fun r4 e4 z H4 as4 rel4 st4 rv4 q4 => ?_⟩
        cases hk2 : cmpD cm' [r2.1, r4.1] with
        | none => rw [hk2] at q4; exact q4.elim
        | some k2 =>
          rw [hk2] at q4
          refine rF_cmp rel4.trk ((p2.mono (st3.kp (g := g))).mono (st4.kp (g := g))) (show RV X.K g r4.2 e4 as4 σ H4 r4.1 z from rv4).rep hk2 fun v H5 rs5 => ?_
          obtain ⟨rel5, st5, rv5⟩ := RV.of rel4 rs5
          exact q4 _ _ _ rel5 st5 rv5
theorem st_chn {op op' : CmpOp} {cm cm' : Cm} (f1 : FR X (f2 (compareOp op)) (prD (.cmp cm))) (f2 : FR X (f2 (compareOp op')) (prD (.cmp cm'))) (ha : SE X cl W a ma) (hb : SE X cl W b mb) (hc : SE X cl W c mc) (hm : lastMarks [op, op'] [b, c] = false) :
    ST X cl W (.Compare a [op, op'] [b, c] pos) (.chn cm cm' ma mb mc) := fun g =>
  weakT (pt_chain f1.opR f2.opR (ha g) (hb g) (hc g) hm) fun σ H Q ⟨e, as, rel, q⟩ => by
    simp only [evT] at q
    refine ⟨e, as, rel, Post.bind q fun r e1 x H1 as1 rel1 st1 rv q1 => ⟨e1, as1, rel1, Post.bind q1 fun r2 e2 y H2 as2 rel2 st2 rv2 q2 => ?_⟩⟩
    have p1 := (show RV X.K g r.2 e1 as1 σ H1 r.1 x from rv).rep.mono (st2.kp (g := g))
    have p2 := (show RV X.K g r2.2 e2 as2 σ H2 r2.1 y from rv2).rep
    cases hk : cmpD cm [r.1, r2.1] with
    | none => rw [hk] at q2; exact q2.elim
    | some k =>
      rw [hk] at q2
      refine rF_cmp rel2.trk p1 p2 hk fun v H3 rs => ?_
      obtain ⟨rel3, st3, _⟩ := RV.of rel2 rs
      refine ⟨k, resB_inv rs, ?_⟩
      cases k with
      | false =>
        rw [if_neg Bool.false_ne_true]
        exact ⟨false, rfl, q2 _ _ _ rel3 st3 rfl⟩
      | true =>
        rw [if_pos rfl]
        refine ⟨e2, as2, rel3, Post.bind (Post.later st3 q2) fun r4 e4 z H4 as4 rel4 st4 rv4 q4 => ?_⟩
        cases hk2 : cmpD cm' [r2.1, r4.1] with
        | none => rw [hk2] at q4; exact q4.elim
        | some k2 =>
          rw [hk2] at q4
          refine rF_cmp rel4.trk ((p2.mono (st3.kp (g := g))).mono (st4.kp (g := g))) (show RV X.K g r4.2 e4 as4 σ H4 r4.1 z from rv4).rep hk2 fun v H5 rs5 => ?_
          obtain ⟨rel5, st5, rv5⟩ := RV.of rel4 rs5
          exact ⟨k2, resB_inv rs5, q4 _ _ _ rel5 st5 rfl⟩
/-! ### built-in functions -/
theorem se_blt {x : Str} {id : String} {q0 : Pos} {es : List Expr} {ms : E} (fr : FR X (fun us => PySem.call (.builtin id) us) (prD p)) (hg : Gl X x) (hm : X.mg x = none) (hv : bootBuiltins x = some (.builtin id)) (hn : x ≠ "__name__") (hd : (x == ("__debug__" : Str)) = false)
    (h : Row X cl W (a :: es) (.cons ma ms)) : SE X cl W (.Call (.Name x q0) (a :: es) [] pos) (.pr p (.cons ma ms)) := fun g => by
  cases h with
  | cons h1 h2 =>
    exact weakE (pe_callB fr.callR hg hm hv ((Row.cons h1 h2).paB g) hn hd (star_cons h1.ns) h2.plain) fun σ H Q ⟨e, as, rel, q⟩ => by
      refine ⟨e, as, rel, Post.imp (prE q) fun ds e' vs H' as' rel' st' b k => ?_⟩
      obtain ⟨ds2, e2, as2, rel2, b2, q2⟩ := k vs H' rel' st' b
      exact prFin rel2 b2 q2
theorem se_bty {x : Str} {T : String} {q0 : Pos} {es : List Expr} {ms : E} (fr : FR X (fun us => PySem.call (.type T) us) (prD p)) (hg : Gl X x) (hm : X.mg x = none) (hv : bootBuiltins x = some (.type T)) (hn : x ≠ "__name__") (hd : (x == ("__debug__" : Str)) = false)
    (h : Row X cl W (a :: es) (.cons ma ms)) : SE X cl W (.Call (.Name x q0) (a :: es) [] pos) (.pr p (.cons ma ms)) := fun g => by
  cases h with
  | cons h1 h2 =>
    exact weakE (pe_callTy fr.callR hg hm hv ((Row.cons h1 h2).paB g) hn hd (star_cons h1.ns) h2.plain) fun σ H Q ⟨e, as, rel, q⟩ => by
      refine ⟨e, as, rel, Post.imp (prE q) fun ds e' vs H' as' rel' st' b k => ?_⟩
      obtain ⟨ds2, e2, as2, rel2, b2, q2⟩ := k vs H' rel' st' b
      exact prFin rel2 b2 q2
/-- isinstance(a, T) -/
theorem se_isi {x y : Str} {T : Ty} {q0 q1 : Pos} (hg : Gl X x) (hm : X.mg x = none) (hv : bootBuiltins x = some (.builtin "isinstance")) (hn : x ≠ "__name__") (hd : (x == ("__debug__" : Str)) = false)
    (hg' : Gl X y) (hm' : X.mg y = none) (hv' : bootBuiltins y = some (.type (tyN T))) (hn' : y ≠ "__name__") (hd' : (y == ("__debug__" : Str)) = false) (ha : SB X cl W a ma) :
    SE X cl W (.Call (.Name x q0) [a, .Name y q1] [] pos) (.pr (.isi T) (.cons ma .nil)) := fun g => by
  have cr : CallR X (.builtin "isinstance") (fun vs H Q => ∃ v, vs = [v, .ty (tyN T)] ∧ rFs X.K (isiD T) [v] H Q) := by
    rintro pins s σ H vs us Q I r ⟨v, rfl, A, ds, z, t, b, e, q⟩
    obtain ⟨u, u', rfl, r1, r2⟩ := vals2 r
    cases (show u' = Value.type (tyN T) from r2)
    exact fr_isi T pins s σ H [v] [u] ds z A Q I (.cons r1 .nil) t b e q
  have hT : PE X (.Name y q1) (tC (.ty (tyN T))) := pe_bltn hg' hm' hv' rfl hn' hd'
  exact weakE (pe_callB cr hg hm hv (pa_cons (ha.first g) (pa_cons hT pa_nil rfl) (star_cons ha.ns)) hn hd (star_cons ha.ns) rfl) fun σ H Q ⟨e, as, rel, q⟩ =>
    (one_arg rel (prE q)).imp fun v H1 ⟨ds, e2, as2, rel2, b2, q2⟩ => ⟨v, rfl, prFin rel2 b2 q2⟩
/-! ### slices -/
theorem three_args {K : PySem.W.Frag} {g : Gh} {e : En} {as : Nat → Option Addr} {σ : L2.St} {H : Hp} {m n l : E} {Q : List V → Hp → Prop} (rel : Rel K g e as σ H) (h : Post K g cl W (VB K g) Q as σ H (evB (.cons m (.cons n (.cons l .nil))) e)) :
    TF K g cl W m σ H fun x H1 => TF K g cl W n σ H1 fun y H2 => TF K g cl W l σ H2 fun z H3 => Q [x, y, z] H3 := by
  refine ⟨e, as, rel, ?_⟩
  have h1 := rowB rel h
  unfold PostF at h1 ⊢
  split at h1
  · exact ⟨h1.1, fun v hv => by
      obtain ⟨e1, as1, rel1, q⟩ := h1.2 v hv
      exact two_args rel1 q⟩
  · refine Post.imp h1 fun a e' v H' as' rel' st' va k => ?_
    obtain ⟨e1, as1, rel1, q⟩ := k v H' rel' st' va
    exact two_args rel1 q
theorem sl_both : L2.SlR X (fun x lo hi H Q => (rSlL X.K x lo hi H Q ∨ rSlA X.K x lo hi H Q) ∨ rSlS x lo hi H Q) := L2.SlR.or (L2.SlR.or sl_list sl_tupA) sl_str
theorem cuts_of {b1 b2 : Bool} {ds : List D} {z : D × Bool} (h : cutsD b1 b2 ds = some z) : (b1 = false ∧ b2 = false ∧ ∃ x, ds = [x] ∧ slcD x none none = some z) ∨ (b1 = true ∧ b2 = false ∧ ∃ x i, ds = [x, .int i] ∧ slcD x (some i) none = some z) ∨
    (b1 = false ∧ b2 = true ∧ ∃ x i, ds = [x, .int i] ∧ slcD x none (some i) = some z) ∨ (b1 = true ∧ b2 = true ∧ ∃ x i j, ds = [x, .int i, .int j] ∧ slcD x (some i) (some j) = some z) := by
  unfold cutsD at h
  split at h
  · exact .inl ⟨rfl, rfl, _, rfl, h⟩
  · exact .inr (.inl ⟨rfl, rfl, _, _, rfl, h⟩)
  · exact .inr (.inr (.inl ⟨rfl, rfl, _, _, rfl, h⟩))
  · exact .inr (.inr (.inr ⟨rfl, rfl, _, _, _, rfl, h⟩))
  · cases h
theorem se_cut00 {p2 : Pos} (ha : SB X cl W a ma) : SE X cl W (.Subscript a (.Slice none none none p2) pos) (.pr (.cut false false) (.cons ma .nil)) := fun g =>
  weakE (pe_slice sl_both (ha.first g) po_none po_none) fun σ H Q ⟨e, as, rel, q⟩ =>
    (one_arg rel (prE q)).imp fun v H1 ⟨ds, e2, as2, rel2, b2, q2⟩ => by
      obtain ⟨A, ds, z, t, b3, e3, q3⟩ := prFin (F := prD (.cut false false)) rel2 b2 q2
      rcases cuts_of e3 with ⟨_, _, x, rfl, h⟩ | ⟨h, _⟩ | ⟨_, h, _⟩ | ⟨h, _⟩
      · obtain ⟨x, hx, c1⟩ := one_of b3
        cases hx
        exact fr_slc t c1 h q3
      all_goals cases h
theorem se_cut10 {p2 : Pos} (ha : SB X cl W a ma) (hb : SB X cl W b mb) : SE X cl W (.Subscript a (.Slice (some b) none none p2) pos) (.pr (.cut true false) (.cons ma (.cons mb .nil))) := fun g =>
  weakE (pe_slice sl_both (ha.first g) (po_some (hb.first g)) po_none) fun σ H Q ⟨e, as, rel, q⟩ =>
    (two_args rel (prE q)).imp fun v H1 h1 => h1.imp fun u H2 ⟨ds, e2, as2, rel2, b2, q2⟩ => by
      obtain ⟨A, ds, z, t, b3, e3, q3⟩ := prFin (F := prD (.cut true false)) rel2 b2 q2
      rcases cuts_of e3 with ⟨h, _⟩ | ⟨_, _, x, i, rfl, h⟩ | ⟨h, _⟩ | ⟨_, h, _⟩
      · cases h
      · obtain ⟨x, y, hx, c1, c2⟩ := two_of b3
        cases hx
        exact ⟨i, c2.int, fr_slc t c1 h q3⟩
      · cases h
      · cases h
theorem se_cut01 {p2 : Pos} (ha : SB X cl W a ma) (hb : SB X cl W b mb) : SE X cl W (.Subscript a (.Slice none (some b) none p2) pos) (.pr (.cut false true) (.cons ma (.cons mb .nil))) := fun g =>
  weakE (pe_slice sl_both (ha.first g) po_none (po_some (hb.first g))) fun σ H Q ⟨e, as, rel, q⟩ =>
    (two_args rel (prE q)).imp fun v H1 h1 => h1.imp fun u H2 ⟨ds, e2, as2, rel2, b2, q2⟩ => by
      obtain ⟨A, ds, z, t, b3, e3, q3⟩ := prFin (F := prD (.cut false true)) rel2 b2 q2
      rcases cuts_of e3 with ⟨_, h, _⟩ | ⟨h, _⟩ | ⟨_, _, x, i, rfl, h⟩ | ⟨h, _⟩
      · cases h
      · cases h
      · obtain ⟨x, y, hx, c1, c2⟩ := two_of b3
        cases hx
        exact ⟨i, c2.int, fr_slc t c1 h q3⟩
      · cases h
end
end Vm
/-! Vm 6, turned about: e[::-1] -/
namespace Vm
open PySem PySem.Spec PyProof.Rows L2 HT
section
variable {prog : Program} {w : World} {A : Around} {E : Value → Shared → Prop} {s : Shared}
theorem adjust_rev (n : Nat) : Builtin.Slice.sliceAdjust none none (-1) (n : Int) = ((n : Int) - 1, -1) := by
  unfold Builtin.Slice.sliceAdjust
  simp
theorem places_rev (n : Nat) : Builtin.Slice.slicePlaces ((n : Int) - 1) (-1) (-1) = n := by
  unfold Builtin.Slice.slicePlaces
  have h1 : ¬ (-1 : Int) > 0 := by omega
  simp only [h1, if_false]
  by_cases h : n = 0
  · subst h; simp
  · have h2 : (n : Int) - 1 > -1 := by omega
    simp only [h2, if_true]
    have : ((n : Int) - 1 - -1 - 1) / - -1 + 1 = (n : Int) := by simp
    rw [this]
    exact Int.toNat_natCast n
theorem sliceApplied_rev {sl : Addr} {u : Tok} {n : Nat} {Q : Int × Int × Nat → Shared → Prop} (hs : s.heap.IsSliceOf sl .none .none (.int (-1) u))
    (h : Q ((n : Int) - 1, -1, n) s) : wpAny (model prog w) A (Builtin.Slice.sliceApplied (.ref sl) (pure (n : Int))) Q E s := by
  obtain ⟨os, hos, hcs, hds⟩ := id hs
  unfold Builtin.Slice.sliceApplied Builtin.Slice.sliceFields
  refine wpAny_bind (wpAny_bind (wpAny_field hos hds (x := .none) rfl (wpAny_bind (wpAny_field hos hds (x := .none) rfl (wpAny_bind (wpAny_field hos hds (x := .int (-1) u) rfl (wpAny_pure ?_)))))))
  refine wpAny_bind (slicePart_ (.int (-1) u) ?_)
  show wpAny _ _ (if ((-1 : Int) == 0) = true then _ else _) _ _ s
  rw [if_neg (by decide)]
  refine wpAny_bind (slicePart_none (wpAny_bind (slicePart_none (wpAny_bind (wpAny_pure ?_)))))
  show wpAny _ _ (match Builtin.Slice.sliceAdjust none none (-1) (n : Int) with | (lo, hi) => pure (lo, (-1 : Int), Builtin.Slice.slicePlaces lo hi (-1))) _ _ s
  rw [adjust_rev n]
  show wpAny _ _ (pure ((n : Int) - 1, (-1 : Int), Builtin.Slice.slicePlaces ((n : Int) - 1) (-1) (-1))) _ _ s
  rw [places_rev]
  exact wpAny_pure h
theorem fm_some {α β : Type} {f : α → Option β} {g : α → β} : ∀ {l : List α}, (∀ m ∈ l, f m = some (g m)) → l.filterMap f = l.map g
  | [], _ => rfl
  | a :: l, h => by
    rw [List.filterMap_cons, h a List.mem_cons_self, List.map_cons, fm_some fun m hm => h m (List.mem_cons_of_mem _ hm)]
theorem pick_rev (xs : Array Value) : ((List.range xs.size).filterMap fun (m : Nat) => xs[(((xs.size : Int) - 1) + (m : Int) * (-1)).toNat]?).toArray = xs.toList.reverse.toArray := by
  congr 1
  have e : ∀ m ∈ List.range xs.size, xs[(((xs.size : Int) - 1) + (m : Int) * (-1)).toNat]? = some (xs.toList.reverse.getD m .none) := fun m hm => by
    have hm : m < xs.size := List.mem_range.mp hm
    have h1 : (((xs.size : Int) - 1) + (m : Int) * (-1)).toNat = xs.size - 1 - m := by omega
    rw [h1, List.getD_eq_getElem?_getD, List.getElem?_reverse (by simpa using hm)]
    simp only [Array.length_toList]
    have h2 : xs.size - 1 - m < xs.size := by omega
    simp [h2]
  rw [fm_some e]
  apply List.ext_getElem
  · simp
  · intro i h1 h2
    have h3 : i < xs.toList.reverse.length := h2
    rw [List.getElem_map, List.getElem_range, List.getD_eq_getElem?_getD, List.getElem?_eq_getElem h3]
    rfl
theorem getItem_tuple_rev {t sl : Addr} {items : Array Value} {u : Tok} {Q : Value → Shared → Prop} (ht : IsTup s.heap t items) (hs : s.heap.IsSliceOf sl .none .none (.int (-1) u))
    (h : Q (.ref s.heap.objs.size) { s with heap := s.heap.push { cls := .type "tuple", data := .seq items.toList.reverse.toArray } })
    (hsz : items.size ≤ sizeLine) : wpAny (model prog w) A (getItem (.ref t) (.ref sl)) Q E s := by
  have htake : sizeOk (.seq items.toList.reverse.toArray) := by
    show items.toList.reverse.toArray.size ≤ sizeLine
    rw [List.size_toArray, List.length_reverse, Array.length_toList]
    exact hsz
  obtain ⟨os, hos, hcs, hds⟩ := id hs
  have hTs : s.TypeIs (.ref sl) "slice" := ⟨os, hos, hcs⟩
  unfold getItem
  try with_reducible refine wpAny_holding ?_
  first | refine wpAny_bind (wpAny_pure ?_) | skip
  refine wpAny_bind (wpAny_sequenceKey ht.typeIs (by decide) ?_)
  refine wpAny_bind (wpAny_callSpecial?_slot (name := Str.ofString "__getitem__") ht.typeIs PyProof.Rows.slot_tuple_getitem
    (wpAny_call_entry PyProof.Rows.slot_tuple_getitem ht.typeIs entry_tuple_getitem ?_ (args_tuple_getitem _ _)))
  show wpAny _ _ (Builtin.Tuple.tupleItemsOf (.ref t) >>= _) _ _ s
  refine wpAny_bind (tupleItemsOf_ ht ?_)
  refine wpAny_bind (wpAny_typeOf hTs ?_)
  rw [if_pos (by decide)]
  refine wpAny_bind (sliceApplied_rev hs ?_)
  have hno : ¬ ((((items.size : Int) - 1) == 0 && (-1 : Int) == 1 && items.size == items.size) = true) := by
    simp
  show wpAny _ _ (if ((((items.size : Int) - 1) == 0 && (-1 : Int) == 1 && items.size == items.size) = true) then _ else _) _ _ s
  rw [if_neg hno, pick_rev]
  first
    | exact wpAny_bind (m := Builtin.Tuple.tupleExact _) (wpAny_newObj_type (wpAny_pure ⟨_, rfl, wpAny_pure h⟩) htake)
    | exact wpAny_bind (m := Builtin.Tuple.tupleExact _) (wpAny_newObj_type (wpAny_bind (wpAny_pure (wpAny_pure ⟨_, rfl, wpAny_pure h⟩))) htake)
    | exact wpAny_bind (wpAny_bind (m := Builtin.Tuple.tupleExact _) (wpAny_newObj_type (wpAny_pure (wpAny_pure ⟨_, rfl, wpAny_pure h⟩)) htake))
    | exact wpAny_bind (wpAny_bind (m := Builtin.Tuple.tupleExact _) (wpAny_newObj_type (wpAny_pure ⟨_, rfl, wpAny_pure h⟩) htake))
end
/-! ### over the heap -/
def rRevA (K : PySem.W.Frag) (x : V) (H : Hp) (Q : VK) : Prop := ∃ a xs, x = .ref a ∧ ((SqL K H a xs ∧ ∀ p, H p = none → Q (.ref p) (upd H p (.lst xs.reverse))) ∨ (SqT K H a xs ∧ ∀ p, H p = none → Q (.ref p) (upd H p (.tup xs.reverse))))
def tRevA (K : PySem.W.Frag) (te : TE) : TE := fun σ H Q => te σ H fun x H1 => rRevA K x H1 Q
theorem pe_revA {X : Cx} {e : Expr} {te : TE} {k : Nat} {p1 p2 p3 pos : Pos} (he : PE X e te) : PE X (.Subscript e (.Slice none none (some (.UnaryOp .USub (.Constant (.int 1) k p1) p2)) p3) pos) (tRevA X.K te) := by
  refine ⟨fun pins s σ H Q I h => ?_⟩
  refine Subscript_ (thn (he.run pins s σ H _ I h) fun v s1 ⟨x, H1, I1, r1, q1⟩ => ?_)
  obtain ⟨a, xs, ex, q⟩ := q1
  subst ex
  cases r1
  have hst : PO X (some (.UnaryOp .USub (.Constant (.int 1) k p1) p2)) (tPart (tUn (rU fun i => .int (-i)) (tC (.int 1)))) := po_some (pe_un un_neg pe_int)
  refine wpAny_Slice ?_
  rw [evalPart_none]
  refine wpAny_pure ?_
  refine wpAny_pure ?_
  refine thn (hst.run pins s1 σ H1 (fun o H4 => o = some (-1) ∧ H4 = H1) I1 ⟨1, rfl, -1, rfl, rfl, rfl⟩) fun vs s4 ⟨o, H4, I4, ps, eo, e4⟩ => ?_
  subst eo e4
  obtain ⟨u, rfl⟩ : ∃ u, vs = .int (-1) u := by
    cases ps with
    | int i t => exact ⟨t, rfl⟩
  have I5 : L2.Inv X pins σ H4 { s4 with heap := s4.heap.push { cls := .type "slice", data := .fields #[.none, .none, .int (-1) u] } } := I4.kept (t' := s4.toks) fun b ob q => Heap.get?_push_of_some _ q
  show wpAny (model X.prog X.w) X.A (subscriptTail e (.Slice none none (some (.UnaryOp .USub (.Constant (.int 1) k p1) p2)) p3) (.ref a) (.ref s4.heap.objs.size)) (EP X pins σ Q) X.xe { s4 with heap := s4.heap.push { cls := .type "slice", data := .fields #[.none, .none, .int (-1) u] } }
  rcases q with ⟨hx, q⟩ | ⟨hx, q⟩
  · obtain ⟨its, r, ht, hz⟩ := I5.list hx
    have hlen := r.length
    refine tail_any (ops := [.ref a, .ref s4.heap.objs.size]) ht.isList.typeIs (PySem.slot_list_getitem.lookup) ?_ (by with_unfolding_all rfl)
    refine wpAny_getItem_list_slice ht.isList (Heap.IsSliceOf.new ..) .none .none ps (by decide) ?_ (by rw [List.size_toArray]; omega)
    rw [PySem.W.krv_pick]
    refine ⟨.ref _, _, I5.laid (t' := s4.toks) (o := .lst xs.reverse) (fun b ob q => Heap.get?_push_of_some _ q) (Nat.le_refl _) ?_, rfl, q _ (I5.hok.fresh (Nat.le_refl _))⟩
    exact ⟨by rw [List.length_reverse]; exact hz, _, 0, r.reverse, Heap.get?_push_size _ rfl⟩
  · obtain ⟨its, r, ht, hz⟩ := I5.tuple hx
    have hlen := r.length
    refine tail_any (ops := [.ref a, .ref s4.heap.objs.size]) ht.typeIs (PyProof.Rows.slot_tuple_getitem.lookup) ?_ (by with_unfolding_all rfl)
    refine getItem_tuple_rev ht (Heap.IsSliceOf.new ..) ?_ (by rw [List.size_toArray]; omega)
    refine ⟨.ref _, _, I5.laid (t' := s4.toks) (o := .tup xs.reverse) (fun b ob q => Heap.get?_push_of_some _ q) (Nat.le_refl _) ?_, rfl, q _ (I5.hok.fresh (Nat.le_refl _))⟩
    exact ⟨by rw [List.length_reverse]; exact hz, _, by simpa using r.reverse, IsTup.new _ _⟩
section
variable {X : Cx} {cl : Str → Option Value} {W : WX} {a b c : Expr} {ma mb mc : E} {pos p1 p2 p3 : Pos}
theorem se_rev {k : Nat} (ha : SB X cl W a ma) : SE X cl W (.Subscript a (.Slice none none (some (.UnaryOp .USub (.Constant (.int 1) k p1) p2)) p3) pos) (.pr .rev (.cons ma .nil)) := fun g =>
  weakE (pe_revA (ha.first g)) fun σ H Q ⟨e, as, rel, q⟩ =>
    (one_arg rel (prE q)).imp fun v H1 ⟨ds, e2, as2, rel2, b2, q2⟩ => by
      obtain ⟨A, ds, z, t, b3, e3, q3⟩ := prFin (F := prD .rev) rel2 b2 q2
      obtain ⟨x, hx, c1⟩ := one_of b3
      cases hx
      have e3 : revD [x] = some z := e3
      unfold revD at e3
      split at e3
      · rename_i xs hx
        cases hx
        cases e3
        obtain ⟨a, vs, rfl, hl, r1⟩ := c1.list
        exact ⟨_, _, rfl, .inl ⟨hl.sq, fun p n => q3 _ _ (resL n r1.rev)⟩⟩
      · rename_i xs hx
        cases hx
        cases e3
        obtain ⟨a, vs, rfl, hl, r1⟩ := c1.tuple
        exact ⟨_, _, rfl, .inr ⟨hl.sq, fun p n => q3 _ _ (resT t n r1.rev)⟩⟩
      · cases e3
end
end Vm
/-! Vm 6, list(range(n)), tuple(range(n)) -/
namespace Vm
open PySem PySem.Spec PyProof.Rows L2
section
variable {X : Cx} {cl : Str → Option Value} {W : WX} {a b c : Expr} {ma mb mc : E} {pos p1 p2 p3 : Pos}
theorem rg_rep {K : PySem.W.Frag} {A : Addr → Prop} {H : Hp} : ∀ {n : Nat}, RepL K A H (rngD 0 n) ((List.range n).map fun i => V.int (0 + (i : Nat))) := by
  intro n
  unfold rngD
  generalize List.range n = l
  induction l with
  | nil => exact .nil
  | cons x l ih => exact .cons (.int _) ih
theorem rgV_eq (n : Int) : rgV 0 n = (List.range n.toNat).map fun i => V.int (0 + (i : Nat)) := by
  unfold rgV
  rw [Int.sub_zero]
theorem lrg_some {ds : List D} {z : D × Bool} (h : lrgD ds = some z) : ∃ n : Int, ds = [.int n] ∧ RgOk 0 n ∧ z = (.list (rngD 0 n.toNat), true) := by
  unfold lrgD at h
  split at h
  · split at h
    · rename_i hz
      cases h
      exact ⟨_, rfl, ⟨by omega, by omega, by omega, by omega, by omega⟩, rfl⟩
    · cases h
  · cases h
theorem trg_some {ds : List D} {z : D × Bool} (h : trgD ds = some z) : ∃ n : Int, ds = [.int n] ∧ RgOk 0 n ∧ z = (.tuple (rngD 0 n.toNat), false) := by
  unfold trgD at h
  split at h
  · split at h
    · rename_i hz
      cases h
      exact ⟨_, rfl, ⟨by omega, by omega, by omega, by omega, by omega⟩, rfl⟩
    · cases h
  · cases h
theorem se_lrg (hc : X.calm = true) (hg : Gl X "list") (hm : X.mg "list" = none) (hg2 : Gl X "range") (hm2 : X.mg "range" = none) (ha : SB X cl W a ma) :
    SE X cl W (.Call (.Name "list" p1) [.Call (.Name "range" p2) [a] [] p3] [] pos) (.pr .lrg (.cons ma .nil)) := fun g =>
  weakE (pe_listRg hc hg hm (prg_1 hg2 hm2 (ha.first g) (star_cons ha.ns))) fun σ H Q ⟨e, as, rel, q⟩ =>
    (one_arg rel (prE q)).imp fun v H1 ⟨ds, e2, as2, rel2, b2, q2⟩ => by
      obtain ⟨A, ds, z, t, b3, e3, q3⟩ := prFin (F := prD .lrg) rel2 b2 q2
      obtain ⟨n, rfl, ok, rfl⟩ := lrg_some (show lrgD ds = some z from e3)
      obtain ⟨x, hx, c1⟩ := one_of b3
      cases hx
      refine ⟨n, c1.int, ok, fun p np => q3 _ _ ?_⟩
      rw [rgV_eq]
      exact resL np rg_rep
theorem se_trg (hc : X.calm = true) (hg : Gl X "tuple") (hm : X.mg "tuple" = none) (hg2 : Gl X "range") (hm2 : X.mg "range" = none) (ha : SB X cl W a ma) :
    SE X cl W (.Call (.Name "tuple" p1) [.Call (.Name "range" p2) [a] [] p3] [] pos) (.pr .trg (.cons ma .nil)) := fun g =>
  weakE (pe_tupRg hc hg hm (prg_1 hg2 hm2 (ha.first g) (star_cons ha.ns))) fun σ H Q ⟨e, as, rel, q⟩ =>
    (one_arg rel (prE q)).imp fun v H1 ⟨ds, e2, as2, rel2, b2, q2⟩ => by
      obtain ⟨A, ds, z, t, b3, e3, q3⟩ := prFin (F := prD .trg) rel2 b2 q2
      obtain ⟨n, rfl, ok, rfl⟩ := trg_some (show trgD ds = some z from e3)
      obtain ⟨x, hx, c1⟩ := one_of b3
      cases hx
      refine ⟨n, c1.int, ok, fun p np => q3 _ _ ?_⟩
      rw [rgV_eq]
      exact resT t np rg_rep
end
end Vm
/-! Vm 7: calls -/
namespace Vm
open PySem PySem.Spec PyProof.Rows L2

/-! ### what a def promises -/
/-- the handed in values and what they tell; true: a list that may be changed -/
inductive Args (K : PySem.W.Frag) (B : Addr → Prop) (H : Hp) : List Bool → List D → List V → Prop
  | nil : Args K B H [] [] []
  | val {bs ds vs d v} : Rep K B H d v → Args K B H bs ds vs → Args K B H (false :: bs) (d :: ds) (v :: vs)
  | io {bs ds vs d a} : B a → Own K B H a d → Args K B H bs ds vs → Args K B H (true :: bs) (d :: ds) (.ref a :: vs)
/-- the addresses of those that may be changed -/
def ioV : List Bool → List V → List Addr
  | true :: bs, .ref a :: vs => a :: ioV bs vs
  | _ :: bs, _ :: vs => ioV bs vs
  | _, _ => []
/-- the heap behind a call: T tells the new list that is handed back -/
structure Done (K : PySem.W.Frag) (B T : Addr → Prop) (H : Hp) (ios : List Addr) (os : List D) (H' : Hp) : Prop where
  keep : ∀ b o, H b = some o → b ∉ ios → H' b = some o
  outs : Paired (fun a d => Own K (fun b => B b ∨ T b) H' a d) ios os
def Back (K : PySem.W.Frag) (B : Addr → Prop) (H : Hp) (ios : List Addr) (os : List D) (f : Bool) (d : D) (v : V) (H' : Hp) : Prop := match f with
  | false => Done K B (fun _ => False) H ios os H' ∧ Rep K B H' d v
  | true => ∃ a, v = .ref a ∧ H a = none ∧ Done K B (fun b => b = a) H ios os H' ∧ Own K (fun b => B b ∨ b = a) H' a d
def SpM (K : PySem.W.Frag) (cl : Str → Option Value) (m : Fm) (vs : List V) (H : Hp) (Q : VK) (E : XK) : Prop :=
  ∃ (B : Addr → Prop) (ds : List D), Trk B H ∧ Args K B H m.io ds vs ∧ (ioV m.io vs).Nodup ∧ match m.run ds with
    | .ok d f os => ∀ v H', Back K B H (ioV m.io vs) os f d v H' → Q v H'
    | .exn x os => ∀ cls dd H', Done K B (fun _ => False) H (ioV m.io vs) os H' → XR cl x cls dd H' → E cls dd H'
    | .bad => False
structure FnV (P : Program) (w : World) (K : PySem.W.Frag) (mg : Str → Option Value) (base : Heap) (cl : Str → Option Value) (k : Nat) (f : Addr) (fd : FuncData) (ps : List Str) (m : Fm) : Prop where
  len : m.io.length = ps.length
  run : ∀ (A : Around) (outer : List Env) (s : Shared) (H : Hp) (args : PySem.Args) (us : List Value) (vs : List V) (Q : VK) (E : XK), Room k A → A.guards = some [] → Env0 P w K mg base A outer s H → BindsTo s fd args (ps.zip us) → Vals vs us → SpM K cl m vs H Q E →
    codeAny (model P w) A (.call (.ref f) args) (CR (L2.CX P w) outer P w H s Q E) s
theorem Args.length {K B H} {bs : List Bool} {ds : List D} {vs : List V} (h : Args K B H bs ds vs) : vs.length = bs.length := by
  induction h with
  | nil => rfl
  | val _ _ ih => exact congrArg Nat.succ ih
  | io _ _ _ ih => exact congrArg Nat.succ ih
theorem FnV.mono {P w K mg base cl j k f fd ps m} (F : FnV P w K mg base cl j f fd ps m) (h : j ≤ k) : FnV P w K mg base cl k f fd ps m :=
  ⟨F.len, fun A outer s H args us vs Q E hr => F.run A outer s H args us vs Q E (hr.mono h)⟩
/-- what a caller knows of a def by its name -/
structure FnK (P : Program) (w : World) (K : PySem.W.Frag) (mg : Str → Option Value) (base : Heap) (cl : Str → Option Value) (k : Nat) (x : Str) (m : Fm) : Prop where
  ex : ∃ (f : Addr) (fd : FuncData) (ps : List Str), FnV P w K mg base cl k f fd ps m ∧ mg x = some (.ref f) ∧ PySem.W.keepIn K (.ref f) = true ∧ Binds K fd ps []

section
variable {X : Cx} {cl : Str → Option Value} {W : WX} {k : Nat} {m : Fm} {x : Str} {a : Expr} {es : List Expr} {p pos : Pos} {t : TA}
theorem pe_callV (F : FnK X.prog X.w X.K X.mg X.base cl k x m) (hr : Room k X.A) (gd : X.A.guards = some []) (hg : Gl X x) (tk : Takes X W) (ha : PA X (a :: es) t) (hdb : (x == ("__debug__" : Str)) = false)
    (he : starEach (a :: es) X.env = (false, eval a X.env) :: starEach es X.env) (hpl : (backTo pos (starEach es X.env)).any (·.1) = false) :
    PE X (.Call (.Name x p) (a :: es) [] pos) (fun σ H Q => t σ H fun vs H1 => SpM X.K cl m vs H1 Q fun cls d H' => W cls d σ H') := by
  obtain ⟨f, fd, ps, F, hm, hk, hb⟩ := F.ex
  constructor
  intro pins s σ H Q I h
  refine wpAny_Call_Name_kw (ld_glob I hg hm ?_ hdb)
  refine PySem.W.callWith_K (h₀ := X.base) I.ok.mod.kin hk (thn (ha.run pos pins s σ H _ I h) fun us s1 z => ?_) he hpl
  obtain ⟨vs, H1, I1, r, q⟩ := z
  refine ⟨I1.kIn, ?_⟩
  have hl : us.length = ps.length := by
    obtain ⟨B, ds, _, ar, _⟩ := id q
    rw [← r.length, ar.length, F.len]
  have bd := hb s1 us I1.kIn (by rw [List.append_nil]; exact hl)
  rw [List.append_nil] at bd
  refine wpAny_call (codeAny_mono (F.run X.A X.stack s1 H1 ⟨us, []⟩ us vs Q _ hr gd I1.env0 bd r q) fun r s' hq => ?_)
  cases r with
  | error e => exact tk e s' (XE.of_call I1 (fun _ _ _ h => h) hq)
  | ok fl =>
    cases fl with
    | ret u => exact I1.after hq
    | next => exact False.elim hq
    | brk => exact False.elim hq
    | cont => exact False.elim hq

/-! ### the arguments of a call -/
/-- as Args, the changeable ones by their slots -/
inductive ArgS (K : PySem.W.Frag) (A : Addr → Prop) (as : Nat → Option Addr) (H : Hp) : List Bool → E → List D → List V → Prop
  | nil : ArgS K A as H [] .nil [] []
  | val {bs ds vs d v r m} : Rep K A H d v → ArgS K A as H bs r ds vs → ArgS K A as H (false :: bs) (.cons m r) (d :: ds) (v :: vs)
  | io {bs ds vs d a i r} : as i = some a → Own K A H a d → ArgS K A as H bs r ds vs → ArgS K A as H (true :: bs) (.cons (.var i) r) (d :: ds) (.ref a :: vs)
def VC (K : PySem.W.Frag) (g : Gh) (bs : List Bool) (r : E) (ds : List D) (e : En) (as : Nat → Option Addr) (H : Hp) (vs : List V) : Prop := ArgS K (g.av as) as H bs r ds vs
theorem canLk_at {K : PySem.W.Frag} {g : Gh} {e : En} {as : Nat → Option Addr} {σ : L2.St} {H : Hp} (h : Rel K g e as σ H) {i : Nat} (c : canLk e i = true) : ∃ a d, as i = some a ∧ σ[i]? = some (some (.ref a)) ∧ rdS e i = some d ∧ Own K (g.av as) H a d := by
  unfold canLk at c
  cases hs : e[i]? with
  | none => rw [hs] at c; cases c
  | some s =>
    rw [hs] at c
    have hi : i < e.length := (List.getElem?_eq_some_iff.mp hs).1
    have hiσ : i < σ.length := by rw [h.len]; exact hi
    have r := h.sl i s hs
    have jn : ∀ v, σ[i]?.join = some v → σ[i]? = some (some v) := fun v z => by
      rw [List.getElem?_eq_getElem hiσ] at z ⊢
      exact congrArg some (by simpa using z)
    generalize hx : σ[i]?.join = x at r
    generalize ho : as i = o at r
    cases r with
    | un => cases c
    | im r => cases c
    | ow r => exact ⟨_, _, rfl, jn _ hx, by unfold rdS; rw [hs], r⟩
    | io r => exact ⟨_, _, rfl, jn _ hx, by unfold rdS; rw [hs], r⟩
    | lk r => cases c
theorem Row.paC {es : List Expr} {r : E} (h : Row X cl W es r) : ∀ bs g, PA X es (TR X.K g cl W (fun _ => VC X.K g bs r) (evC r bs)) := by
  induction h with
  | nil =>
    intro bs g
    refine weakA pa_nil fun σ H Q ⟨e, as, rel, h⟩ => ?_
    cases bs with
    | nil =>
      simp only [evC] at h
      exact h [] H as rel Stp.refl .nil
    | cons b bs =>
      simp only [evC] at h
      exact h.elim
  | @cons a es m r h _ ih =>
    intro bs g
    cases bs with
    | nil =>
      refine ⟨fun pos pins s σ H Q I ⟨e, as, rel, q⟩ => ?_⟩
      have q' : Post X.K g cl W (VC X.K g [] (E.cons m r)) Q as σ H (evC (.cons m r) [] e) := q
      simp only [evC] at q'
      exact q'.elim
    | cons b bs =>
      cases b with
      | false =>
        refine weakA (pa_cons (h.se g) (ih bs g) (star_cons h.ns)) fun σ H Q ⟨e, as, rel, q⟩ => ?_
        have q' : Post X.K g cl W (VC X.K g (false :: bs) (E.cons m r)) Q as σ H ((evE m e).bind fun x e => (evC r bs e).bind fun xs e => .ok (x.1 :: xs) e) := by
          have q2 : Post X.K g cl W (VC X.K g (false :: bs) (E.cons m r)) Q as σ H (evC (.cons m r) (false :: bs) e) := q
          simpa only [evC] using q2
        refine ⟨e, as, rel, Post.bind q' fun x e1 v H1 as1 rel1 st1 rv q1 => ⟨e1, as1, rel1, Post.bind q1 fun xs e2 vs H2 as2 rel2 st2 rl q2 => ?_⟩⟩
        exact q2 _ _ _ rel2 Stp.refl (.val ((show RV X.K g x.2 e1 as1 σ H1 x.1 v from rv).rep.mono st2.kp) rl)
      | true =>
        by_cases hv : ∃ i, m = .var i
        · obtain ⟨i, rfl⟩ := hv
          refine weakA (pa_cons (h.var i rfl) (ih bs g) (star_cons h.ns)) fun σ H Q ⟨e, as, rel, q⟩ => ?_
          have q' : Post X.K g cl W (VC X.K g (true :: bs) (E.cons (.var i) r)) Q as σ H (evC (.cons (.var i) r) (true :: bs) e) := q
          simp only [evC] at q'
          split at q'
          · rename_i hc
            obtain ⟨a, d, ha, hσ, _, _⟩ := canLk_at rel hc
            refine ⟨_, hσ, e, as, rel, Post.bind q' fun xs e2 vs H2 as2 rel2 st2 rl q2 => ?_⟩
            split at q2
            · rename_i hc2
              obtain ⟨a2, d2, ha2, hσ2, hd2, ow2⟩ := canLk_at rel2 hc2
              rw [hσ] at hσ2
              cases hσ2
              rw [hd2] at q2
              exact q2 _ _ _ rel2 Stp.refl (.io ha2 ow2 rl)
            · exact q2.elim
          · exact q'.elim
        · refine ⟨fun pos pins s σ H Q I ⟨e, as, rel, q⟩ => ?_⟩
          have q' : Post X.K g cl W (VC X.K g (true :: bs) (E.cons m r)) Q as σ H (evC (.cons m r) (true :: bs) e) := q
          cases m with
          | var i => exact absurd ⟨i, rfl⟩ hv
          | _ =>
            simp only [evC] at q'
            exact q'.elim
/-! ### the state behind a call -/
theorem ArgS.args {K A as H bs r ds vs} (h : ArgS K A as H bs r ds vs) (hA : ∀ i a, as i = some a → A a) : Args K A H bs ds vs := by
  induction h with
  | nil => exact .nil
  | val r _ ih => exact .val r ih
  | io ha o _ ih => exact .io (hA _ _ ha) o ih
theorem ArgS.idx {K A as H bs r ds vs} (h : ArgS K A as H bs r ds vs) : Paired (fun i a => as i = some a) (ioIx r bs) (ioV bs vs) := by
  induction h with
  | nil => exact .nil
  | @val bs ds vs d v r m q _ ih =>
    have e : ioIx (.cons m r) (false :: bs) = ioIx r bs := by cases m <;> rfl
    rw [e]
    exact ih
  | io ha o _ ih => exact .cons ha ih
theorem ArgS.nodup {K A as H bs r ds vs} (h : ArgS K A as H bs r ds vs) (inj : ∀ i j a, as i = some a → as j = some a → i = j) (n : (ioIx r bs).Nodup) : (ioV bs vs).Nodup := by
  have p := h.idx
  generalize ioIx r bs = is at p n
  generalize ioV bs vs = ios at p
  clear h
  induction p with
  | nil => exact .nil
  | @cons i a is ios ha p ih =>
    obtain ⟨n1, n2⟩ := List.nodup_cons.mp n
    refine List.nodup_cons.mpr ⟨fun z => n1 ?_, ih n2⟩
    clear ih n n2
    induction p with
    | nil => cases z
    | @cons j b is ios hb p ih =>
      rcases List.mem_cons.mp z with e | z
      · subst e
        rw [inj i j a ha hb]
        exact List.mem_cons_self
      · exact List.mem_cons_of_mem _ (ih (fun q => n1 (List.mem_cons_of_mem _ q)) z)
end
end Vm
/-! Vm 8: the state behind a call; calls, methods of lists -/
namespace Vm
open PySem PySem.Spec PyProof.Rows L2

theorem wb_len : ∀ {is : List Nat} {os : List D} {e e' : En}, wb e is os = some e' → e'.length = e.length
  | [], [], _, _, h => by cases h; rfl
  | [], _ :: _, _, _, h => by cases h
  | _ :: _, [], _, _, h => by cases h
  | i :: is, d :: os, e, e', h => by
    unfold wb at h
    split at h
    · rw [wb_len h, List.length_set]
    · rw [wb_len h, List.length_set]
    · cases h
theorem wb_out : ∀ {is : List Nat} {os : List D} {e e' : En} {i : Nat}, wb e is os = some e' → i ∉ is → e'[i]? = e[i]?
  | [], [], _, _, _, h, _ => by cases h; rfl
  | [], _ :: _, _, _, _, h, _ => by cases h
  | _ :: _, [], _, _, _, h, _ => by cases h
  | j :: is, d :: os, e, e', i, h, n => by
    have n1 : j ≠ i := fun z => n (by rw [z]; exact List.mem_cons_self)
    have n2 : i ∉ is := fun z => n (List.mem_cons_of_mem _ z)
    unfold wb at h
    split at h
    · rw [wb_out h n2, List.getElem?_set_ne n1]
    · rw [wb_out h n2, List.getElem?_set_ne n1]
    · cases h
/-- what a slot holds is exchanged -/
def SlX (s : Slot) (d : D) (s' : Slot) : Prop := (∃ d0, s = .ow d0 ∧ s' = .ow d) ∨ (∃ d0, s = .io d0 ∧ s' = .io d)
theorem wb_in : ∀ {is : List Nat} {os : List D} {e e' : En} {ios : List Addr} {P : Addr → D → Prop} {R : Nat → Addr → Prop}, wb e is os = some e' → is.Nodup → Paired R is ios → Paired P ios os → ∀ i ∈ is, ∃ a d s s', R i a ∧ P a d ∧ e[i]? = some s ∧ e'[i]? = some s' ∧ SlX s d s'
  | [], _, _, _, _, _, _, _, _, _, _, i, hi => by cases hi
  | j :: is, os, e, e', ios, P, R, h, n, p1, p2, i, hi => by
    obtain ⟨n1, n2⟩ := List.nodup_cons.mp n
    obtain ⟨a, ios, rfl, r1, p1⟩ : ∃ a r, ios = a :: r ∧ R j a ∧ Paired R is r := by
      cases p1 with
      | cons r1 p1 => exact ⟨_, _, rfl, r1, p1⟩
    obtain ⟨d, os, rfl, r2, p2⟩ : ∃ d r, os = d :: r ∧ P a d ∧ Paired P ios r := by
      cases p2 with
      | cons r1 p1 => exact ⟨_, _, rfl, r1, p1⟩
    unfold wb at h
    rcases List.mem_cons.mp hi with rfl | hi
    · split at h
      · rename_i d0 hs
        have hl : i < e.length := (List.getElem?_eq_some_iff.mp hs).1
        exact ⟨a, d, _, _, r1, r2, hs, (wb_out h n1).trans (List.getElem?_set_self hl), .inl ⟨_, rfl, rfl⟩⟩
      · rename_i d0 hs
        have hl : i < e.length := (List.getElem?_eq_some_iff.mp hs).1
        exact ⟨a, d, _, _, r1, r2, hs, (wb_out h n1).trans (List.getElem?_set_self hl), .inr ⟨_, rfl, rfl⟩⟩
      · cases h
    · have hne : j ≠ i := fun z => n1 (by rw [z]; exact hi)
      split at h
      · obtain ⟨a, d, s, s', q1, q2, q3, q4, q5⟩ := wb_in h n2 p1 p2 i hi
        exact ⟨a, d, s, s', q1, q2, by rw [List.getElem?_set_ne hne] at q3; exact q3, q4, q5⟩
      · obtain ⟨a, d, s, s', q1, q2, q3, q4, q5⟩ := wb_in h n2 p1 p2 i hi
        exact ⟨a, d, s, s', q1, q2, by rw [List.getElem?_set_ne hne] at q3; exact q3, q4, q5⟩
      · cases h
theorem SlX.io {s s' : Slot} {d : D} (h : SlX s d s') : s'.isIo = s.isIo := by
  rcases h with ⟨_, rfl, rfl⟩ | ⟨_, rfl, rfl⟩ <;> rfl
theorem SlX.nlk {s s' : Slot} {d : D} (h : SlX s d s') : ∀ f x, s ≠ .lk f x := by
  rcases h with ⟨_, rfl, rfl⟩ | ⟨_, rfl, rfl⟩ <;> exact fun _ _ z => by cases z
theorem paired_mem {α β : Type} {R : α → β → Prop} {l : List α} {m : List β} (h : Paired R l m) : ∀ b ∈ m, ∃ a ∈ l, R a b := by
  induction h with
  | nil => intro b hb; cases hb
  | cons r _ ih =>
    intro b hb
    rcases List.mem_cons.mp hb with rfl | hb
    · exact ⟨_, List.mem_cons_self, r⟩
    · obtain ⟨a, ha, r⟩ := ih b hb
      exact ⟨a, List.mem_cons_of_mem _ ha, r⟩
section
variable {K : PySem.W.Frag} {g : Gh} {e e' : En} {as : Nat → Option Addr} {σ : L2.St} {H H' : Hp}
theorem Rel.done (h : Rel K g e as σ H) {is : List Nat} {ios : List Addr} {os : List D} {T : Addr → Prop} (pi : Paired (fun i a => as i = some a) is ios) (nd : is.Nodup) (keep : ∀ b o, H b = some o → b ∉ ios → H' b = some o)
    (hT : ∀ b, T b → H b = none ∧ ∃ o, H' b = some o) (outs : Paired (fun a d => Own K (fun b => g.av as b ∨ T b) H' a d) ios os) (hw : wb e is os = some e') : Rel K { g with T := fun b => g.T b ∨ T b } e' as σ H' := by
  have memA : ∀ b ∈ ios, ∃ i ∈ is, as i = some b := paired_mem pi
  have av : ∀ b, Gh.av { g with T := fun b => g.T b ∨ T b } as b → g.av as b ∨ T b := fun b z => by
    rcases z with z | (z | z) | z
    · exact .inl (.inl z)
    · exact .inl (.inr (.inl z))
    · exact .inr z
    · exact .inl (.inr (.inr z))
  have kp : Kp (g.av as) (Gh.av { g with T := fun b => g.T b ∨ T b } as) H H' := ⟨fun b o z n => keep b o z fun m => by
    obtain ⟨i, _, q⟩ := memA b m
    exact n (.inr (.inr ⟨i, q⟩)), fun b o z w => by
    rcases av b w with w | w
    · exact w
    · rw [(hT b w).1] at z
      cases z⟩
  have far : ∀ i a, as i = some a → i ∉ is → a ∉ ios := fun i a q n m => by
    obtain ⟨j, hj, q2⟩ := memA a m
    exact n (by rw [h.inj i j a q q2]; exact hj)
  have wi := wb_in hw nd pi outs
  refine ⟨by rw [wb_len hw]; exact h.len, fun i s q => ?_, fun i q => h.out i (by rw [wb_len hw] at q; exact q), h.inj, fun i s a q w => ?_, fun p hp => ?_, fun b o q w => ?_, fun p hp => ?_, h.trB, fun b q => ?_, fun b o q => ⟨keep b o (h.fz b o q).1 fun m => ?_, fun z => ?_⟩⟩
  · by_cases hi : i ∈ is
    · obtain ⟨a, d, s0, s', q1, q2, q3, q4, q5⟩ := wi i hi
      rw [q] at q4
      cases q4
      have r := h.sl i s0 q3
      rw [q1] at r ⊢
      obtain ⟨_, _, hx⟩ := r.addr
      rw [hx]
      have ow : Own K (Gh.av { g with T := fun b => g.T b ∨ T b } as) H' a d := q2.mono ⟨fun _ _ z _ => z, fun b _ _ w => av b w⟩ fun _ z => z
      rcases q5 with ⟨_, _, rfl⟩ | ⟨_, _, rfl⟩
      · exact .ow ow
      · exact .io ow
    · rw [wb_out hw hi] at q
      exact (h.sl i s q).mono kp fun a vs z w => keep a _ w (far i a z hi)
  · by_cases hi : i ∈ is
    · obtain ⟨a, d, s0, s', q1, q2, q3, q4, q5⟩ := wi i hi
      rw [q] at q4
      cases q4
      rw [q5.io]
      exact h.own i s0 _ q3 w
    · rw [wb_out hw hi] at q
      exact h.own i s a q w
  · obtain ⟨h1, s, h2, h3⟩ := h.iok p hp
    refine ⟨h1, ?_⟩
    by_cases hi : p.1 ∈ is
    · obtain ⟨a, d, s0, s', q1, q2, q3, q4, q5⟩ := wi p.1 hi
      rw [h2] at q3
      cases q3
      exact ⟨s', q4, by rw [q5.io]; exact h3⟩
    · exact ⟨s, by rw [wb_out hw hi]; exact h2, h3⟩
  · refine keep b o (h.keep b o q w) fun m => ?_
    obtain ⟨i, hi, q2⟩ := memA b m
    obtain ⟨a, d, s0, s', q1, _, q3, _, _⟩ := wi i hi
    rw [q2] at q1
    cases q1
    rcases h.own i s0 b q3 q2 with ⟨_, m⟩ | ⟨_, m⟩
    · exact w _ m rfl
    · rw [m] at q
      cases q
  · obtain ⟨h1, f, h2⟩ := h.lks p hp
    refine ⟨h1, f, ?_⟩
    by_cases hi : p.1 ∈ is
    · obtain ⟨a, d, s0, s', q1, q2, q3, q4, q5⟩ := wi p.1 hi
      rw [h2] at q3
      cases q3
      exact absurd rfl (q5.nlk f _)
    · rw [wb_out hw hi]
      exact h2
  · rcases q with q | q
    · obtain ⟨⟨o, r1⟩, r2, r3⟩ := h.trT b q
      refine ⟨⟨o, keep b o r1 fun m => ?_⟩, r2, r3⟩
      obtain ⟨i, _, q2⟩ := memA b m
      exact r2 i q2
    · obtain ⟨n, o⟩ := hT b q
      exact ⟨o, fun i z => h.newA n (.inr (.inr ⟨i, z⟩)), h.new0 n⟩
  · obtain ⟨i, _, q2⟩ := memA b m
    exact (h.fz b o q).2 (.inr (.inr ⟨i, q2⟩))
  · rcases av b z with w | w
    · exact (h.fz b o q).2 w
    · have := (h.fz b o q).1
      rw [(hT b w).1] at this
      cases this
theorem Stp.done {is : List Nat} {ios : List Addr} (h : Rel K g e as σ H) (pi : Paired (fun i a => as i = some a) is ios) (keep : ∀ b o, H b = some o → b ∉ ios → H' b = some o) {P : Addr → D → Prop} {os : List D} (outs : Paired P ios os) (hp : ∀ a d, P a d → ∃ o, H' a = some o) : Stp as as H H' := by
  have memA : ∀ b ∈ ios, ∃ i ∈ is, as i = some b := paired_mem pi
  refine ⟨fun b o z n => keep b o z fun m => ?_, fun i _ z => .inl ⟨i, z⟩, fun b o z => ?_⟩
  · obtain ⟨i, _, q⟩ := memA b m
    exact n i q
  · by_cases m : b ∈ ios
    · have : ∀ {ios : List Addr} {os : List D}, Paired P ios os → b ∈ ios → ∃ o, H' b = some o := by
        intro ios os pp
        induction pp with
        | nil => intro m; cases m
        | cons r _ ih =>
          intro m
          rcases List.mem_cons.mp m with rfl | m
          · exact hp _ _ r
          · exact ih m
      exact this outs m
    · exact ⟨o, keep b o z m⟩
end
section
variable {X : Cx} {cl : Str → Option Value} {W : WX} {k : Nat} {m : Fm} {x : Str} {a : Expr} {es : List Expr} {p pos : Pos} {t : TA} {ma r : E}
theorem Own.there {K A H a d} (h : Own K A H a d) : ∃ o, H a = some o := by
  obtain ⟨_, vs, _, e, _⟩ := h
  exact ⟨_, e⟩
theorem paired_imp {α β : Type} {R S : α → β → Prop} {l : List α} {m : List β} (h : Paired R l m) (k : ∀ a b, R a b → S a b) : Paired S l m := by
  induction h with
  | nil => exact .nil
  | cons r _ ih => exact .cons (k _ _ r) ih
/-- f(a, ..) -/
theorem se_call (F : FnK X.prog X.w X.K X.mg X.base cl k x m) (hr : Room k X.A) (gd : X.A.guards = some []) (hg : Gl X x) (tk : Takes X W) (hdb : (x == ("__debug__" : Str)) = false) (h : Row X cl W (a :: es) (.cons ma r)) :
    SE X cl W (.Call (.Name x p) (a :: es) [] pos) (.call m (.cons ma r)) := fun g => by
  cases h with
  | cons h1 h2 =>
    refine weakE (pe_callV F hr gd hg tk ((Row.cons h1 h2).paC m.io g) hdb (star_cons h1.ns) h2.plain) fun σ H Q ⟨e, as, rel, q⟩ => ?_
    have q' : Post X.K g cl W (VE X.K g σ) Q as σ H (evE (.call m (.cons ma r)) e) := q
    simp only [evE] at q'
    refine ⟨e, as, rel, Post.bind q' fun ds e1 vs H1 as1 rel1 st1 ar q1 => ?_⟩
    have ar : ArgS X.K (g.av as1) as1 H1 m.io (.cons ma r) ds vs := ar
    split at q1
    · rename_i nd
      refine ⟨g.av as1, ds, rel1.trk, ar.args fun i a z => .inr (.inr ⟨i, z⟩), ar.nodup rel1.inj nd, ?_⟩
      cases hm : m.run ds with
      | bad => rw [hm] at q1; exact q1
      | exn y os =>
        rw [hm] at q1
        intro cls dd H2 dn xr
        cases hw : wb e1 (ioIx (.cons ma r) m.io) os with
        | none =>
          dsimp only at q1
          rw [hw] at q1
          exact q1.elim
        | some e2 =>
          dsimp only at q1
          rw [hw] at q1
          have dn : Done X.K (g.av as1) (fun _ => False) H1 (ioV m.io vs) os H2 := dn
          have rel2 := rel1.done (T := fun _ => False) ar.idx nd dn.keep (fun _ z => z.elim) dn.outs hw
          have rel3 : Rel X.K g e2 as1 σ H2 := by
            have eg : ({ g with T := fun b => g.T b ∨ False } : Gh) = g := by
              cases g
              simp
            rw [eg] at rel2
            exact rel2
          exact q1 cls dd H2 as1 rel3 (Stp.done rel1 ar.idx dn.keep dn.outs fun _ _ o => o.there) xr
      | ok d f os =>
        rw [hm] at q1
        intro v H2 bk
        cases hw : wb e1 (ioIx (.cons ma r) m.io) os with
        | none =>
          dsimp only at q1
          rw [hw] at q1
          exact q1.elim
        | some e2 =>
          dsimp only at q1
          rw [hw] at q1
          cases f with
          | false =>
            obtain ⟨dn, rp⟩ := (show Done X.K (g.av as1) (fun _ => False) H1 (ioV m.io vs) os H2 ∧ Rep X.K (g.av as1) H2 d v from bk)
            have rel2 := rel1.done (T := fun _ => False) ar.idx nd dn.keep (fun _ z => z.elim) dn.outs hw
            have rel3 : Rel X.K g e2 as1 σ H2 := by
              have eg : ({ g with T := fun b => g.T b ∨ False } : Gh) = g := by
                cases g
                simp
              rw [eg] at rel2
              exact rel2
            exact q1 v H2 as1 rel3 (Stp.done rel1 ar.idx dn.keep dn.outs fun _ _ o => o.there) rp
          | true =>
            obtain ⟨b, rfl, hn, dn, ow⟩ := (show ∃ b, v = .ref b ∧ H1 b = none ∧ Done X.K (g.av as1) (fun c => c = b) H1 (ioV m.io vs) os H2 ∧ Own X.K (fun c => g.av as1 c ∨ c = b) H2 b d from bk)
            have rel2 : Rel X.K (g.plus b) e2 as1 σ H2 := rel1.done (T := fun c => c = b) ar.idx nd dn.keep (fun c z => by rw [z]; exact ⟨hn, ow.there⟩) dn.outs hw
            refine q1 (.ref b) H2 as1 rel2.minus (Stp.done rel1 ar.idx dn.keep dn.outs fun _ _ o => o.there) ⟨b, rfl, fun z => rel1.newA hn (.inr (.inl z)), rel2, ow.mono ⟨fun _ _ z _ => z, fun c _ _ z => ?_⟩ fun _ z => z⟩
            rcases z with z | (z | z) | z
            · exact .inl (.inl z)
            · exact .inl (.inr (.inl z))
            · exact .inr z
            · exact .inl (.inr (.inr z))
    · exact q1.elim
/-- behind a call that was handed a list that nobody else has -/
theorem Rel.tmp {K : PySem.W.Frag} {g : Gh} {e : En} {as : Nat → Option Addr} {σ : L2.St} {H H' : Hp} {q : Addr} {T : Addr → Prop} (h : Rel K (g.plus q) e as σ H) (keep : ∀ b o, H b = some o → b ≠ q → H' b = some o) (hq : ∃ o, H' q = some o) (hT : ∀ b, T b → H b = none ∧ ∃ o, H' b = some o) :
    Rel K { g.plus q with T := fun b => (g.T b ∨ b = q) ∨ T b } e as σ H' := by
  have tq := h.trT q (.inr rfl)
  have av : ∀ b, Gh.av { g.plus q with T := fun b => (g.T b ∨ b = q) ∨ T b } as b → (g.plus q).av as b ∨ T b := fun b z => by
    rcases z with z | (z | z) | z
    · exact .inl (.inl z)
    · exact .inl (.inr (.inl z))
    · exact .inr z
    · exact .inl (.inr (.inr z))
  have kp : Kp ((g.plus q).av as) (Gh.av { g.plus q with T := fun b => (g.T b ∨ b = q) ∨ T b } as) H H' := ⟨fun b o z n => keep b o z fun y => n (by rw [y]; exact .inr (.inl (.inr rfl))), fun b o z w => (av b w).elim id fun w => by
    rw [(hT b w).1] at z
    cases z⟩
  refine ⟨h.len, fun i s z => (h.sl i s z).mono kp fun a vs w y => keep a _ y fun u => tq.2.1 i (by rw [← u]; exact w), h.out, h.inj, h.own, h.iok, fun b o z w => keep b o (h.keep b o z w) fun y => ?_, h.lks, h.trB, fun b z => ?_, fun b o z => ⟨keep b o (h.fz b o z).1 fun y => (h.fz b o z).2 (by rw [y]; exact .inr (.inl (.inr rfl))), fun w => ?_⟩⟩
  · have : g.H0 b = some o := z
    rw [y, show g.H0 q = none from tq.2.2] at this
    cases this
  · rcases z with z | z
    · by_cases hb : b = q
      · subst hb
        exact ⟨hq, tq.2⟩
      · obtain ⟨⟨o, r1⟩, r2⟩ := h.trT b z
        exact ⟨⟨o, keep b o r1 hb⟩, r2⟩
    · obtain ⟨n, o⟩ := hT b z
      exact ⟨o, fun i w => h.newA n (.inr (.inr ⟨i, w⟩)), h.new0 n⟩
  · rcases av b w with w | w
    · exact (h.fz b o z).2 w
    · have := (h.fz b o z).1
      rw [(hT b w).1] at this
      cases this
theorem kp_drop {K : PySem.W.Frag} {A A' : Addr → Prop} {H : Hp} (h : ∀ b, A' b → A b) : Kp A A' H H := ⟨fun _ _ z _ => z, fun b _ _ z => h b z⟩
end
end Vm
/-! Vm 9: statements -/
namespace Vm
open PySem PySem.Spec PyProof.Rows L2

/-! ### a value is stored -/
section
variable {K : PySem.W.Frag} {g : Gh} {e e' : En} {as as' : Nat → Option Addr} {σ : L2.St} {H H' : Hp}
/-- a datum into a slot -/
theorem Rel.putIm (h : Rel K g e as σ H) {i : Nat} {s : Slot} {d : D} {v : V} (hs : e[i]? = some s) (n : s.isIo = false) (nl : ∀ f d, s ≠ .lk f d) (r : Rep K (g.av as) H d v) :
    Rel K g (e.set i (.im d)) (setA as i none) (σ.set i (some v)) H :=
  h.put rfl rfl rfl rfl (fun b z => ⟨z, by simp⟩) (fun a z => by cases z) hs n nl rfl (.im r)
/-- a list that waited, into a slot -/
theorem Rel.putOw {a : Addr} (h : Rel K (g.plus a) e as σ H) (nT : ¬ g.T a) {i : Nat} {s : Slot} {d : D} (hs : e[i]? = some s) (n : s.isIo = false) (nl : ∀ f d, s ≠ .lk f d) (r : Own K ((g.plus a).av as) H a d) :
    Rel K g (e.set i (.ow d)) (setA as i (some a)) (σ.set i (some (.ref a))) H :=
  h.put rfl rfl rfl rfl (fun b z => ⟨.inl z, fun q => by cases q; exact nT z⟩) (fun b z => by cases z; exact .inr rfl) hs n nl rfl (.ow r)
theorem stS_slot {e e' : En} {i : Nat} {d : D} {f : Bool} (h : stS e i d f = some e') : ∃ s, e[i]? = some s ∧ s.isIo = false ∧ (∀ f d, s ≠ .lk f d) ∧ e' = e.set i (if f then .ow d else .im d) := by
  unfold stS at h
  split at h
  · rename_i hs; cases h; exact ⟨_, hs, rfl, (fun _ _ z => by cases z), rfl⟩
  · rename_i hs; cases h; exact ⟨_, hs, rfl, (fun _ _ z => by cases z), rfl⟩
  · rename_i hs; cases h; exact ⟨_, hs, rfl, (fun _ _ z => by cases z), rfl⟩
  · cases h
/-- stored as it is told -/
theorem Rel.store' {f : Bool} {i : Nat} {d : D} {v : V} (h : Rel K g e as σ H) (rv : RV K g f e as σ H d v) (hs : stS e i d f = some e') : ∃ as', Rel K g e' as' (σ.set i (some v)) H := by
  obtain ⟨s, h1, h2, h3, rfl⟩ := stS_slot hs
  cases f with
  | false => exact ⟨_, h.putIm h1 h2 h3 rv⟩
  | true =>
    obtain ⟨a, rfl, nT, hp, ow⟩ := rv
    exact ⟨_, hp.putOw nT h1 h2 h3 ow⟩
open Classical in
/-- the data of now are held -/
noncomputable def Gh.hold (g : Gh) (as : Nat → Option Addr) (H : Hp) : Gh := { g with Z := fun b => if g.av as b then none else H b }
open Classical in
theorem Rel.hold (h : Rel K g e as σ H) : Rel K (g.hold as H) e as σ H :=
  ⟨h.len, h.sl, h.out, h.inj, h.own, h.iok, h.keep, h.lks, h.trB, h.trT, fun b o q => by
    have q : (if g.av as b then none else H b) = some o := q
    split at q
    · cases q
    · rename_i n
      exact ⟨q, n⟩⟩
open Classical in
theorem hold_Z {b : Addr} {o : HO} (q : H b = some o) (n : ¬ g.av as b) : (g.hold as H).Z b = some o := by
  show (if g.av as b then none else H b) = some o
  rw [if_neg n]
  exact q
open Classical in
theorem hold_fz {e2 : En} {as2 : Nat → Option Addr} {σ2 : L2.St} {H2 : Hp} (h2 : Rel K (g.hold as H) e2 as2 σ2 H2) {b : Addr} {o : HO} (q : H b = some o) (n : ¬ g.av as b) : H2 b = some o ∧ ¬ g.av as2 b :=
  h2.fz b o (by show (if g.av as b then none else H b) = some o; rw [if_neg n]; exact q)
theorem Rel.unhold {e2 : En} {as2 : Nat → Option Addr} {σ2 : L2.St} {H2 : Hp} (h : Rel K g e as σ H) (h2 : Rel K (g.hold as H) e2 as2 σ2 H2) : Rel K g e2 as2 σ2 H2 :=
  ⟨h2.len, h2.sl, h2.out, h2.inj, h2.own, h2.iok, h2.keep, h2.lks, h2.trB, h2.trT, fun b o q => hold_fz h2 (h.fz b o q).1 (h.fz b o q).2⟩
theorem kp_hold {e2 : En} {as2 : Nat → Option Addr} {σ2 : L2.St} {H2 : Hp} (h2 : Rel K (g.hold as H) e2 as2 σ2 H2) : Kp (g.av as) (g.av as2) H H2 :=
  ⟨fun b o q n => (hold_fz h2 q n).1, fun b o q z => Classical.byContradiction fun n => (hold_fz h2 q n).2 z⟩
/-- a datum stored: other data stay -/
theorem Rel.storeIm {i : Nat} {d : D} {v : V} (h : Rel K g e as σ H) (r : Rep K (g.av as) H d v) (hs : stS e i d false = some e') : Rel K g e' (setA as i none) (σ.set i (some v)) H := by
  obtain ⟨s, h1, h2, h3, rfl⟩ := stS_slot hs
  exact h.putIm h1 h2 h3 r
theorem Stp.setA_none' {i : Nat} : Stp as (setA as i none) H H := ⟨fun _ _ z _ => z, fun j b z => by
  by_cases hj : j = i
  · rw [hj, setA_same] at z
    cases z
  · rw [setA_ne hj] at z
    exact .inl ⟨j, z⟩, fun _ o z => ⟨o, z⟩⟩
theorem kp_setA {i : Nat} : Kp (g.av as) (g.av (setA as i none)) H H := ⟨fun _ _ z _ => z, fun b _ _ w => by
  rcases w with w | w | ⟨j, w⟩
  · exact .inl w
  · exact .inr (.inl w)
  · by_cases hj : j = i
    · rw [hj, setA_same] at w
      cases w
    · rw [setA_ne hj] at w
      exact .inr (.inr ⟨j, w⟩)⟩
/-- a list in a slot is changed -/
theorem Rel.chS {α : Type} {i : Nat} {f : List D → Option (List D × α)} {r : α} (h : Rel K g e as σ H) (q : Vm.chS e i f = some (r, e')) : ∃ a xs vs ys, as i = some a ∧ σ[i]? = some (some (.ref a)) ∧ H a = some (.lst vs) ∧ RepL K (g.av as) H xs vs ∧ f xs = some (ys, r) ∧
    ∀ H1 us, (∀ b o, H b = some o → H1 b = some o) → RepL K (g.av as) H1 ys us → Rel K g e' as σ (upd H1 a (.lst us)) := by
  unfold Vm.chS at q
  have hcan : canLk e i = true := by
    unfold canLk
    split at q
    · rename_i hs; rw [hs]
    · rename_i hs; rw [hs]
    · cases q
  obtain ⟨a, d, ha, hσ, hd, ow⟩ := canLk_at h hcan
  split at q
  · rename_i xs hs
    have : rdS e i = some (.list xs) := by unfold rdS; rw [hs]
    rw [this] at hd
    cases hd
    obtain ⟨ds, vs, e1, e2, rl⟩ := ow
    cases e1
    cases hf : f xs with
    | none => rw [hf] at q; cases q
    | some p =>
      rw [hf] at q
      cases q
      exact ⟨a, xs, vs, p.1, ha, hσ, e2, rl, hf, fun H1 us kk r => (h.grow kk).chg hs ha (.inl ⟨rfl, _, rfl⟩) r⟩
  · rename_i xs hs
    have : rdS e i = some (.list xs) := by unfold rdS; rw [hs]
    rw [this] at hd
    cases hd
    obtain ⟨ds, vs, e1, e2, rl⟩ := ow
    cases e1
    cases hf : f xs with
    | none => rw [hf] at q; cases q
    | some p =>
      rw [hf] at q
      cases q
      exact ⟨a, xs, vs, p.1, ha, hσ, e2, rl, hf, fun H1 us kk r => (h.grow kk).chg hs ha (.inr ⟨rfl, _, rfl⟩) r⟩
  · cases q
end

/-! ### ghosts -/
structure Gh.Cv (g' g : Gh) : Prop where
  B : g'.B = g.B
  io : g'.ioa = g.ioa
  H0 : g'.H0 = g.H0
  T : g'.T = g.T
  lk : ∀ p ∈ g.lk, p ∈ g'.lk
  Z : ∀ b o, g.Z b = some o → g'.Z b = some o
section
variable {K : PySem.W.Frag} {g g' : Gh} {e e' : En} {as as' : Nat → Option Addr} {σ : L2.St} {H H' : Hp}
theorem Gh.Cv.av (c : g'.Cv g) : g'.av as = g.av as := by
  unfold Gh.av
  rw [c.B, c.T]
theorem Rel.cv (c : g'.Cv g) (h : Rel K g' e as σ H) : Rel K g e as σ H := by
  have ea : g'.av as = g.av as := c.av
  exact ⟨h.len, fun i s q => by rw [← ea]; exact h.sl i s q, h.out, h.inj, fun i s a q w => by rw [← c.io, ← c.H0]; exact h.own i s a q w, fun p hp => h.iok p (by rw [c.io]; exact hp), fun b o q w => h.keep b o (by rw [c.H0]; exact q) fun p hp => w p (by rw [← c.io]; exact hp),
    fun p hp => h.lks p (c.lk p hp), fun b q => by rw [← c.H0]; exact h.trB b (by rw [c.B]; exact q), fun b q => by rw [← c.H0]; exact h.trT b (by rw [c.T]; exact q), fun b o q => by rw [← ea]; exact h.fz b o (c.Z b o q)⟩
theorem Gh.Cv.plus (c : g'.Cv g) (a : Addr) : (g'.plus a).Cv (g.plus a) := ⟨c.B, c.io, c.H0, by show (fun b => g'.T b ∨ b = a) = fun b => g.T b ∨ b = a; rw [c.T], c.lk, c.Z⟩
theorem RV.cv (c : g'.Cv g) {f : Bool} {d : D} {v : V} (r : RV K g' f e as σ H d v) : RV K g f e as σ H d v := by
  cases f with
  | false =>
    show Rep K (g.av as) H d v
    rw [← c.av]
    exact r
  | true =>
    obtain ⟨a, rfl, nT, h, o⟩ := r
    refine ⟨a, rfl, by rw [← c.T]; exact nT, h.cv (c.plus a), ?_⟩
    rw [← (c.plus a).av]
    exact o
/-- what waits is fewer -/
theorem Rel.cv' (h : Rel K g' e as σ H) (eB : g'.B = g.B) (ei : g'.ioa = g.ioa) (e0 : g'.H0 = g.H0) (eT : ∀ b, g.T b → g'.T b) (el : g'.lk = g.lk) (eZ : g'.Z = g.Z) : Rel K g e as σ H := by
  have sub : ∀ b, g.av as b → g'.av as b := fun b z => by
    rcases z with z | z | z
    · exact .inl (by rw [eB]; exact z)
    · exact .inr (.inl (eT b z))
    · exact .inr (.inr z)
  exact ⟨h.len, fun i s q => (h.sl i s q).mono ⟨fun _ _ z _ => z, fun b _ _ z => sub b z⟩ fun _ _ _ z => z, h.out, h.inj, fun i s a q w => by rw [← ei, ← e0]; exact h.own i s a q w, fun p hp => h.iok p (by rw [ei]; exact hp), fun b o q w => h.keep b o (by rw [e0]; exact q) fun p hp => w p (by rw [← ei]; exact hp),
    fun p hp => h.lks p (by rw [el]; exact hp), fun b q => by rw [← e0]; exact h.trB b (by rw [eB]; exact q), fun b q => by rw [← e0]; exact h.trT b (eT b q), fun b o q => ⟨(h.fz b o (by rw [eZ]; exact q)).1, fun z => (h.fz b o (by rw [eZ]; exact q)).2 (sub b z)⟩⟩
end
/-! ### how a statement ends -/
def PostS (K : PySem.W.Frag) (g : Gh) (cl : Str → Option Value) (W : WX) (Dn : Ends) (r : RS) : Prop := match r with
  | .nx e' => ∀ σ' H' as', Rel K g e' as' σ' H' → Dn.nx σ' H'
  | .rt d f e' => ∀ v σ' H' as', Rel K g e' as' σ' H' → RV K g f e' as' σ' H' d v → Dn.rt v H'
  | .bk e' => ∀ σ' H' as', Rel K g e' as' σ' H' → Dn.bk σ' H'
  | .ct e' => ∀ σ' H' as', Rel K g e' as' σ' H' → Dn.ct σ' H'
  | .exn x e' => ∀ cls dd σ' H' as', Rel K g e' as' σ' H' → XR cl x cls dd H' → W cls dd σ' H'
  | .bad => False
def tS (K : PySem.W.Frag) (g : Gh) (cl : Str → Option Value) (W : WX) (m : En → RS) : TS := fun Dn σ H => ∃ e as, Rel K g e as σ H ∧ PostS K g cl W Dn (m e)
def SS (X : Cx) (cl : Str → Option Value) (W : WX) (st : Stmt) (m : S) : Prop := ∀ g, PS X st (tS X.K g cl W (evS m))
def SSs (X : Cx) (cl : Str → Option Value) (W : WX) (st : List Stmt) (m : S) : Prop := ∀ g, PSs X st (tS X.K g cl W (evS m))
section
variable {K : PySem.W.Frag} {g : Gh} {e e' : En} {as as' : Nat → Option Addr} {σ : L2.St} {H H' : Hp} {cl : Str → Option Value} {W : WX} {Dn : Ends}
theorem Post.go {α β : Type} {V : α → En → (Nat → Option Addr) → Hp → β → Prop} {Q : β → Hp → Prop} {r : R α} {f : α → En → RS} (h : PostS K g cl W Dn (r.go f))
    (k : ∀ a e' v H' as', Rel K g e' as' σ H' → Stp as as' H H' → V a e' as' H' v → PostS K g cl W Dn (f a e') → Q v H') : Post K g cl W V Q as σ H r := by
  cases r with
  | ok a e' => exact fun v H2 as2 rel st q => k a e' v H2 as2 rel st q h
  | exn x e' => exact fun c d H2 as2 rel st q => h c d σ H2 as2 rel q
  | bad => exact h
theorem PostS.bind {r : RS} {f : En → RS} (h : PostS K g cl W Dn (r.bind f)) : PostS K g cl W { Dn with nx := fun σ H => ∃ e as, Rel K g e as σ H ∧ PostS K g cl W Dn (f e) } r := by
  cases r with
  | nx e' => exact fun σ' H' as' rel => ⟨e', as', rel, h⟩
  | _ => exact h
theorem PostS.go1 {o : Option En} (h : PostS K g cl W Dn (go1 o)) : ∃ e', o = some e' ∧ ∀ σ' H' as', Rel K g e' as' σ' H' → Dn.nx σ' H' := by
  cases o with
  | none => exact h.elim
  | some e' => exact ⟨e', rfl, h⟩
end
section
variable {X : Cx} {cl : Str → Option Value} {W : WX} {a b c : Expr} {ma mb mc : E} {pos p1 p2 p3 : Pos} {st st2 : Stmt} {sts sts2 : List Stmt} {m m2 : S}

theorem ss_nil : SSs X cl W [] .skip := fun g => weakSs pss_nil fun Dn σ H ⟨e, as, rel, h⟩ => by
  simp only [evS] at h
  exact h σ H as rel
theorem ss_bad : SS X cl W st .bad := fun g => ⟨fun pins s σ H Dn I ⟨_, _, _, q⟩ => q.elim⟩
theorem ss_one (h : SS X cl W st m) : SSs X cl W [st] m := fun g => pss_one (h g)
theorem ss_cons (h : SS X cl W st m) (h2 : SSs X cl W sts m2) : SSs X cl W (st :: sts) (.seq m m2) := fun g =>
  weakSs (pss_cons (h g) (h2 g)) fun Dn σ H ⟨e, as, rel, q⟩ => by
    simp only [evS] at q
    exact ⟨e, as, rel, PostS.bind q⟩
theorem ss_pass : SS X cl W (.Pass pos) .skip := fun g => weakS ps_pass fun Dn σ H ⟨e, as, rel, h⟩ => by
  simp only [evS] at h
  exact h σ H as rel
theorem ss_brk : SS X cl W (.Break pos) .brk := fun g => weakS ps_break fun Dn σ H ⟨e, as, rel, h⟩ => by
  simp only [evS] at h
  exact h σ H as rel
theorem ss_cnt : SS X cl W (.Continue pos) .cnt := fun g => weakS ps_continue fun Dn σ H ⟨e, as, rel, h⟩ => by
  simp only [evS] at h
  exact h σ H as rel
theorem ss_retN : SS X cl W (.Return none pos) .retN := fun g => weakS ps_retN fun Dn σ H ⟨e, as, rel, h⟩ => by
  simp only [evS] at h
  exact h .non σ H as rel Rep.non
/-- a list of the body's own leaves -/
theorem Rel.give {K : PySem.W.Frag} {g : Gh} {e : En} {as : Nat → Option Addr} {σ : L2.St} {H : Hp} (h : Rel K g e as σ H) {i : Nat} {d : D} (hs : e[i]? = some (.ow d)) :
    ∃ a, σ[i]? = some (some (.ref a)) ∧ Rel K g (e.set i .un) (setA as i none) σ H ∧ RV K g true (e.set i .un) (setA as i none) σ H d (.ref a) := by
  have hi : i < e.length := (List.getElem?_eq_some_iff.mp hs).1
  have hc : canLk e i = true := by unfold canLk; rw [hs]
  obtain ⟨a, d', ha, hσ, hd, ow⟩ := canLk_at h hc
  have : d' = d := by
    unfold rdS at hd
    rw [hs] at hd
    exact (Option.some.inj hd).symm
  subst this
  have hT : ¬ g.T a := fun z => (h.trT a z).2.1 i ha
  have h0 : g.H0 a = none := by
    rcases h.own i _ a hs ha with ⟨m, _⟩ | ⟨_, m⟩
    · cases m
    · exact m
  have sub : ∀ b, (g.plus a).av (setA as i none) b → g.av as b := fun b z => by
    rcases z with z | (z | z) | ⟨j, z⟩
    · exact .inl z
    · exact .inr (.inl z)
    · rw [z]; exact .inr (.inr ⟨i, ha⟩)
    · by_cases hj : j = i
      · rw [hj, setA_same] at z
        cases z
      · rw [setA_ne hj] at z
        exact .inr (.inr ⟨j, z⟩)
  have kp : Kp (g.av as) ((g.plus a).av (setA as i none)) H H := ⟨fun _ _ z _ => z, fun b _ _ w => sub b w⟩
  have big : Rel K (g.plus a) (e.set i .un) (setA as i none) σ H := by
    refine ⟨by rw [List.length_set]; exact h.len, fun j s2 q => ?_, fun j q => ?_, fun j k b q w => ?_, fun j s2 b q w => ?_, fun p hp => ?_, h.keep, fun p hp => ?_, h.trB, fun b q => ?_, fun b o q => ⟨(h.fz b o q).1, fun w => (h.fz b o q).2 (sub b w)⟩⟩
    · by_cases hj : j = i
      · subst hj
        rw [List.getElem?_set_self hi] at q
        cases q
        rw [setA_same]
        exact .un
      · rw [List.getElem?_set_ne (Ne.symm hj)] at q
        rw [setA_ne hj]
        exact (h.sl j s2 q).mono kp fun _ _ _ z => z
    · rw [List.length_set] at q
      rw [setA_ne (by omega)]
      exact h.out j q
    · by_cases hj : j = i
      · rw [hj, setA_same] at q
        cases q
      · by_cases hk : k = i
        · rw [hk, setA_same] at w
          cases w
        · rw [setA_ne hj] at q
          rw [setA_ne hk] at w
          exact h.inj j k b q w
    · by_cases hj : j = i
      · rw [hj, setA_same] at w
        cases w
      · rw [List.getElem?_set_ne (Ne.symm hj)] at q
        rw [setA_ne hj] at w
        exact h.own j s2 b q w
    · have ne := h.notIo hs rfl p hp
      obtain ⟨h1, s2, h2, h3⟩ := h.iok p hp
      exact ⟨by rw [setA_ne ne]; exact h1, s2, by rw [List.getElem?_set_ne (Ne.symm ne)]; exact h2, h3⟩
    · have ne := h.notLk hs (fun _ _ z => by cases z) p hp
      obtain ⟨h1, f, h2⟩ := h.lks p hp
      exact ⟨by rw [setA_ne ne]; exact h1, f, by rw [List.getElem?_set_ne (Ne.symm ne)]; exact h2⟩
    · rcases q with q | q
      · obtain ⟨r1, r2, r3⟩ := h.trT b q
        refine ⟨r1, fun j z => ?_, r3⟩
        by_cases hj : j = i
        · rw [hj, setA_same] at z
          cases z
        · rw [setA_ne hj] at z
          exact r2 j z
      · subst q
        refine ⟨ow.there, fun j z => ?_, h0⟩
        by_cases hj : j = i
        · rw [hj, setA_same] at z
          cases z
        · rw [setA_ne hj] at z
          exact hj (h.inj j i _ z ha)
  exact ⟨a, hσ, big.minus, a, rfl, hT, big, ow.mono kp fun _ z => z⟩
theorem ss_ret (h : SB X cl W a ma) : SS X cl W (.Return (some a) pos) (.ret ma) := fun g => by
  by_cases hv : ∃ i, ma = .var i
  · obtain ⟨i, rfl⟩ := hv
    refine weakS (ps_ret (h.var i rfl)) fun Dn σ H ⟨e, as, rel, q⟩ => ?_
    simp only [evS] at q
    split at q
    · rename_i d hs
      have hr : rdS e i = some d := by unfold rdS; rw [hs]
      obtain ⟨v, hv, _⟩ := rdS_val rel hr
      have r := rel.sl i _ hs
      rw [hv] at r
      refine ⟨v, hv, q v σ H as rel ?_⟩
      show Rep _ _ _ _ _
      generalize as i = o at r
      cases r with
      | im r => exact r
    · rename_i d hs
      obtain ⟨a, hσ, r1, r2⟩ := rel.give hs
      exact ⟨_, hσ, q _ _ _ _ r1 r2⟩
    · exact q.elim
  · refine weakS (ps_ret (h.se g)) fun Dn σ H ⟨e, as, rel, q⟩ => ?_
    have q' : PostS X.K g cl W Dn ((evE ma e).go fun r e => .rt r.1 r.2 e) := by
      cases ma with
      | var i => exact absurd ⟨i, rfl⟩ hv
      | _ => simpa only [evS] using q
    exact ⟨e, as, rel, Post.go q' fun r e' v H' as' rel' st' rv q2 => q2 v σ H' as' rel' rv⟩
theorem ss_ex (h : SE X cl W a ma) (hs : swapsWith a none pos.line X.env = pure false) : SS X cl W (.Expr a pos) (.ex ma) := fun g =>
  weakS (ps_expr (h g) hs) fun Dn σ H ⟨e, as, rel, q⟩ => by
    simp only [evS] at q
    exact ⟨e, as, rel, Post.go q fun r e' v H' as' rel' st' rv q2 => q2 σ H' as' rel'⟩
theorem ss_iff (hc : ST X cl W c mc) (ha : SSs X cl W sts m) (hb : SSs X cl W sts2 m2) : SS X cl W (.If c sts sts2 pos) (.iff mc m m2) := fun g =>
  weakS (ps_if (hc g) (ha g) (hb g)) fun Dn σ H ⟨e, as, rel, q⟩ => by
    simp only [evS] at q
    refine ⟨e, as, rel, Post.go q fun k e1 v H1 as1 rel1 st1 rv q1 => ?_⟩
    cases (show v = k from rv)
    cases k with
    | true =>
      rw [if_pos rfl] at q1 ⊢
      exact ⟨e1, as1, rel1, q1⟩
    | false =>
      rw [if_neg Bool.false_ne_true] at q1 ⊢
      exact ⟨e1, as1, rel1, q1⟩
/-- a name that may be stored -/
structure Stv (X : Cx) (x : Str) (i : Nat) : Prop where
  ix : X.N[i]? = some x
  loc : Loc X.env.scope x
  fn : X.fn x = true ∨ X.env.scope.names.lookup x = some .local
theorem ss_set {x : Str} {i : Nat} (hN : X.N.Nodup) (hx : Stv X x i) (h : SE X cl W a ma) (hs : swapsWith a (some (.Name x p1)) pos.line X.env = pure false) : SS X cl W (.Assign [.Name x p1] a pos) (.set i ma) := fun g =>
  weakS (ps_set hN hx.ix hx.loc (h g) hs hx.fn) fun Dn σ H ⟨e, as, rel, q⟩ => by
    simp only [evS] at q
    refine ⟨e, as, rel, Post.go q fun r e' v H' as' rel' st' rv q2 => ?_⟩
    obtain ⟨e2, h2, q2⟩ := q2.go1
    obtain ⟨as2, rel2⟩ := rel'.store' rv h2
    exact q2 _ _ _ rel2
theorem SE.any (h : SE X cl W a ma) : PE X a (fun σ H Q => ∃ g, TR X.K g cl W (VE X.K g) (evE ma) σ H Q) := ⟨fun pins s σ H Q I ⟨g, q⟩ => (h g).run pins s σ H Q I q⟩
theorem ss_par {x y : Str} {i j : Nat} {kt k2 : Nat} (hc : X.calm = true) (hN : X.N.Nodup) (hi : X.N[i]? = some x) (hj : X.N[j]? = some y) (hij : i ≠ j) (hx : X.env.scope.names.lookup x = some .local) (hy : X.env.scope.names.lookup y = some .local)
    (ha : SB X cl W a ma) (hb : SB X cl W b mb) {px py pt pt2 : Pos} (hw : swappedStores [.Tuple [.Name x px, .Name y py] kt pt] (.Tuple [a, b] k2 pt2) X.env = pure (some [x, y])) :
    SS X cl W (.Assign [.Tuple [.Name x px, .Name y py] kt pt] (.Tuple [a, b] k2 pt2) pos) (.par i j ma mb) := fun g =>
  weakS (ps_par hc hN hi hj hij hx hy (pa_cons (ha.se g) (pa_cons hb.se.any pa_nil (star_cons hb.ns)) (star_cons ha.ns)) hw) fun Dn σ H ⟨e, as, rel, q⟩ => by
    simp only [evS] at q
    refine ⟨e, as, rel, Post.go q fun r1 e1 v H1 as1 rel1 st1 rv1 q1 => ?_⟩
    have fin : ∀ (e4 e3 : En) (u : V) (H2 : Hp) (as4 : Nat → Option Addr), RV X.K g r1.2 e4 as4 (σ.set j (some u)) H2 r1.1 v → Rel X.K g e4 as4 (σ.set j (some u)) H2 → stS e4 i r1.1 r1.2 = some e3 → (∀ σ' H' as', Rel X.K g e3 as' σ' H' → Dn.nx σ' H') → Dn.nx ((σ.set i (some v)).set j (some u)) H2 := fun e4 e3 u H2 as4 rv rel4 h3 q3 => by
      obtain ⟨as5, rel5⟩ := rel4.store' rv h3
      rw [List.set_comm _ _ (Ne.symm hij)] at rel5
      exact q3 _ _ _ rel5
    have rv1 : RV X.K g r1.2 e1 as1 σ H1 r1.1 v := rv1
    obtain ⟨gb, rb, back, own⟩ : ∃ gb : Gh, Rel X.K gb e1 as1 σ H1 ∧ (∀ e as σ H, Rel X.K gb e as σ H → Rel X.K g e as σ H) ∧
        ∀ e2 as2 σ2 H2 e4 as4 σ4, Rel X.K gb e2 as2 σ2 H2 → Stp as1 as2 H1 H2 → Rel X.K gb e4 as4 σ4 H2 → RV X.K g r1.2 e4 as4 σ4 H2 r1.1 v := by
      cases hf : r1.2 with
      | false =>
        rw [hf] at rv1
        refine ⟨g.hold as1 H1, rel1.hold, fun e as σ H h => rel1.unhold h, fun e2 as2 σ2 H2 e4 as4 σ4 _ _ h4 => ?_⟩
        exact Rep.mono (kp_hold h4) rv1
      | true =>
        rw [hf] at rv1
        obtain ⟨a, rfl, nT, hp, ds, vs, e5, e6, rl⟩ := rv1
        refine ⟨(g.plus a).hold as1 H1, hp.hold, fun e as σ H h => (hp.unhold h).minus, fun e2 as2 σ2 H2 e4 as4 σ4 h2 s2 h4 => ⟨a, rfl, nT, hp.unhold h4, ds, vs, e5, ?_, rl.mono (kp_hold h4)⟩⟩
        exact s2.keep a _ e6 (hp.trT a (.inr rfl)).2.1
    refine ⟨gb, e1, as1, rb, ?_⟩
    cases hb : evE mb e1 with
    | bad => rw [hb] at q1; exact q1.elim
    | exn x e2 =>
      rw [hb] at q1
      exact fun cls dd H2 as2 rel2 _ xr => q1 cls dd σ H2 as2 (back _ _ _ _ rel2) xr
    | ok r2 e2 =>
      rw [hb] at q1
      intro u H2 as2 rel2 st2 rv2
      have q2 : PostS X.K g cl W Dn (go1 ((stS e2 j r2.1 r2.2).bind fun e => stS e i r1.1 r1.2)) := q1
      obtain ⟨e3, h3, q3⟩ := q2.go1
      cases h4 : stS e2 j r2.1 r2.2 with
      | none => rw [h4] at h3; cases h3
      | some e4 =>
        rw [h4] at h3
        have h3 : stS e4 i r1.1 r1.2 = some e3 := h3
        obtain ⟨as4, rel4⟩ := rel2.store' (show RV X.K gb r2.2 e2 as2 σ H2 r2.1 u from rv2) h4
        exact ⟨v, u, rfl, fin e4 e3 u H2 as4 (own _ _ _ _ _ _ _ rel2 st2 rel4) (back _ _ _ _ rel4) h3 q3⟩
end
end Vm
/-! Vm 10: statements, further: stores into lists, several targets, while -/
namespace Vm
open PySem PySem.Spec PyProof.Rows L2

theorem putI_inv {d k : D} {xs ys : List D} (h : putI d k xs = some (ys, ())) : ∃ i j, k = .int i ∧ ixN xs.length i = some j ∧ ys = xs.set j d := by
  unfold putI at h
  split at h
  · rename_i i
    cases hj : ixN xs.length i with
    | none => rw [hj] at h; cases h
    | some j =>
      rw [hj] at h
      cases h
      exact ⟨i, j, rfl, hj, rfl⟩
  · cases h
section
variable {K : PySem.W.Frag} {g : Gh} {e e' : En} {as as' : Nat → Option Addr} {σ : L2.St} {H H' : Hp} {cl : Str → Option Value} {W : WX} {Dn : Ends}
/-- xs[k] = d -/
theorem put_fin {i : Nat} {d z : D} {x y : V} (rel : Rel K g e as σ H) (rd : Rep K (g.av as) H d x) (rz : Rep K (g.av as) H z y) (h : PostS K g cl W Dn (go1 ((chS e i (putI d z)).map (·.2)))) :
    ∃ a vs k j e', σ[i]? = some (some (.ref a)) ∧ y = .int k ∧ H a = some (.lst vs) ∧ ixN vs.length k = some j ∧ Rel K g e' as σ (upd H a (.lst (vs.set j x))) ∧ Kp (g.av as) (g.av as) H (upd H a (.lst (vs.set j x))) ∧ (chS e i (putI d z)).map (·.2) = some e' := by
  obtain ⟨e2, h2, q2⟩ := h.go1
  cases hc : chS e i (putI d z) with
  | none => rw [hc] at h2; cases h2
  | some p =>
    obtain ⟨⟨⟩, e'⟩ := p
    obtain ⟨a, xs, vs, ys, ha, hσ, hH, rl, hf, fin⟩ := rel.chS hc
    obtain ⟨k, j, rfl, hj, rfl⟩ := putI_inv hf
    cases rz
    refine ⟨a, vs, k, j, e', hσ, rfl, hH, by rw [rl.length]; exact hj, fin H _ (fun _ _ z => z) (rl.set rd j), ⟨fun b o q n => ?_, fun _ _ _ z => z⟩, rfl⟩
    rw [upd_ne (fun z => n (by rw [z]; exact .inr (.inr ⟨i, ha⟩)))]
    exact q
end
/-- an index that is no slice -/
def isSlice : Expr → Bool
  | .Slice .. => true
  | _ => false
section
variable {X : Cx} {cl : Str → Option Value} {W : WX} {a b c : Expr} {ma mb mc mk : E} {pos p1 p2 p3 : Pos} {st st2 : Stmt} {sts sts2 : List Stmt} {m m2 : S}
/-- o[b] = a -/
theorem ss_put {x : Str} {i : Nat} (hv : PE X (.Name x p1) (tVar i)) (ha : SE X cl W a ma) (hb : SE X cl W b mk) (hs : isSlice b = false) (hw : swapsWithSole [.Subscript (.Name x p1) b p2] a pos.line X.env = pure false) (hw2 : swappedStores [.Subscript (.Name x p1) b p2] a X.env = pure none) :
    SS X cl W (.Assign [.Subscript (.Name x p1) b p2] a pos) (.put i mk ma) := fun g =>
  weakS (ps_asg (ha g) (pg_sub hv (hb g) set_list (by intro v; cases b <;> first | rfl | cases hs)) hw hw2) fun Dn σ H ⟨e, as, rel, q⟩ => by
    simp only [evS] at q
    refine ⟨e, as, rel, Post.go q fun d e1 v H1 as1 rel1 st1 rv q1 => ?_⟩
    split at q1
    · rename_i hc
      obtain ⟨a0, d0, ha0, hσ, _, _⟩ := canLk_at rel1 hc
      refine ⟨_, hσ, e1, as1, rel1, Post.go q1 fun z e2 y H2 as2 rel2 st2 rz q2 => ?_⟩
      obtain ⟨a1, vs, k, j, e3, hσ1, rfl, hH, hj, rel3, _, he⟩ := put_fin rel2 ((show RV X.K g d.2 e1 as1 σ H1 d.1 v from rv).rep.mono (st2.kp (g := g))) (show RV X.K g z.2 e2 as2 σ H2 z.1 y from rz).rep q2
      rw [hσ] at hσ1
      cases hσ1
      rw [he] at q2
      exact ⟨a0, vs, k, j, rfl, rfl, hH, hj, q2 _ _ _ rel3⟩
    · exact q1.elim
/-- a target -/
inductive Tgt (X : Cx) (cl : Str → Option Value) (W : WX) : Expr → T → Prop
  | nm {x i p} : Stv X x i → Tgt X cl W (.Name x p) (.nm i)
  | ix {x i p b k p2} : PE X (.Name x p) (tVar i) → SE X cl W b k → isSlice b = false → Tgt X cl W (.Subscript (.Name x p) b p2) (.ix i k)
inductive Tgts (X : Cx) (cl : Str → Option Value) (W : WX) : List Expr → List T → Prop
  | nil : Tgts X cl W [] []
  | cons {a t as ts} : Tgt X cl W a t → Tgts X cl W as ts → Tgts X cl W (a :: as) (t :: ts)
def tGs (K : PySem.W.Frag) (g : Gh) (cl : Str → Option Value) (W : WX) (ts : List T) : TGs := fun vs σ H Q => ∃ e as ds, Rel K g e as σ H ∧ RepL K (g.av as) H ds vs ∧ PostS K g cl W ⟨Q, fun _ _ => False, fun _ _ => False, fun _ _ => False⟩ (stTs ts ds e)
theorem weakGs {es : List Expr} {t t' : TGs} (h : PGs X es t) (k : ∀ vs σ H Q, t' vs σ H Q → t vs σ H Q) : PGs X es t' := ⟨fun pins s σ H vs us Q I r q => h.run pins s σ H vs us Q I r (k vs σ H Q q)⟩
theorem Tgt.each {t : T} {as : List Expr} (h : Tgt X cl W a t) : assignEach (a :: as) X.env = (false, assign a X.env) :: assignEach as X.env := by
  cases h <;> rfl
theorem Tgts.len {es : List Expr} {ts : List T} (h : Tgts X cl W es ts) : (assignEach es X.env).length = ts.length := by
  induction h with
  | nil => rfl
  | cons h _ ih => rw [h.each, List.length_cons, List.length_cons, ih]
theorem Tgts.plain {es : List Expr} {ts : List T} (h : Tgts X cl W es ts) : (assignEach es X.env).findIdx? (·.1) = none := by
  induction h with
  | nil => rfl
  | cons h _ ih => rw [h.each, List.findIdx?_cons, ih]; rfl
theorem stTs_len {K : PySem.W.Frag} {g : Gh} {Dn : Ends} : ∀ {ts : List T} {ds : List D} {e : En}, PostS K g cl W Dn (stTs ts ds e) → stTs ts ds e ≠ .bad := by
  intro ts ds e h q
  rw [q] at h
  exact h
theorem Tgts.pgs (hN : X.N.Nodup) {es : List Expr} {ts : List T} (h : Tgts X cl W es ts) : ∀ g, PGs X es (tGs X.K g cl W ts) := by
  induction h with
  | nil =>
    intro g
    refine weakGs pgs_nil fun vs σ H Q ⟨e, as, ds, rel, rl, q⟩ => ?_
    cases rl with
    | nil =>
      simp only [stTs] at q
      exact ⟨rfl, q σ H as rel⟩
    | cons h r => simp only [stTs] at q; exact q.elim
  | @cons a t es ts h hs ih =>
    intro g
    cases h with
    | @nm x i p hx =>
      refine weakGs (pgs_cons (pg_name hN hx.ix hx.loc hx.fn) (ih g) (by rw [Tgt.each (Tgt.nm (cl := cl) (W := W) hx)]; rfl)) fun vs σ H Q ⟨e, as, ds, rel, rl, q⟩ => ?_
      cases rl with
      | nil => simp only [stTs] at q; exact q.elim
      | @cons d v ds vs r rl =>
        simp only [stTs] at q
        cases h2 : stS e i d false with
        | none => rw [h2] at q; exact q.elim
        | some e2 =>
          rw [h2] at q
          exact ⟨v, vs, rfl, e2, _, ds, rel.storeIm r h2, rl.mono kp_setA, q⟩
    | @ix x i p b k p2 hv hb hsl =>
      refine weakGs (pgs_cons (pg_sub hv (hb g) set_list (by intro v; cases b <;> first | rfl | cases hsl)) (ih g) (by rw [Tgt.each (Tgt.ix hv hb hsl)]; rfl)) fun vs σ H Q ⟨e, as, ds, rel, rl, q⟩ => ?_
      cases rl with
      | nil => simp only [stTs] at q; exact q.elim
      | @cons d v ds vs r rl =>
        simp only [stTs] at q
        split at q
        · rename_i hc
          obtain ⟨a0, d0, ha0, hσ, _, _⟩ := canLk_at rel hc
          refine ⟨v, vs, rfl, _, hσ, e, as, rel, Post.go q fun z e2 y H2 as2 rel2 st2 rz q2 => ?_⟩
          have hq : PostS X.K g cl W ⟨fun _ _ => True, fun _ _ => True, fun _ _ => True, fun _ _ => True⟩ (go1 ((chS e2 i (putI d z.1)).map (·.2))) := by
            cases h2 : (chS e2 i (putI d z.1)).map (·.2) with
            | none => rw [h2] at q2; exact q2.elim
            | some e3 => exact fun _ _ _ _ => trivial
          obtain ⟨a1, us, k, j, e3, hσ1, rfl, hH, hj, rel3, kp, he⟩ := put_fin rel2 (r.mono (st2.kp (g := g))) (show RV X.K g z.2 e2 as2 σ H2 z.1 y from rz).rep hq
          rw [hσ] at hσ1
          cases hσ1
          rw [he] at q2
          exact ⟨a0, us, k, j, rfl, rfl, hH, hj, e3, as2, ds, rel3, (rl.mono (st2.kp (g := g))).mono kp, q2⟩
        · exact q.elim
theorem PostS.mono {K : PySem.W.Frag} {g : Gh} {Dn D2 : Ends} {r : RS} (h : PostS K g cl W Dn r) (h1 : ∀ σ H, Dn.nx σ H → D2.nx σ H) (h2 : ∀ v H, Dn.rt v H → D2.rt v H) (h3 : ∀ σ H, Dn.bk σ H → D2.bk σ H) (h4 : ∀ σ H, Dn.ct σ H → D2.ct σ H) : PostS K g cl W D2 r := by
  cases r with
  | nx e' => exact fun σ' H' as' rel => h1 _ _ (h σ' H' as' rel)
  | rt d f e' => exact fun v σ' H' as' rel rv => h2 _ _ (h v σ' H' as' rel rv)
  | bk e' => exact fun σ' H' as' rel => h3 _ _ (h σ' H' as' rel)
  | ct e' => exact fun σ' H' as' rel => h4 _ _ (h σ' H' as' rel)
  | exn x e' => exact h
  | bad => exact h
theorem stTs_ends {K : PySem.W.Frag} {g : Gh} {Dn D2 : Ends} : ∀ {ts : List T} {ds : List D} {e : En}, PostS K g cl W Dn (stTs ts ds e) → (∀ σ H, Dn.nx σ H → D2.nx σ H) → PostS K g cl W D2 (stTs ts ds e)
  | [], [], _, h, k => by
    simp only [stTs] at h ⊢
    exact fun σ' H' as' rel => k _ _ (h σ' H' as' rel)
  | [], _ :: _, _, h, k => by simp only [stTs] at h; exact h.elim
  | .nm i :: ts, [], _, h, k => by simp only [stTs] at h; exact h.elim
  | .ix i k :: ts, [], _, h, _ => by simp only [stTs] at h; exact h.elim
  | .nm i :: ts, d :: ds, e, h, k => by
    simp only [stTs] at h ⊢
    cases h2 : stS e i d false with
    | none => rw [h2] at h; exact h.elim
    | some e2 =>
      rw [h2] at h
      exact stTs_ends (ts := ts) (ds := ds) (e := e2) h k
  | .ix i k :: ts, d :: ds, e, h, kk => by
    simp only [stTs] at h ⊢
    split at h
    · rename_i hc
      rw [if_pos hc]
      cases hk : evE k e with
      | bad => rw [hk] at h; exact h.elim
      | exn x e2 => rw [hk] at h; exact h
      | ok z e2 =>
        rw [hk] at h
        have h' : PostS K g cl W Dn ((go1 ((chS e2 i (putI d z.1)).map (·.2))).bind fun e => stTs ts ds e) := h
        show PostS K g cl W D2 ((go1 ((chS e2 i (putI d z.1)).map (·.2))).bind fun e => stTs ts ds e)
        cases h2 : (chS e2 i (putI d z.1)).map (·.2) with
        | none => rw [h2] at h'; exact h'.elim
        | some e3 =>
          rw [h2] at h'
          exact stTs_ends (ts := ts) (ds := ds) (e := e3) h' kk
    · exact h.elim
/-- t1, t2, .. = a -/
theorem ss_unp {es : List Expr} {ts : List T} {kt : Nat} (hc : X.calm = true) (hN : X.N.Nodup) (ht : Tgts X cl W es ts) (ha : SE X cl W a ma) (hw : swapsWithSole [.Tuple es kt p1] a pos.line X.env = pure false) (hw2 : swappedStores [.Tuple es kt p1] a X.env = pure none) :
    SS X cl W (.Assign [.Tuple es kt p1] a pos) (.unp ts ma) := fun g =>
  weakS (ps_asg (ha g) (pg_tup hc (ht.pgs hN g) ht.len ht.plain) hw hw2) fun Dn σ H ⟨e, as, rel, q⟩ => by
    simp only [evS] at q
    refine ⟨e, as, rel, Post.go q fun r e1 v H1 as1 rel1 st1 rv q1 => ?_⟩
    have rp := (show RV X.K g r.2 e1 as1 σ H1 r.1 v from rv).rep
    split at q1
    · rename_i ds hd
      split at q1
      · rename_i hl
        rw [hd] at rp
        cases rp with
        | tup st rl => exact ⟨_, _, rfl, st.sq, by rw [rl.length]; exact hl, e1, as1, ds, rel1, rl, stTs_ends q1 fun _ _ z => z⟩
      · exact q1.elim
    · exact q1.elim
/-! ### while -/
theorem ss_whl (hp : PassesOwn (model X.prog X.w) X.A X.env X.xe) (hc : ST X cl W c mc) (hb : SSs X cl W sts m) : SS X cl W (.While c sts [] pos) (.whl mc m) := fun g =>
  weakS (ps_while hp (hc g) (hb g)) fun Dn σ H ⟨e, as, rel, q⟩ => by
    have q' : PostS X.K g cl W Dn (whL (fun e => evT mc e) (fun e => evS m e) e) := by simpa only [evS] using q
    unfold whL at q'
    split at q'
    · rename_i hx
      refine ⟨fun n σ H => ∃ e as, Rel X.K g e as σ H ∧ PostS X.K g cl W Dn (whN (fun e => evT mc e) (fun e => evS m e) n e), ⟨_, e, as, rel, q'⟩, ?_⟩
      rintro n σ1 H1 ⟨e1, as1, rel1, q1⟩
      refine ⟨e1, as1, rel1, ?_⟩
      cases n with
      | zero => exact q1.elim
      | succ n =>
        unfold whN at q1
        cases ht : evT mc e1 with
        | bad => rw [ht] at q1; exact q1.elim
        | exn x e2 =>
          rw [ht] at q1
          exact fun cls dd H2 as2 rel2 _ xr => q1 cls dd _ H2 as2 rel2 xr
        | ok k e2 =>
          rw [ht] at q1
          intro k' H2 as2 rel2 st2 hk
          cases (show k' = k from hk)
          cases k with
          | false =>
            rw [if_neg Bool.false_ne_true]
            exact q1 _ _ _ rel2
          | true =>
            rw [if_pos rfl]
            refine ⟨fun σ' H' => ∃ e as, Rel X.K g e as σ' H' ∧ PostS X.K g cl W Dn (whN (fun e => evT mc e) (fun e => evS m e) n e), fun σ' H' w => ⟨n, Nat.lt_succ_self n, w⟩, e2, as2, rel2, ?_⟩
            have q1 : PostS X.K g cl W Dn (match evS m e2 with
              | .nx e2 => whN (fun e => evT mc e) (fun e => evS m e) n e2
              | .ct e2 => whN (fun e => evT mc e) (fun e => evS m e) n e2
              | .bk e2 => .nx e2
              | q => q) := q1
            cases hs : evS m e2 with
            | nx e3 => rw [hs] at q1; exact fun σ' H' as' rel' => ⟨e3, as', rel', q1⟩
            | ct e3 => rw [hs] at q1; exact fun σ' H' as' rel' => ⟨e3, as', rel', q1⟩
            | bk e3 => rw [hs] at q1; exact q1
            | rt d f e3 => rw [hs] at q1; exact q1
            | exn x e3 => rw [hs] at q1; exact q1
            | bad => rw [hs] at q1; exact q1
    · exact q'.elim
end

/-! ### f([..]): the list is nobody else's -/
section
variable {X : Cx} {cl : Str → Option Value} {W : WX} {k : Nat} {m : Fm} {x : Str} {a : Expr} {p pos : Pos} {ma : E}
theorem se_callT (F : FnK X.prog X.w X.K X.mg X.base cl k x m) (hr : Room k X.A) (gd : X.A.guards = some []) (hg : Gl X x) (tk : Takes X W) (hdb : (x == ("__debug__" : Str)) = false) (h : SB X cl W a ma) :
    SE X cl W (.Call (.Name x p) [a] [] pos) (.callT m ma) := fun g => by
  refine weakE (pe_callV F hr gd hg tk (pa_cons h.se.any pa_nil (star_cons h.ns)) hdb (star_cons h.ns) rfl) fun σ H Q ⟨e, as, rel, q⟩ => ?_
  have q' : Post X.K g cl W (VE X.K g σ) Q as σ H (evE (.callT m ma) e) := q
  simp only [evE] at q'
  refine ⟨g.hold as H, e, as, rel.hold, ?_⟩
  cases hb : evE ma e with
  | bad => rw [hb] at q'; exact q'.elim
  | exn y e1 =>
    rw [hb] at q'
    exact fun cls dd H1 as1 rel1 st1 xr => q' cls dd H1 as1 (rel.unhold rel1) st1 xr
  | ok r e1 =>
    rw [hb] at q'
    have q1 : Post X.K g cl W (VE X.K g σ) Q as σ H (if r.2 = true ∧ m.io = [true] then (match m.run [r.1] with
      | .ok d f _ => .ok (d, f) e1
      | .exn x _ => .exn x e1
      | .bad => .bad) else .bad) := q'
    intro v H1 as1 rel1 st1 rv
    split at q1
    · rename_i hc
      have rv : RV X.K (g.hold as H) r.2 e1 as1 σ H1 r.1 v := rv
      rw [hc.1] at rv
      obtain ⟨t, rfl, nT, relH, ow⟩ := rv
      have tq := relH.trT t (.inr rfl)
      have new : ∀ b o, H b = some o → (∀ i, as i ≠ some b) → b ≠ t := fun b o z w y => by
        subst y
        have na : ¬ g.av as b := fun u => by
          rcases u with u | u | ⟨i, u⟩
          · obtain ⟨o', h0⟩ := rel.trB b u
            rw [show g.H0 b = none from tq.2.2] at h0
            cases h0
          · exact nT u
          · exact w i u
        exact (relH.fz b o (hold_Z z na)).2 (.inr (.inl (.inr rfl)))
      have relT : Rel X.K (g.plus t) e1 as1 σ H1 := Rel.cv (g' := (g.hold as H).plus t) ⟨rfl, rfl, rfl, rfl, fun _ z => z, fun b o z => hold_Z (rel.fz b o z).1 (rel.fz b o z).2⟩ relH
      refine ⟨(g.plus t).av as1, [r.1], relT.trk, by rw [hc.2]; exact .io (.inr (.inl (.inr rfl))) ow .nil, by rw [hc.2]; simp [ioV], ?_⟩
      rw [hc.2]
      have stp : ∀ {T : Addr → Prop} {os : List D} {H2 : Hp}, Done X.K ((g.plus t).av as1) T H1 [t] os H2 → (∀ b o, H1 b = some o → b ≠ t → H2 b = some o) ∧ (∃ o, H2 t = some o) ∧ Stp as as1 H H2 := fun {T os H2} dn => by
        have k1 : ∀ b o, H1 b = some o → b ≠ t → H2 b = some o := fun b o z n => dn.keep b o z (by simpa using n)
        have k2 : ∃ o, H2 t = some o := by
          have := dn.outs
          cases this with
          | cons o _ => exact o.there
        refine ⟨k1, k2, fun b o z w => k1 b o (st1.keep b o z w) (new b o z w), st1.le, fun b o z => ?_⟩
        obtain ⟨o', h'⟩ := st1.there b o z
        by_cases hb : b = t
        · rw [hb]; exact k2
        · exact ⟨o', k1 b o' h' hb⟩
      cases hm : m.run [r.1] with
      | bad => rw [hm] at q1; exact q1.elim
      | exn y os =>
        rw [hm] at q1
        intro cls dd H2 dn xr
        have dn : Done X.K ((g.plus t).av as1) (fun _ => False) H1 [t] os H2 := dn
        obtain ⟨k1, k2, st2⟩ := stp dn
        have r2 := (relT.tmp (T := fun _ => False) k1 k2 fun _ z => z.elim)
        have r3 : Rel X.K (g.plus t) e1 as1 σ H2 := r2.cv' rfl rfl rfl (fun b z => .inl z) rfl rfl
        exact q1 cls dd H2 as1 r3.minus st2 xr
      | ok d f os =>
        rw [hm] at q1
        intro v H2 bk
        cases f with
        | false =>
          obtain ⟨dn, rp⟩ := (show Done X.K ((g.plus t).av as1) (fun _ => False) H1 [t] os H2 ∧ Rep X.K ((g.plus t).av as1) H2 d v from bk)
          obtain ⟨k1, k2, st2⟩ := stp dn
          have r2 := (relT.tmp (T := fun _ => False) k1 k2 fun _ z => z.elim)
          have r3 : Rel X.K (g.plus t) e1 as1 σ H2 := r2.cv' rfl rfl rfl (fun b z => .inl z) rfl rfl
          exact q1 v H2 as1 r3.minus st2 (rp.mono kp_minus)
        | true =>
          obtain ⟨c, rfl, hn, dn, ow2⟩ := (show ∃ c, v = .ref c ∧ H1 c = none ∧ Done X.K ((g.plus t).av as1) (fun b => b = c) H1 [t] os H2 ∧ Own X.K (fun b => (g.plus t).av as1 b ∨ b = c) H2 c d from bk)
          obtain ⟨k1, k2, st2⟩ := stp dn
          have r2 := (relT.tmp (T := fun b => b = c) k1 k2 fun b z => by rw [z]; exact ⟨hn, ow2.there⟩)
          have r3 : Rel X.K (g.plus c) e1 as1 σ H2 := r2.cv' rfl rfl rfl (fun b z => z.elim (fun z => .inl (.inl z)) .inr) rfl rfl
          refine q1 (.ref c) H2 as1 r3.minus st2 ⟨c, rfl, fun z => rel1.newA hn (.inr (.inl z)), r3, ow2.mono ⟨fun _ _ z _ => z, fun b _ _ z => ?_⟩ fun _ z => z⟩
          rcases z with z | (z | z) | z
          · exact .inl (.inl z)
          · exact .inl (.inr (.inl (.inl z)))
          · exact .inr z
          · exact .inl (.inr (.inr z))
    · exact q1.elim
end
end Vm
/-! Vm 10, the methods of lists -/
namespace Vm
open PySem PySem.Spec PyProof.Rows L2
/-- a method does what lmD says -/
def LmR (K : PySem.W.Frag) (m : Lm) (r : V → List V → Hp → VK → Prop) : Prop :=
  ∀ (A : Addr → Prop) (H : Hp) (a : Addr) (xs ds ys : List D) (us vs : List V) (d : D) (Q : VK), H a = some (.lst us) → RepL K A H xs us → RepL K A H ds vs → lmD m ds xs = some (ys, d) → (∀ ws v, RepL K A H ys ws → Rep K A H d v → Q v (upd H a (.lst ws))) → r (.ref a) vs H Q
section
variable {K : PySem.W.Frag}
theorem lm_app : LmR K .app rAppend := by
  intro A H a xs ds ys us vs d Q hH rx rd h q
  unfold lmD at h
  split at h
  · split at h
    · rename_i hz
      cases h
      cases rd with
      | cons r1 r2 =>
        cases r2
        exact ⟨a, us, _, rfl, rfl, hH, by rw [rx.length]; exact hz, q _ _ (rx.append (.cons r1 .nil)) .non⟩
    · cases h
  all_goals simp_all
theorem lm_ins : LmR K .ins (fun x vs H Q => ∃ (l : Addr) (xs : List V) (i : Int) (y : V), x = .ref l ∧ vs = [.int i, y] ∧ H l = some (.lst xs) ∧ xs.length < sizeLine ∧ 0 ≤ i ∧ i < 2 ^ 63 ∧ Q .non (upd H l (.lst (xs.take i.toNat ++ [y] ++ xs.drop i.toNat)))) := by
  intro A H a xs ds ys us vs d Q hH rx rd h q
  have h : (match ds, xs with
    | [.int i, d], xs => if 0 ≤ i ∧ i < 2 ^ 63 ∧ xs.length < sizeLine then some (xs.take i.toNat ++ d :: xs.drop i.toNat, PyData.none) else none
    | _, _ => none) = some (ys, d) := by
    unfold lmD at h
    split at h <;> simp_all
  cases rd with
  | nil => cases h
  | cons r1 rd =>
    cases r1 with
    | int i =>
      cases rd with
      | nil => cases h
      | cons r2 rd =>
        cases rd with
        | cons _ _ => cases h
        | nil =>
          dsimp only at h
          split at h
          · rename_i hz
            cases h
            refine ⟨a, us, i, _, rfl, rfl, hH, by rw [rx.length]; exact hz.2.2, hz.1, hz.2.1, ?_⟩
            rw [List.append_assoc]
            exact q _ _ ((rx.take _).append (.cons r2 (rx.drop _))) .non
          · cases h
    | _ => cases h
theorem lm_pop : LmR K .pop rPop := by
  intro A H a xs ds ys us vs d Q hH rx rd h q
  cases ds with
  | cons _ _ => unfold lmD at h; simp at h
  | nil =>
    cases rd
    have h : (xs[xs.length - 1]?).map (fun y => (xs.dropLast, y)) = some (ys, d) := h
    obtain ⟨y, h1, h2⟩ := Option.map_eq_some_iff.mp h
    cases h2
    obtain ⟨v, h3, h4⟩ := rx.get h1
    exact ⟨a, us, v, rfl, rfl, hH, by rw [rx.length]; exact h3, q _ _ rx.dropLast h4⟩
theorem lm_rev : LmR K .rev rReverse := by
  intro A H a xs ds ys us vs d Q hH rx rd h q
  cases ds with
  | cons _ _ => unfold lmD at h; simp at h
  | nil =>
    cases rd
    cases h
    exact ⟨a, us, rfl, rfl, hH, q _ _ rx.rev .non⟩
theorem lm_clr : LmR K .clr rClear := by
  intro A H a xs ds ys us vs d Q hH rx rd h q
  cases ds with
  | cons _ _ => unfold lmD at h; simp at h
  | nil =>
    cases rd
    cases h
    exact ⟨a, us, rfl, rfl, hH, q _ _ .nil .non⟩
theorem lm_popAt : LmR K .popAt rPopAt := by
  intro A H a xs ds ys us vs d Q hH rx rd h q
  have h : (match ds with
    | [.int i] => popI xs i
    | _ => none) = some (ys, d) := by
    unfold lmD at h
    split at h <;> simp_all
  cases rd with
  | nil => cases h
  | cons r1 rd =>
    cases r1 with
    | int i =>
      cases rd with
      | cons _ _ => cases h
      | nil =>
        have h : popI xs i = some (ys, d) := h
        unfold popI at h
        split at h
        · rename_i hz
          obtain ⟨h1, h2⟩ := Bool.and_eq_true_iff.mp hz
          cases hk : seqIndex? i xs.length with
          | none => rw [hk] at h; cases h
          | some k =>
            rw [hk] at h
            obtain ⟨y, h3, h4⟩ := Option.map_eq_some_iff.mp (show (xs[k]?).map (fun y => (xs.eraseIdx k, y)) = some (ys, d) from h)
            cases h4
            obtain ⟨v, h5, h6⟩ := rx.get h3
            exact ⟨a, us, i, k, v, rfl, rfl, hH, of_decide_eq_true h1, of_decide_eq_true h2, by rw [rx.length]; exact hk, h5, q _ _ (rx.erase _) h6⟩
        · cases h
    | _ => cases h
end
section
variable {X : Cx} {cl : Str → Option Value} {W : WX} {x name : Str} {i : Nat} {p apos cpos : Pos} {id : String} {r : V → List V → Hp → VK → Prop} {a : Expr} {es : List Expr} {ma mr : E} {m : Lm}
theorem lm_fin {K : PySem.W.Frag} {g : Gh} {e : En} {as : Nat → Option Addr} {σ : L2.St} {H : Hp} {ds : List D} {vs : List V} {Q : VK} {b : Addr} (hr : LmR K m r) (rel : Rel K g e as σ H) (rd : RepL K (g.av as) H ds vs) (hb : σ[i]? = some (some (.ref b)))
    (h : Post K g cl W (VE K g σ) Q as σ H (match chS e i (lmD m ds) with
      | some (d, e) => .ok (d, false) e
      | none => .bad)) : r (.ref b) vs H Q := by
  cases hc : chS e i (lmD m ds) with
  | none => rw [hc] at h; exact h.elim
  | some z =>
    obtain ⟨d, e'⟩ := z
    rw [hc] at h
    obtain ⟨c, xs, us, ys, hi, hσ, hH, rx, hf, fin⟩ := rel.chS hc
    rw [hb] at hσ
    cases hσ
    refine hr (g.av as) H b xs ds ys us vs d Q hH rx rd hf fun ws v r1 r2 => ?_
    have kp : Kp (g.av as) (g.av as) H (upd H b (.lst ws)) := ⟨fun c o z n => by
      rw [upd_ne (fun y => n (by rw [y]; exact .inr (.inr ⟨i, hi⟩)))]
      exact z, fun _ _ _ z => z⟩
    refine h v _ as (fin H ws (fun _ _ z => z) r1) ⟨fun c o z w => ?_, fun j _ z => .inl ⟨j, z⟩, fun c o z => ?_⟩ (r2.mono kp)
    · rw [upd_ne (fun y => w i (by rw [y]; exact hi))]
      exact z
    · by_cases hc : c = b
      · rw [hc]
        exact ⟨_, upd_same⟩
      · exact ⟨o, by rw [upd_ne hc]; exact z⟩
theorem se_lm (slot : PySem.Slot "list" name id) (hty : typeOf (.builtin id) = pure (.type "method_descriptor")) (hm : MtR X id r) (hr : LmR X.K m r) (hv : PE X (.Name x p) (tVar i)) (h : Row X cl W (a :: es) (.cons ma mr)) (hline : (apos.endLine == cpos.line) = true)
    (hfew : ((backTo cpos (starEach (a :: es) X.env)).all (fun x => !x.1) && (backToKw cpos (keywordEach [] X.env)).all (fun x => x.1.isSome)
      && decide ((a :: es).length + ([] : List Keyword).length + (if ([] : List Keyword).isEmpty then 0 else 1) < 30)) = true) :
    SE X cl W (.Call (.Attribute (.Name x p) name apos) (a :: es) [] cpos) (.lm m i (.cons ma mr)) := fun g => by
  cases h with
  | cons h1 h2 =>
    refine weakE (pe_bm PySem.F.plainAttrs_list slot hty hm hv ((Row.cons h1 h2).paA g) rfl hfew hline (star_cons h1.ns) h2.plain) fun σ H Q ⟨e, as, rel, q⟩ => ?_
    have q' : Post X.K g cl W (VE X.K g σ) Q as σ H (evE (.lm m i (.cons ma mr)) e) := q
    simp only [evE] at q'
    split at q'
    · rename_i hc
      obtain ⟨b, d0, ha0, hσ, _, ow⟩ := canLk_at rel hc
      obtain ⟨_, us, _, hb, _⟩ := ow
      refine ⟨_, hσ, .inl ⟨rfl, us, .inl (.inl hb)⟩, e, as, rel, Post.bind q' fun ds e1 vs H1 as1 rel1 st1 rl q1 => lm_fin hr rel1 rl hσ q1⟩
    · exact q'.elim
theorem se_lm0 (slot : PySem.Slot "list" name id) (hty : typeOf (.builtin id) = pure (.type "method_descriptor")) (hm : MtR X id r) (hr : LmR X.K m r) (hv : PE X (.Name x p) (tVar i)) (hline : (apos.endLine == cpos.line) = true) :
    SE X cl W (.Call (.Attribute (.Name x p) name apos) [] [] cpos) (.lm m i .nil) := fun g => by
  refine weakE (pe_bm0 PySem.F.plainAttrs_list slot hty hm hv rfl hline) fun σ H Q ⟨e, as, rel, q⟩ => ?_
  have q' : Post X.K g cl W (VE X.K g σ) Q as σ H (evE (.lm m i .nil) e) := q
  simp only [evE, evA] at q'
  split at q'
  · rename_i hc
    obtain ⟨b, d0, ha0, hσ, _, ow⟩ := canLk_at rel hc
    obtain ⟨_, us, _, hb, _⟩ := ow
    exact ⟨_, hσ, .inl ⟨rfl, us, .inl (.inl hb)⟩, lm_fin hr rel .nil hσ q'⟩
  · exact q'.elim
end
end Vm
/-! Vm 11: what is walked; for -/
namespace Vm
open PySem PySem.Spec PyProof.Rows L2

/-! ### locks -/
section
variable {K : PySem.W.Frag} {g g' : Gh} {e e' : En} {as as' : Nat → Option Addr} {σ : L2.St} {H H' : Hp}
theorem Rel.lkSub (h : Rel K g e as σ H) {l : List (Nat × Addr × D)} (s : ∀ p ∈ l, p ∈ g.lk) : Rel K { g with lk := l } e as σ H :=
  ⟨h.len, h.sl, h.out, h.inj, h.own, h.iok, h.keep, fun p hp => h.lks p (s p hp), h.trB, h.trT, h.fz⟩
theorem Rel.lkAdd (h : Rel K g e as σ H) {i : Nat} {a : Addr} {d : D} {f : Bool} (ha : as i = some a) (hs : e[i]? = some (.lk f d)) : Rel K { g with lk := (i, a, d) :: g.lk } e as σ H :=
  ⟨h.len, h.sl, h.out, h.inj, h.own, h.iok, h.keep, fun p hp => by
    rcases List.mem_cons.mp hp with rfl | hp
    · exact ⟨ha, f, hs⟩
    · exact h.lks p hp, h.trB, h.trT, h.fz⟩
/-- a slot is locked -/
theorem Rel.lock (h : Rel K g e as σ H) {i : Nat} (c : canLk e i = true) : ∃ a d f, as i = some a ∧ rdS e i = some d ∧ (lkS e i)[i]? = some (.lk f d) ∧ (∀ j, j ≠ i → (lkS e i)[j]? = e[j]?) ∧ Rel K g (lkS e i) as σ H := by
  obtain ⟨a, d, ha, _, hd, _⟩ := canLk_at h c
  unfold canLk at c
  cases hs : e[i]? with
  | none => rw [hs] at c; cases c
  | some s =>
    have hi : i < e.length := (List.getElem?_eq_some_iff.mp hs).1
    rw [hs] at c
    have hd' : rdS e i = some d := hd
    unfold rdS at hd
    rw [hs] at hd
    cases s with
    | ow d' =>
      cases hd
      have e1 : lkS e i = e.set i (.lk false d) := by unfold lkS; rw [hs]
      rw [e1]
      refine ⟨a, d, false, ha, hd', by rw [List.getElem?_set_self hi], fun j hj => by rw [List.getElem?_set_ne (Ne.symm hj)], h.kind hs rfl (fun _ _ z => by cases z) fun o x q => ?_⟩
      cases q with
      | ow q => exact .lk q
    | io d' =>
      cases hd
      have e1 : lkS e i = e.set i (.lk true d) := by unfold lkS; rw [hs]
      rw [e1]
      refine ⟨a, d, true, ha, hd', by rw [List.getElem?_set_self hi], fun j hj => by rw [List.getElem?_set_ne (Ne.symm hj)], h.kind hs rfl (fun _ _ z => by cases z) fun o x q => ?_⟩
      cases q with
      | io q => exact .lk q
    | _ => cases c
/-- a slot is free again -/
theorem Rel.unlock (h : Rel K g e as σ H) (i : Nat) : Rel K { g with lk := g.lk.filter fun p => decide (p.1 ≠ i) } (ulS e i) as σ H := by
  have h1 : Rel K { g with lk := g.lk.filter fun p => decide (p.1 ≠ i) } e as σ H := h.lkSub fun p hp => (List.mem_filter.mp hp).1
  have nl : ∀ p ∈ g.lk.filter (fun p => decide (p.1 ≠ i)), p.1 ≠ i := fun p hp => of_decide_eq_true (List.mem_filter.mp hp).2
  unfold ulS
  split
  · rename_i d hs
    refine h1.kind' hs rfl nl fun o x q => ?_
    cases q with
    | lk q => exact .ow q
  · rename_i d hs
    refine h1.kind' hs rfl nl fun o x q => ?_
    cases q with
    | lk q => exact .io q
  · exact h1
theorem lk_ulS {p : Nat × Addr × D} {l : List (Nat × Addr × D)} {i : Nat} (h : p ∈ l) (n : p.1 ≠ i) : p ∈ l.filter fun p => decide (p.1 ≠ i) := List.mem_filter.mpr ⟨h, decide_eq_true n⟩
theorem Rel.unlockAll : ∀ {is : List Nat} {g : Gh} {e : En}, Rel K g e as σ H → ∀ {l : List (Nat × Addr × D)}, (∀ p ∈ l, p ∈ g.lk ∧ p.1 ∉ is) → Rel K { g with lk := l } (ulAll e is) as σ H
  | [], g, e, h, l, s => h.lkSub fun p hp => (s p hp).1
  | i :: is, g, e, h, l, s => by
    have := Rel.unlockAll (is := is) (h.unlock i) (l := l) fun p hp => ⟨lk_ulS (s p hp).1 fun z => (s p hp).2 (by rw [z]; exact List.mem_cons_self), fun z => (s p hp).2 (List.mem_cons_of_mem _ z)⟩
    exact this
theorem Rel.lockAll : ∀ {is : List Nat} {e : En}, Rel K g e as σ H → is.Nodup → (∀ i ∈ is, canLk e i = true) → Rel K g (lkAll e is) as σ H ∧ (∀ i ∈ is, ∃ a d f, as i = some a ∧ rdS e i = some d ∧ (lkAll e is)[i]? = some (.lk f d)) ∧ ∀ j, j ∉ is → (lkAll e is)[j]? = e[j]?
  | [], e, h, _, _ => ⟨h, (fun i z => by cases z), fun _ _ => rfl⟩
  | i :: is, e, h, nd, c => by
    obtain ⟨n1, n2⟩ := List.nodup_cons.mp nd
    obtain ⟨a, d, f, h1, h2, h3, h4, h5⟩ := h.lock (c i List.mem_cons_self)
    have c2 : ∀ j ∈ is, canLk (lkS e i) j = true := fun j hj => by
      have := c j (List.mem_cons_of_mem _ hj)
      unfold canLk at this ⊢
      rw [h4 j fun z => n1 (by rw [← z]; exact hj)]
      exact this
    obtain ⟨r1, r2, r3⟩ := Rel.lockAll (is := is) h5 n2 c2
    refine ⟨r1, fun j hj => ?_, fun j hj => ?_⟩
    · rcases List.mem_cons.mp hj with rfl | hj
      · exact ⟨a, d, f, h1, h2, (r3 j n1).trans h3⟩
      · obtain ⟨a', d', f', q1, q2, q3⟩ := r2 j hj
        refine ⟨a', d', f', q1, ?_, q3⟩
        unfold rdS at q2 ⊢
        rw [h4 j fun z => n1 (by rw [← z]; exact hj)] at q2
        exact q2
    · exact (r3 j fun z => hj (List.mem_cons_of_mem _ z)).trans (h4 j fun z => hj (by rw [z]; exact List.mem_cons_self))
end

/-! ### what is walked -/
/-- J gives ds, while the sources stand -/
def Wk (K : PySem.W.Frag) (J : It) (sds : List D) (svs : List V) (ds : List D) : Prop :=
  ∀ A H, Trk A H → BorL K A H sds svs → J.stop ds.length H ∧ ∀ i, i < ds.length → J.go i H ∧ ∀ x H', J.yld i H x H' → (∀ b o, H b = some o → H' b = some o) ∧ ∃ d, ds[i]? = some d ∧ Rep K A H' d x
/-- a source: a datum, or what a slot of is holds -/
def Src (K : PySem.W.Frag) (g : Gh) (is : List Nat) (e : En) (as : Nat → Option Addr) (H : Hp) (d : D) (v : V) : Prop :=
  Rep K (g.av as) H d v ∨ ∃ i ∈ is, ∃ a, v = .ref a ∧ as i = some a ∧ rdS e i = some d ∧ (canLk e i = true ∨ ∃ f, e[i]? = some (.lk f d))
def VI (K : PySem.W.Frag) (g : Gh) (is : List Nat) (ds : List D) (e : En) (as : Nat → Option Addr) (H : Hp) (J : It) : Prop := ∃ sds svs, Wk K J sds svs ds ∧ Paired (Src K g is e as H) sds svs
def tI (K : PySem.W.Frag) (g : Gh) (cl : Str → Option Value) (W : WX) (m : E) : TI := fun σ H R => ∃ e as, Rel K g e as σ H ∧ Post K g cl W (VI K g (srcs m)) R as σ H (evI m e)
def SI (X : Cx) (cl : Str → Option Value) (W : WX) (tg iter : Expr) (m : E) : Prop := ∀ g, PI X tg iter (tI X.K g cl W m)
section
variable {K : PySem.W.Frag} {g g' : Gh} {e e' : En} {as as' : Nat → Option Addr} {σ : L2.St} {H H' : Hp}
theorem src_var (h : Rel K g e as σ H) {i : Nat} {d : D} {is : List Nat} (hi : i ∈ is) (q : rdS e i = some d) : ∃ v, σ[i]? = some (some v) ∧ Src K g is e as H d v := by
  obtain ⟨v, hv, _⟩ := rdS_val h q
  refine ⟨v, hv, ?_⟩
  have q' := q
  unfold rdS at q
  cases hs : e[i]? with
  | none => rw [hs] at q; cases q
  | some s =>
    rw [hs] at q
    have r := h.sl i s hs
    rw [hv] at r
    have r : SlotR K (g.av as) H s (as i) (some v) := r
    generalize ho : as i = o at r
    cases r with
    | un => cases q
    | im r => cases q; exact .inl r
    | ow r => cases q; exact .inr ⟨i, hi, _, rfl, ho, q', .inl (by unfold canLk; rw [hs])⟩
    | io r => cases q; exact .inr ⟨i, hi, _, rfl, ho, q', .inl (by unfold canLk; rw [hs])⟩
    | lk r => cases q; exact .inr ⟨i, hi, _, rfl, ho, q', .inr ⟨_, hs⟩⟩
/-- sources that stand: data, or locked slots -/
def Std (K : PySem.W.Frag) (g : Gh) (as : Nat → Option Addr) (H : Hp) (d : D) (v : V) : Prop := Rep K (g.av as) H d v ∨ ∃ i a, v = .ref a ∧ (i, a, d) ∈ g.lk
theorem Std.bor (h : Rel K g e as σ H) {d : D} {v : V} (q : Std K g as H d v) : Bor K (g.av as) H d v := by
  rcases q with q | ⟨i, a, rfl, hp⟩
  · exact .rep q
  · obtain ⟨h1, f, h2⟩ := h.lks _ hp
    have r := h.sl i _ h2
    have h1 : as i = some a := h1
    rw [h1] at r
    generalize σ[i]?.join = y at r
    cases r with
    | lk r =>
      obtain ⟨ds, vs, rfl, e2, rl⟩ := r
      exact .own (.inr (.inr ⟨i, h1⟩)) e2 rl
theorem stdL_bor (h : Rel K g e as σ H) {ds : List D} {vs : List V} (q : Paired (Std K g as H) ds vs) : BorL K (g.av as) H ds vs := by
  induction q with
  | nil => exact .nil
  | cons r _ ih => exact .cons (r.bor h) ih
theorem paired_mono {α β : Type} {R S : α → β → Prop} {l : List α} {m : List β} (h : Paired R l m) (k : ∀ a b, R a b → S a b) : Paired S l m := by
  induction h with
  | nil => exact .nil
  | cons r _ ih => exact .cons (k _ _ r) ih
/-- the sources are locked -/
theorem lockSrc (h : Rel K g e as σ H) {is : List Nat} {sds : List D} {svs : List V} (q : Paired (Src K g is e as H) sds svs) (hf : is.filter (canLk e) = is') (nd : is.Nodup) :
    ∃ g', g'.Cv g ∧ Rel K g' (lkAll e is') as σ H ∧ Paired (Std K g' as H) sds svs ∧ (∀ p ∈ g.lk, p.1 ∉ is') ∧ g'.Z = g.Z ∧ ∀ j, j ∉ is' → (lkAll e is')[j]? = e[j]? := by
  subst hf
  obtain ⟨r1, r2, r3⟩ := Rel.lockAll (is := is.filter (canLk e)) h (nd.filter _) fun i hi => (List.mem_filter.mp hi).2
  have no : ∀ p ∈ g.lk, p.1 ∉ is.filter (canLk e) := fun p hp hi => by
    have := (List.mem_filter.mp hi).2
    obtain ⟨_, f, h2⟩ := h.lks p hp
    unfold canLk at this
    rw [h2] at this
    cases this
  have all : ∀ {sds : List D} {svs : List V}, Paired (Src K g is e as H) sds svs → ∃ l : List (Nat × Addr × D), Rel K { g with lk := l ++ g.lk } (lkAll e (is.filter (canLk e))) as σ H ∧ Paired (Std K { g with lk := l ++ g.lk } as H) sds svs := by
    intro sds svs q
    induction q with
    | nil => exact ⟨[], r1, .nil⟩
    | @cons d v ds vs r _ ih =>
      obtain ⟨l, ih1, ih2⟩ := ih
      rcases r with r | ⟨i, hi, a, rfl, ha, hd, hc⟩
      · exact ⟨l, ih1, .cons (.inl r) ih2⟩
      · have hl : ∃ f, (lkAll e (is.filter (canLk e)))[i]? = some (.lk f d) := by
          rcases hc with hc | ⟨f, hc⟩
          · obtain ⟨a', d', f, _, q2, q3⟩ := r2 i (List.mem_filter.mpr ⟨hi, hc⟩)
            rw [hd] at q2
            cases q2
            exact ⟨f, q3⟩
          · refine ⟨f, (r3 i fun z => ?_).trans hc⟩
            have := (List.mem_filter.mp z).2
            unfold canLk at this
            rw [hc] at this
            cases this
        obtain ⟨f, hl⟩ := hl
        refine ⟨(i, a, d) :: l, ih1.lkAdd ha hl, .cons (.inr ⟨i, a, rfl, List.mem_cons_self⟩) (paired_mono ih2 fun d v q => ?_)⟩
        rcases q with q | ⟨i, a, e1, e2⟩
        · exact .inl q
        · exact .inr ⟨i, a, e1, List.mem_cons_of_mem _ e2⟩
  obtain ⟨l, l1, l2⟩ := all q
  exact ⟨{ g with lk := l ++ g.lk }, ⟨rfl, rfl, rfl, rfl, fun p hp => List.mem_append_right _ hp, fun _ _ z => z⟩, l1, l2, no, rfl, r3⟩
theorem rowVars_nodup : ∀ m : E, (rowVars m).Nodup
  | .cons (.var i) r => by
    unfold rowVars
    split
    · exact rowVars_nodup r
    · rename_i h
      exact List.nodup_cons.mpr ⟨h, rowVars_nodup r⟩
  | .cons (.con _) r | .cons .nil r | .cons (.cons _ _) r | .cons (.tup _) r | .cons (.lst _) r | .cons (.pr _ _) r | .cons (.not _) r | .cons (.and _ _) r | .cons (.or _ _) r | .cons (.ite _ _ _) r | .cons (.chn _ _ _ _ _) r
  | .cons (.call _ _) r | .cons (.callT _ _) r | .cons (.lm _ _ _) r | .cons (.of _) r | .cons (.rng1 _) r | .cons (.rng2 _ _) r | .cons (.enum _) r | .cons (.enum2 _) r | .cons (.zip _) r | .cons (.zip3 _) r | .cons (.lc _ _ _ _ _) r => by
    unfold rowVars
    exact rowVars_nodup r
  | .var _ | .con _ | .nil | .tup _ | .lst _ | .pr _ _ | .not _ | .and _ _ | .or _ _ | .ite _ _ _ | .chn _ _ _ _ _
  | .call _ _ | .callT _ _ | .lm _ _ _ | .of _ | .rng1 _ | .rng2 _ _ | .enum _ | .enum2 _ | .zip _ | .zip3 _ | .lc _ _ _ _ _ => by
    unfold rowVars
    exact List.nodup_nil
theorem srcs_nodup (m : E) : (srcs m).Nodup := by
  unfold srcs
  split
  · simp
  · exact rowVars_nodup _
  · exact rowVars_nodup _
  · exact rowVars_nodup _
  · exact rowVars_nodup _
  · simp
end

/-! ### lists, tuples, ranges -/
section
variable {X : Cx} {cl : Str → Option Value} {W : WX} {a b c tg : Expr} {ma mb mc : E} {pos p1 p2 p3 : Pos}
def iSeq (K : PySem.W.Frag) (tl : TE) : TI := fun σ H R => tl σ H fun x H1 => ∃ a, x = .ref a ∧ (((∃ xs, SqL K H1 a xs) ∧ R (Itl K a) H1) ∨ ((∃ xs, SqT K H1 a xs) ∧ R (Itt K a) H1))
/-- a record that is laid: nothing else changes, and it may be an iterator -/
theorem laidIt {pins : List (Addr × Obj)} {σ : L2.St} {H : Hp} {s : Shared} (I : Inv X pins σ H s) (ob : Obj) :
    Inv X pins σ H { s with heap := s.heap.push ob } ∧ ∀ b ∈ [s.heap.objs.size], FpOk X pins H b :=
  ⟨I.kept (t' := s.toks) fun _ _ q => Heap.get?_push_of_some _ q, fun b hb => by
    cases List.mem_singleton.mp hb
    exact I.fpOk (Nat.le_refl _) (I.hok.fresh (Nat.le_refl _))⟩
theorem pi_seq {l : Expr} {tl : TE} (hl : PE X l tl) : PI X tg l (iSeq X.K tl) := by
  constructor
  intro pins s σ H R I h
  refine thn (hl.run pins s σ H _ I h) ?_
  rintro v t ⟨x, G, J, rx, a, rfl, hx⟩
  cases rx
  rcases hx with ⟨⟨xs, sq⟩, q⟩ | ⟨⟨xs, sq⟩, q⟩
  · obtain ⟨its, _, pl, _⟩ := J.list sq
    obtain ⟨J2, fr⟩ := laidIt J { cls := .type "list_iterator", data := .fields #[.ref a, .int 0 0] }
    exact wpAny_pyIter_list pl.isList ⟨_, _, _, _, G, rfl, J.kept (t' := t.toks) fun _ _ q => Heap.get?_push_of_some _ q, turn_list a _, ⟨_, Heap.get?_push_size _ rfl, rfl, rfl⟩, fr, q⟩
  · obtain ⟨its, _, pl, _⟩ := J.tuple sq
    obtain ⟨J2, fr⟩ := laidIt J { cls := .type "tuple_iterator", data := .fields #[.ref a, .int 0 0] }
    exact wpAny_pyIter_tuple (show t.heap.IsTuple a its.toArray from pl) ⟨_, _, _, _, G, rfl, J.kept (t' := t.toks) fun _ _ q => Heap.get?_push_of_some _ q, turn_tuple a _, ⟨_, Heap.get?_push_size _ rfl, rfl, rfl⟩, fr, q⟩
theorem weakI {e : Expr} {t t' : TI} (h : PI X tg e t) (k : ∀ σ H R, t' σ H R → t σ H R) : PI X tg e t' := ⟨fun pins s σ H R I q => h.run pins s σ H R I (k σ H R q)⟩
end
section
variable {K : PySem.W.Frag} {g g' : Gh} {e e' : En} {as as' : Nat → Option Addr} {σ : L2.St} {H H' : Hp}
theorem Bor.lst_inv {A : Addr → Prop} {ds : List D} {v : V} (h : Bor K A H (.list ds) v) : ∃ a vs, v = .ref a ∧ SqL K H a vs ∧ RepL K A H ds vs := by
  obtain ⟨a, vs, e1, hl, r⟩ := h.list
  exact ⟨a, vs, e1, hl.sq, r⟩
theorem wk_list {a : Addr} {ds : List D} : Wk K (Itl K a) [.list ds] [.ref a] ds := fun A H t b => by
  cases b with
  | cons h _ =>
    obtain ⟨a', vs, e1, sq, rl⟩ := Bor.lst_inv h
    cases e1
    refine ⟨⟨vs, sq, by rw [rl.length]; exact Nat.le_refl _⟩, fun i hi => ⟨⟨vs, vs[i]'(by rw [rl.length]; exact hi), sq, List.getElem?_eq_getElem _⟩, fun x H' y => ?_⟩⟩
    obtain ⟨rfl, y⟩ := y
    obtain ⟨d, h1, h2⟩ := rl.getV (y vs sq)
    exact ⟨fun _ _ z => z, d, h1, h2⟩
theorem wk_tup {a : Addr} {ds : List D} : Wk K (Itt K a) [.tuple ds] [.ref a] ds := fun A H t b => by
  cases b with
  | cons h _ =>
    obtain ⟨a', vs, e1, sq, rl⟩ := h.tuple
    cases e1
    refine ⟨⟨vs, sq.sq, by rw [rl.length]; exact Nat.le_refl _⟩, fun i hi => ⟨⟨vs, vs[i]'(by rw [rl.length]; exact hi), sq.sq, List.getElem?_eq_getElem _⟩, fun x H' y => ?_⟩⟩
    obtain ⟨rfl, y⟩ := y
    obtain ⟨d, h1, h2⟩ := rl.getV (y vs sq.sq)
    exact ⟨fun _ _ z => z, d, h1, h2⟩
theorem rngD_get {lo : Int} {n i : Nat} (h : i < n) : (rngD lo n)[i]? = some (.int (lo + i)) := by
  unfold rngD
  rw [List.getElem?_map, List.getElem?_range h]
  rfl
theorem rngD_len {lo : Int} {n : Nat} : (rngD lo n).length = n := by
  unfold rngD
  rw [List.length_map, List.length_range]
theorem wk_rng {lo : Int} {n : Nat} : Wk K (Itr lo n) [] [] (rngD lo n) := fun A H t b => by
  rw [rngD_len]
  refine ⟨Nat.le_refl _, fun i hi => ⟨hi, fun x H' y => ?_⟩⟩
  obtain ⟨rfl, rfl⟩ := y
  exact ⟨fun _ _ z => z, _, rngD_get hi, .int _⟩
end
section
variable {X : Cx} {cl : Str → Option Value} {W : WX} {a b c tg : Expr} {ma mb mc : E} {pos p1 p2 p3 : Pos}
theorem walk_seq {K : PySem.W.Frag} {g : Gh} {is : List Nat} {e : En} {as : Nat → Option Addr} {σ : L2.St} {H : Hp} {d : D} {ds : List D} {v : V} {R : It → Hp → Prop} (rel : Rel K g e as σ H) (s : Src K g is e as H d v) (b : Bor K (g.av as) H d v) (hw : walkD d = some ds)
    (q : ∀ J H' as', Rel K g e as' σ H' → Stp as as' H H' → VI K g is ds e as' H' J → R J H') : ∃ a, v = .ref a ∧ (((∃ xs, SqL K H a xs) ∧ R (Itl K a) H) ∨ ((∃ xs, SqT K H a xs) ∧ R (Itt K a) H)) := by
  unfold walkD at hw
  split at hw
  · cases hw
    obtain ⟨a, vs, rfl, sq, _⟩ := Bor.lst_inv b
    exact ⟨a, rfl, .inl ⟨⟨vs, sq⟩, q _ _ _ rel Stp.refl ⟨_, _, wk_list, .cons s .nil⟩⟩⟩
  · cases hw
    obtain ⟨a, vs, rfl, sq, _⟩ := b.tuple
    exact ⟨a, rfl, .inr ⟨⟨vs, sq.sq⟩, q _ _ _ rel Stp.refl ⟨_, _, wk_tup, .cons s .nil⟩⟩⟩
  · cases hw
theorem si_of (ha : SB X cl W a ma) : SI X cl W tg a (.of ma) := fun g => by
  refine weakI (pi_seq (ha.first g)) fun σ H R ⟨e, as, rel, q⟩ => ?_
  refine ⟨e, as, rel, ?_⟩
  unfold PostF
  split
  · rename_i i _
    simp only [evI] at q
    cases hd : rdS e i with
    | none => rw [hd] at q; exact q.elim
    | some d =>
      rw [hd] at q
      refine ⟨rfl, fun v hv => ?_⟩
      cases hw : walkD d with
      | none => rw [show (some d).bind walkD = walkD d from rfl, hw] at q; exact q.elim
      | some ds =>
        rw [show (some d).bind walkD = walkD d from rfl, hw] at q
        obtain ⟨v', hv', s⟩ := src_var (is := [i]) rel List.mem_cons_self hd
        obtain ⟨v2, hv2, b⟩ := rdS_val rel hd
        rw [hv] at hv' hv2
        cases hv'
        cases hv2
        exact walk_seq rel s b hw fun J H' as' r1 r2 r3 => q J H' as' r1 r2 r3
  · rename_i hm
    have q' : Post X.K g cl W (VI X.K g (srcs (.of ma))) R as σ H ((evE ma e).bind fun x e => lift (walkD x.1) e) := by
      cases ma with
      | var i => exact absurd rfl (hm i)
      | _ => simpa only [evI] using q
    refine Post.bind q' fun x e1 v H1 as1 rel1 st1 rv q1 => ?_
    have rp := (show RV X.K g x.2 e1 as1 σ H1 x.1 v from rv).rep
    cases hw : walkD x.1 with
    | none => rw [hw] at q1; exact q1.elim
    | some ds =>
      rw [hw] at q1
      exact walk_seq rel1 (.inl rp) (.rep rp) hw fun J H' as' r1 r2 r3 => q1 J H' as' r1 r2 r3
theorem intOf_some {d : D} {i : Int} (h : intOf d = some i) : d = .int i := by
  unfold intOf at h
  split at h
  · cases h; rfl
  · cases h
theorem inR_ok {i : Int} (h : inR i = true) : -(2 ^ 62) ≤ i ∧ i < 2 ^ 62 := by
  unfold inR at h
  simpa using h
theorem si_rng1 (hg : Gl X "range") (hm : X.mg "range" = none) (ha : SB X cl W a ma) : SI X cl W tg (.Call (.Name "range" p1) [a] [] pos) (.rng1 ma) := fun g =>
  weakI (pi_range1 hg hm (pa_cons (ha.se g) pa_nil (star_cons ha.ns)) (star_cons ha.ns)) fun σ H R ⟨e, as, rel, q⟩ => by
    simp only [evI] at q
    refine ⟨e, as, rel, Post.bind q fun x e1 v H1 as1 rel1 st1 rv q1 => ?_⟩
    have rp := (show RV X.K g x.2 e1 as1 σ H1 x.1 v from rv).rep
    cases hi : intOf x.1 with
    | none => rw [hi] at q1; exact q1.elim
    | some j =>
      rw [hi] at q1
      have q1 : Post X.K g cl W (VI X.K g []) R as1 σ H1 (lift (if inR j then some (rngD 0 j.toNat) else none) e1) := q1
      rw [intOf_some hi] at rp
      cases rp
      split at q1
      · rename_i hr
        obtain ⟨h1, h2⟩ := inR_ok hr
        exact ⟨j, rfl, h1, h2, q1 _ _ _ rel1 Stp.refl ⟨_, _, wk_rng, .nil⟩⟩
      · exact q1.elim
theorem si_rng2 (hg : Gl X "range") (hm : X.mg "range" = none) (ha : SB X cl W a ma) (hb : SB X cl W b mb) : SI X cl W tg (.Call (.Name "range" p1) [a, b] [] pos) (.rng2 ma mb) := fun g =>
  weakI (pi_range2 hg hm (pa_cons (ha.se g) (pa_cons (hb.se g) pa_nil (star_cons hb.ns)) (star_cons ha.ns)) (by rw [star_cons ha.ns, star_cons hb.ns]; rfl) (star_cons hb.ns)) fun σ H R ⟨e, as, rel, q⟩ => by
    simp only [evI] at q
    refine ⟨e, as, rel, Post.bind q fun x e1 v H1 as1 rel1 st1 rv q1 => ⟨e1, as1, rel1, Post.bind q1 fun y e2 u H2 as2 rel2 st2 ru q2 => ?_⟩⟩
    have rp := (show RV X.K g x.2 e1 as1 σ H1 x.1 v from rv).rep
    have rp2 := (show RV X.K g y.2 e2 as2 σ H2 y.1 u from ru).rep
    cases hi : intOf x.1 with
    | none => rw [hi] at q2; exact q2.elim
    | some i =>
      cases hj : intOf y.1 with
      | none => rw [hi, hj] at q2; exact q2.elim
      | some j =>
        rw [hi, hj] at q2
        have q2 : Post X.K g cl W (VI X.K g []) R as2 σ H2 (lift (if inR i && inR j then some (rngD i (j - i).toNat) else none) e2) := q2
        rw [intOf_some hi] at rp
        cases rp
        rw [intOf_some hj] at rp2
        cases rp2
        split at q2
        · rename_i hr
          rw [Bool.and_eq_true] at hr
          obtain ⟨h1, h2⟩ := inR_ok hr.1
          obtain ⟨h3, h4⟩ := inR_ok hr.2
          exact ⟨i, j, rfl, ⟨h1, h2, h3, h4⟩, q2 _ _ _ rel2 Stp.refl ⟨_, _, wk_rng, .nil⟩⟩
        · exact q2.elim
end
end Vm
/-! Vm 11, enumerate and zip over lists and tuples -/
namespace Vm
open PySem PySem.Spec PyProof.Rows L2
inductive Wd where
  | lst | tup
def itAt (k : Wd) (h : Heap) (it a : Addr) (i : Nat) : Prop := match k with
  | .lst => h.IsListIter it a i
  | .tup => h.IsTupleIter it a i
def isAt (k : Wd) (h : Heap) (a : Addr) (items : Array Value) : Prop := match k with
  | .lst => h.IsList a items
  | .tup => h.IsTuple a items
def SqK (k : Wd) (K : PySem.W.Frag) (H : Hp) (a : Addr) (xs : List V) : Prop := match k with
  | .lst => SqL K H a xs
  | .tup => SqT K H a xs
theorem sq_now {k : Wd} {X : Cx} {pins : List (Addr × Obj)} {σ : L2.St} {H : Hp} {s : Shared} {a : Addr} {xs : List V} (I : Inv X pins σ H s) (h : SqK k X.K H a xs) : ∃ its : List Value, Vals xs its ∧ isAt k s.heap a its.toArray := by
  cases k with
  | lst =>
    obtain ⟨its, r, p, _⟩ := I.list h
    exact ⟨its, r, p.isList⟩
  | tup =>
    obtain ⟨its, r, p, _⟩ := I.tuple h
    exact ⟨its, r, p⟩
theorem drawsK (k : Wd) {prog : Program} {w : World} {A : Around} (hh : A.handled = none) (it a : Addr) (hne : a ≠ it) (items : Array Value) :
    Draws prog w A it [it, a] items.size (fun i v => items[i]? = some v) (fun i h => itAt k h it a i ∧ isAt k h a items) := by
  cases k with
  | lst => exact Draws.list hh it a hne items
  | tup => exact Draws.tuple hh it a hne items
theorem apart1 {k : Wd} {h : Heap} {it a : Addr} {i : Nat} {items : Array Value} (h1 : itAt k h it a i) (h2 : isAt k h a items) : a ≠ it := by
  rintro rfl
  cases k with
  | lst =>
    obtain ⟨o, e, _, d⟩ := h1
    obtain ⟨o2, e2, _, n, d2⟩ := h2
    rw [e] at e2
    cases e2
    rw [d] at d2
    cases d2
  | tup =>
    obtain ⟨o, e, _, d⟩ := h1
    obtain ⟨o2, e2, _, n, d2⟩ := h2
    rw [e] at e2
    cases e2
    rw [d] at d2
    cases d2
theorem sz2' : 2 ≤ sizeLine := by decide
/-- enumerate: the number, the item, in a new pair -/
def ItEn (k : Wd) (K : PySem.W.Frag) (a : Addr) (k0 : Int) : It :=
  ⟨fun i H => ∃ (xs : List V) (x : V), SqK k K H a xs ∧ xs[i]? = some x,
   fun i H v H' => ∃ T x, v = .ref T ∧ H T = none ∧ H' = upd H T (.tup [.int (k0 + (i : Int)), x]) ∧ ∀ xs, SqK k K H a xs → xs[i]? = some x,
   fun i H => ∃ xs : List V, SqK k K H a xs ∧ xs.length = i⟩
theorem sqK_inj {k : Wd} {X : Cx} {pins : List (Addr × Obj)} {σ : L2.St} {H : Hp} {s : Shared} {a : Addr} {xs ys : List V} (I : Inv X pins σ H s) (h1 : SqK k X.K H a xs) (h2 : SqK k X.K H a ys) : xs = ys := by
  cases k with
  | lst => exact I.list_inj h1 h2
  | tup => exact I.tuple_inj h1 h2
theorem itAt_keep {k : Wd} {h h' : Heap} {it a : Addr} {i : Nat} (q : itAt k h it a i) (z : ∀ o, h.get? it = some o → h'.get? it = some o) : itAt k h' it a i := by
  cases k with
  | lst => obtain ⟨o, e, r⟩ := q; exact ⟨o, z o e, r⟩
  | tup => obtain ⟨o, e, r⟩ := q; exact ⟨o, z o e, r⟩
theorem itAt_obj {k : Wd} {h : Heap} {it a : Addr} {i : Nat} (q : itAt k h it a i) : ∃ o, h.get? it = some o ∧ ∀ v, o.data ≠ .cell v := by
  cases k with
  | lst => obtain ⟨o, e, _, d⟩ := q; exact ⟨o, e, fun v z => by rw [d] at z; cases z⟩
  | tup => obtain ⟨o, e, _, d⟩ := q; exact ⟨o, e, fun v z => by rw [d] at z; cases z⟩
theorem turn_en {P : Program} {w : World} {K : PySem.W.Frag} {elts : List Expr} {kk : Nat} {tpos : Pos} (k : Wd) (a e it : Addr) (k0 : Int) :
    Turn P w K (.Tuple elts kk tpos) (ItEn k K a k0) [e, it] e (fun i h => (∃ old, IsEnum h e it (k0 + (i : Int)) old) ∧ itAt k h it a i ∧ e ≠ it) where
  mem := by simp
  obj := fun i h st b hb => by
    obtain ⟨⟨old, he⟩, hit, _⟩ := st
    rcases List.mem_cons.mp hb with rfl | hb
    · exact ⟨_, he, fun v q => nomatch q⟩
    · cases List.mem_singleton.mp hb
      exact itAt_obj hit
  keep := fun i h h' st z => let ⟨⟨old, he⟩, hit, hne⟩ := st; ⟨⟨old, z e (by simp) _ he⟩, itAt_keep hit (z it (by simp)), hne⟩
  item := by
    intro X hP hw hK hc i pins s σ H E I hf st hg
    subst hP hw hK
    obtain ⟨hen, hit, hne⟩ := st
    obtain ⟨xs, x, hq, hx⟩ := hg
    obtain ⟨its, rv, p⟩ := sq_now I hq
    obtain ⟨u, hu, ru⟩ := rv.get hx
    have ai := apart1 hit p
    have ae : e ≠ a := by
      rintro rfl
      obtain ⟨old, he⟩ := hen
      cases k with
      | lst => obtain ⟨o, e1, _, n, d⟩ := p; rw [he] at e1; cases e1; cases d
      | tup => obtain ⟨o, e1, _, n, d⟩ := p; rw [he] at e1; cases e1; cases d
    have G := GoesN.enumFrom (elts := elts) (x1 := kk) (pos := tpos) k0 (drawsK k (prog := X.prog) (w := X.w) (A := X.A.in1) (I.ok.hd hc) it a ai its.toArray) e hne (by simp [hne, ae]) (by simp)
    have hlt : i < its.toArray.size := by
      rw [List.size_toArray]
      exact (List.getElem?_eq_some_iff.mp hu).1
    refine G.goes i s _ E hlt ⟨hen, hit, p⟩ fun v h' tk Y St' kept _ => ?_
    obtain ⟨T, t, x', rfl, hT, hx', tup⟩ := Y
    have ex : x' = u := by
      have : its[i]? = some x' := by simpa using hx'
      rw [hu] at this
      exact (Option.some.inj this).symm
    subst ex
    have new : ObjOk X.prog X.w (upd H T (.tup [.int (k0 + (i : Int)), x])) h' T (.tup [.int (k0 + (i : Int)), x]) := ⟨sz2', _, .cons ⟨t, rfl⟩ (.cons ru .nil), tup⟩
    have I1 : Inv X pins σ (upd H T (.tup [.int (k0 + (i : Int)), x])) { s with heap := h', toks := tk } := I.turnedNew (ch := [e, it]) kept hf hT new
    refine ⟨.ref T, _, I1, rfl, ⟨T, x, rfl, I.hok.fresh hT, rfl, fun ys hy => by rw [sqK_inj I hy hq]; exact hx⟩, ⟨St'.1, St'.2.1, hne⟩, fun b hb => ?_⟩
    have hlt2 : b < s.heap.objs.size := by
      rcases List.mem_cons.mp hb with rfl | hb
      · obtain ⟨old, he⟩ := hen; exact Heap.lt_size he
      · cases List.mem_singleton.mp hb
        obtain ⟨o, z, _⟩ := itAt_obj hit
        exact Heap.lt_size z
    rw [upd_ne (Nat.ne_of_lt (Nat.lt_of_lt_of_le hlt2 hT))]
    exact (hf b hb).1
  done := by
    intro X hP hw hK hc i pins s σ H E I hf st hg
    subst hP hw hK
    obtain ⟨hen, hit, hne⟩ := st
    obtain ⟨xs, hq, hx⟩ := hg
    obtain ⟨its, rv, p⟩ := sq_now I hq
    have ai := apart1 hit p
    have ae : e ≠ a := by
      rintro rfl
      obtain ⟨old, he⟩ := hen
      cases k with
      | lst => obtain ⟨o, e1, _, n, d⟩ := p; rw [he] at e1; cases e1; cases d
      | tup => obtain ⟨o, e1, _, n, d⟩ := p; rw [he] at e1; cases e1; cases d
    have G := GoesN.enumFrom (elts := elts) (x1 := kk) (pos := tpos) k0 (drawsK k (prog := X.prog) (w := X.w) (A := X.A.in1) (I.ok.hd hc) it a ai its.toArray) e hne (by simp [hne, ae]) (by simp)
    have hn : its.toArray.size = i := by
      rw [List.size_toArray, ← rv.length]
      exact hx
    rw [hn] at G
    exact G.stops s _ E ⟨hen, hit, p⟩ fun h' tk kept _ => I.turnedL (ch := [e, it]) kept hf
  self := fun A i s Q E st h => let ⟨⟨_, he⟩, _⟩ := st; wpAny_pyIter_enum he h

/-! ### zip of two, of three -/
def ItZ2 (k1 k2 : Wd) (K : PySem.W.Frag) (a b : Addr) : It :=
  ⟨fun i H => ∃ (xs ys : List V) (x y : V), SqK k1 K H a xs ∧ SqK k2 K H b ys ∧ xs[i]? = some x ∧ ys[i]? = some y,
   fun i H v H' => ∃ T x y, v = .ref T ∧ H T = none ∧ H' = upd H T (.tup [x, y]) ∧ (∀ xs, SqK k1 K H a xs → xs[i]? = some x) ∧ ∀ ys, SqK k2 K H b ys → ys[i]? = some y,
   fun i H => ∃ xs ys : List V, SqK k1 K H a xs ∧ SqK k2 K H b ys ∧ min xs.length ys.length = i⟩
def ItZ3 (k1 k2 k3 : Wd) (K : PySem.W.Frag) (a b c : Addr) : It :=
  ⟨fun i H => ∃ (xs ys zs : List V) (x y z : V), SqK k1 K H a xs ∧ SqK k2 K H b ys ∧ SqK k3 K H c zs ∧ xs[i]? = some x ∧ ys[i]? = some y ∧ zs[i]? = some z,
   fun i H v H' => ∃ T x y z, v = .ref T ∧ H T = none ∧ H' = upd H T (.tup [x, y, z]) ∧ (∀ xs, SqK k1 K H a xs → xs[i]? = some x) ∧ (∀ ys, SqK k2 K H b ys → ys[i]? = some y) ∧ ∀ zs, SqK k3 K H c zs → zs[i]? = some z,
   fun i H => ∃ xs ys zs : List V, SqK k1 K H a xs ∧ SqK k2 K H b ys ∧ SqK k3 K H c zs ∧ min (min xs.length ys.length) zs.length = i⟩
theorem memIn {α : Type} {c : α} {l m : List α} (h : ∀ x ∈ l, x ∈ m) (q : c ∈ l) : c ∈ m := h c q
theorem get_one {its : List Value} {i : Nat} {u x' : Value} (hu : its[i]? = some u) (hx : its.toArray[i]? = some x') : x' = u := by
  have : its[i]? = some x' := by simpa using hx
  rw [hu] at this
  exact (Option.some.inj this).symm
theorem lt_arr {its : List Value} {i : Nat} {u : Value} (hu : its[i]? = some u) : i < its.toArray.size := by
  rw [List.size_toArray]
  exact (List.getElem?_eq_some_iff.mp hu).1
theorem turn_z2 {P : Program} {w : World} {K : PySem.W.Frag} {elts : List Expr} {kk : Nat} {tpos : Pos} (k1 k2 : Wd) {a b z TI TO i1 i2 : Addr} (D : ZipSep2 z TI TO i1 i2 [i1, a] [i2, b]) :
    Turn P w K (.Tuple elts kk tpos) (ItZ2 k1 k2 K a b) [z, TI, TO, i1, i2] z (fun i h => IsZip h z TI TO .none ∧ IsTupOf2 h TI (.ref i1) (.ref i2) ∧ (∃ x y, IsTupOf2 h TO x y) ∧ itAt k1 h i1 a i ∧ itAt k2 h i2 b i) where
  mem := by simp
  obj := fun i h st c hc => by
    obtain ⟨hz, hTI, ⟨x, y, hTO⟩, h1, h2⟩ := st
    have e' : c = z ∨ c = TI ∨ c = TO ∨ c = i1 ∨ c = i2 := by simpa using hc
    rcases e' with q | q | q | q | q
    · rw [q]; exact ⟨_, hz, fun v q => nomatch q⟩
    · rw [q]; exact ⟨_, hTI, fun v q => nomatch q⟩
    · rw [q]; exact ⟨_, hTO, fun v q => nomatch q⟩
    · rw [q]; exact itAt_obj h1
    · rw [q]; exact itAt_obj h2
  keep := fun i h h' st k => by
    obtain ⟨hz, hTI, ⟨x, y, hTO⟩, h1, h2⟩ := st
    exact ⟨k z (by simp) _ hz, k TI (by simp) _ hTI, ⟨x, y, k TO (by simp) _ hTO⟩, itAt_keep h1 fun o q => k i1 (by simp) o q, itAt_keep h2 fun o q => k i2 (by simp) o q⟩
  item := by
    intro X hP hw hK hc i pins s σ H E I hf st hg
    subst hP hw hK
    obtain ⟨hz, hTI, ⟨x0, y0, hTO⟩, h1, h2⟩ := st
    obtain ⟨xs, ys, x, y, hqx, hqy, hx, hy⟩ := hg
    obtain ⟨its, rv, p⟩ := sq_now I hqx
    obtain ⟨its2, rv2, p2⟩ := sq_now I hqy
    obtain ⟨u, hu, ru⟩ := rv.get hx
    obtain ⟨u2, hu2, ru2⟩ := rv2.get hy
    have G := GoesN.zip2 (elts := elts) (x1 := kk) (pos := tpos) D (drawsK k1 (prog := X.prog) (w := X.w) (A := X.A.in1) (I.ok.hd hc) i1 a (apart1 h1 p) its.toArray) (drawsK k2 (prog := X.prog) (w := X.w) (A := X.A.in1) (I.ok.hd hc) i2 b (apart1 h2 p2) its2.toArray)
    refine G.goes i s _ E (by have := lt_arr hu; have := lt_arr hu2; omega) ⟨hz, hTI, ⟨x0, y0, hTO⟩, ⟨h1, p⟩, ⟨h2, p2⟩⟩ fun v h' tk Y St' kept _ => ?_
    obtain ⟨T, x', y', rfl, hT, hx', hy', tup⟩ := Y
    rw [get_one hu hx', get_one hu2 hy'] at tup
    have new : ObjOk X.prog X.w (upd H T (.tup [x, y])) h' T (.tup [x, y]) := ⟨sz2', _, .cons ru (.cons ru2 .nil), tup⟩
    have I1 : Inv X pins σ (upd H T (.tup [x, y])) { s with heap := h', toks := tk } := I.turnedNew (ch := [z, TI, TO, i1, i2]) (fun c o hb q => kept c o (fun q' => hb (memIn (by simp) q')) q) hf hT new
    obtain ⟨s1, s2, s3, s4, s5⟩ := St'
    refine ⟨.ref T, _, I1, rfl, ⟨T, x, y, rfl, I.hok.fresh hT, rfl, fun l hl => by rw [sqK_inj I hl hqx]; exact hx, fun l hl => by rw [sqK_inj I hl hqy]; exact hy⟩, ⟨s1, s2, s3, s4.1, s5.1⟩, fun c hcm => ?_⟩
    have hlt : c < s.heap.objs.size := by
      have e' : c = z ∨ c = TI ∨ c = TO ∨ c = i1 ∨ c = i2 := by simpa using hcm
      rcases e' with q | q | q | q | q
      · rw [q]; exact Heap.lt_size hz
      · rw [q]; exact Heap.lt_size hTI
      · rw [q]; exact Heap.lt_size hTO
      · rw [q]; obtain ⟨_, e1, _⟩ := itAt_obj h1; exact Heap.lt_size e1
      · rw [q]; obtain ⟨_, e1, _⟩ := itAt_obj h2; exact Heap.lt_size e1
    rw [upd_ne (Nat.ne_of_lt (Nat.lt_of_lt_of_le hlt hT))]
    exact (hf c hcm).1
  done := by
    intro X hP hw hK hc i pins s σ H E I hf st hg
    subst hP hw hK
    obtain ⟨hz, hTI, ⟨x0, y0, hTO⟩, h1, h2⟩ := st
    obtain ⟨xs, ys, hqx, hqy, hend⟩ := hg
    obtain ⟨its, rv, p⟩ := sq_now I hqx
    obtain ⟨its2, rv2, p2⟩ := sq_now I hqy
    have G := GoesN.zip2 (elts := elts) (x1 := kk) (pos := tpos) D (drawsK k1 (prog := X.prog) (w := X.w) (A := X.A.in1) (I.ok.hd hc) i1 a (apart1 h1 p) its.toArray) (drawsK k2 (prog := X.prog) (w := X.w) (A := X.A.in1) (I.ok.hd hc) i2 b (apart1 h2 p2) its2.toArray)
    rw [show min its.toArray.size its2.toArray.size = i by rw [List.size_toArray, List.size_toArray, ← rv.length, ← rv2.length]; exact hend] at G
    exact G.stops s _ E ⟨hz, hTI, ⟨x0, y0, hTO⟩, ⟨h1, p⟩, ⟨h2, p2⟩⟩ fun h' tk kept _ => I.turnedL (ch := [z, TI, TO, i1, i2]) (fun c o hb q => kept c o (fun q' => hb (memIn (by simp) q')) q) hf
  self := fun A i s Q E st h => wpAny_pyIter_zip st.1 h
theorem turn_z3 {P : Program} {w : World} {K : PySem.W.Frag} {elts : List Expr} {kk : Nat} {tpos : Pos} (k1 k2 k3 : Wd) {a b c z TI TO i1 i2 i3 : Addr} (D : ZipSep3 z TI TO i1 i2 i3 [i1, a] [i2, b] [i3, c]) :
    Turn P w K (.Tuple elts kk tpos) (ItZ3 k1 k2 k3 K a b c) [z, TI, TO, i1, i2, i3] z (fun i h => IsZip h z TI TO .none ∧ IsTupOf3 h TI (.ref i1) (.ref i2) (.ref i3) ∧ (∃ x y u, IsTupOf3 h TO x y u) ∧ itAt k1 h i1 a i ∧ itAt k2 h i2 b i ∧ itAt k3 h i3 c i) where
  mem := by simp
  obj := fun i h st c' hc => by
    obtain ⟨hz, hTI, ⟨x, y, u, hTO⟩, h1, h2, h3⟩ := st
    have e' : c' = z ∨ c' = TI ∨ c' = TO ∨ c' = i1 ∨ c' = i2 ∨ c' = i3 := by simpa using hc
    rcases e' with q | q | q | q | q | q
    · rw [q]; exact ⟨_, hz, fun v q => nomatch q⟩
    · rw [q]; exact ⟨_, hTI, fun v q => nomatch q⟩
    · rw [q]; exact ⟨_, hTO, fun v q => nomatch q⟩
    · rw [q]; exact itAt_obj h1
    · rw [q]; exact itAt_obj h2
    · rw [q]; exact itAt_obj h3
  keep := fun i h h' st k => by
    obtain ⟨hz, hTI, ⟨x, y, u, hTO⟩, h1, h2, h3⟩ := st
    exact ⟨k z (by simp) _ hz, k TI (by simp) _ hTI, ⟨x, y, u, k TO (by simp) _ hTO⟩, itAt_keep h1 fun o q => k i1 (by simp) o q, itAt_keep h2 fun o q => k i2 (by simp) o q, itAt_keep h3 fun o q => k i3 (by simp) o q⟩
  item := by
    intro X hP hw hK hc i pins s σ H E I hf st hg
    subst hP hw hK
    obtain ⟨hz, hTI, ⟨x0, y0, z0, hTO⟩, h1, h2, h3⟩ := st
    obtain ⟨xs, ys, zs, x, y, zz, hqx, hqy, hqz, hx, hy, hzz⟩ := hg
    obtain ⟨its, rv, p⟩ := sq_now I hqx
    obtain ⟨its2, rv2, p2⟩ := sq_now I hqy
    obtain ⟨its3, rv3, p3⟩ := sq_now I hqz
    obtain ⟨u, hu, ru⟩ := rv.get hx
    obtain ⟨u2, hu2, ru2⟩ := rv2.get hy
    obtain ⟨u3, hu3, ru3⟩ := rv3.get hzz
    have G := GoesN.zip3 (elts := elts) (x1 := kk) (pos := tpos) D (drawsK k1 (prog := X.prog) (w := X.w) (A := X.A.in1) (I.ok.hd hc) i1 a (apart1 h1 p) its.toArray) (drawsK k2 (prog := X.prog) (w := X.w) (A := X.A.in1) (I.ok.hd hc) i2 b (apart1 h2 p2) its2.toArray) (drawsK k3 (prog := X.prog) (w := X.w) (A := X.A.in1) (I.ok.hd hc) i3 c (apart1 h3 p3) its3.toArray)
    refine G.goes i s _ E (by have := lt_arr hu; have := lt_arr hu2; have := lt_arr hu3; omega) ⟨hz, hTI, ⟨x0, y0, z0, hTO⟩, ⟨h1, p⟩, ⟨h2, p2⟩, ⟨h3, p3⟩⟩ fun v h' tk Y St' kept _ => ?_
    obtain ⟨T, x', y', z', rfl, hT, hx', hy', hz', tup⟩ := Y
    rw [get_one hu hx', get_one hu2 hy', get_one hu3 hz'] at tup
    have new : ObjOk X.prog X.w (upd H T (.tup [x, y, zz])) h' T (.tup [x, y, zz]) := ⟨by show 3 ≤ sizeLine; decide, _, .cons ru (.cons ru2 (.cons ru3 .nil)), tup⟩
    have I1 : Inv X pins σ (upd H T (.tup [x, y, zz])) { s with heap := h', toks := tk } := I.turnedNew (ch := [z, TI, TO, i1, i2, i3]) (fun c o hb q => kept c o (fun q' => hb (memIn (by simp) q')) q) hf hT new
    obtain ⟨s1, s2, s3, s4, s5, s6⟩ := St'
    refine ⟨.ref T, _, I1, rfl, ⟨T, x, y, zz, rfl, I.hok.fresh hT, rfl, fun l hl => by rw [sqK_inj I hl hqx]; exact hx, fun l hl => by rw [sqK_inj I hl hqy]; exact hy, fun l hl => by rw [sqK_inj I hl hqz]; exact hzz⟩, ⟨s1, s2, s3, s4.1, s5.1, s6.1⟩, fun c' hcm => ?_⟩
    have hlt : c' < s.heap.objs.size := by
      have e' : c' = z ∨ c' = TI ∨ c' = TO ∨ c' = i1 ∨ c' = i2 ∨ c' = i3 := by simpa using hcm
      rcases e' with q | q | q | q | q | q
      · rw [q]; exact Heap.lt_size hz
      · rw [q]; exact Heap.lt_size hTI
      · rw [q]; exact Heap.lt_size hTO
      · rw [q]; obtain ⟨_, e1, _⟩ := itAt_obj h1; exact Heap.lt_size e1
      · rw [q]; obtain ⟨_, e1, _⟩ := itAt_obj h2; exact Heap.lt_size e1
      · rw [q]; obtain ⟨_, e1, _⟩ := itAt_obj h3; exact Heap.lt_size e1
    rw [upd_ne (Nat.ne_of_lt (Nat.lt_of_lt_of_le hlt hT))]
    exact (hf c' hcm).1
  done := by
    intro X hP hw hK hc i pins s σ H E I hf st hg
    subst hP hw hK
    obtain ⟨hz, hTI, ⟨x0, y0, z0, hTO⟩, h1, h2, h3⟩ := st
    obtain ⟨xs, ys, zs, hqx, hqy, hqz, hend⟩ := hg
    obtain ⟨its, rv, p⟩ := sq_now I hqx
    obtain ⟨its2, rv2, p2⟩ := sq_now I hqy
    obtain ⟨its3, rv3, p3⟩ := sq_now I hqz
    have G := GoesN.zip3 (elts := elts) (x1 := kk) (pos := tpos) D (drawsK k1 (prog := X.prog) (w := X.w) (A := X.A.in1) (I.ok.hd hc) i1 a (apart1 h1 p) its.toArray) (drawsK k2 (prog := X.prog) (w := X.w) (A := X.A.in1) (I.ok.hd hc) i2 b (apart1 h2 p2) its2.toArray) (drawsK k3 (prog := X.prog) (w := X.w) (A := X.A.in1) (I.ok.hd hc) i3 c (apart1 h3 p3) its3.toArray)
    rw [show min (min its.toArray.size its2.toArray.size) its3.toArray.size = i by rw [List.size_toArray, List.size_toArray, List.size_toArray, ← rv.length, ← rv2.length, ← rv3.length]; exact hend] at G
    exact G.stops s _ E ⟨hz, hTI, ⟨x0, y0, z0, hTO⟩, ⟨h1, p⟩, ⟨h2, p2⟩, ⟨h3, p3⟩⟩ fun h' tk kept _ => I.turnedL (ch := [z, TI, TO, i1, i2, i3]) (fun c o hb q => kept c o (fun q' => hb (memIn (by simp) q')) q) hf
  self := fun A i s Q E st h => wpAny_pyIter_zip st.1 h

/-! ### how they begin -/
def itObj (k : Wd) (a : Addr) : Obj := match k with
  | .lst => { cls := .type "list_iterator", data := .fields #[.ref a, .int 0 0] }
  | .tup => { cls := .type "tuple_iterator", data := .fields #[.ref a, .int 0 0] }
theorem beginsK (k : Wd) (a : Addr) (items : Array Value) : Begins (.ref a) (itObj k a) fun h => isAt k h a items := by
  cases k with
  | lst => exact begins_list a items
  | tup => exact begins_tuple a items
theorem itAt_0 {k : Wd} {h : Heap} {it a : Addr} (e : h.get? it = some (itObj k a)) : itAt k h it a 0 := by
  cases k with
  | lst => exact ⟨_, e, rfl, rfl⟩
  | tup => exact ⟨_, e, rfl, rfl⟩
theorem isAt_lt {k : Wd} {h : Heap} {a : Addr} {items : Array Value} (p : isAt k h a items) : a < h.objs.size := by
  cases k with
  | lst => obtain ⟨o, e, _⟩ := p; exact Heap.lt_size e
  | tup => obtain ⟨o, e, _⟩ := p; exact Heap.lt_size e
set_option maxHeartbeats 1000000 in
theorem meets_enumerate_newB1 {v : Value} {o : Obj} {H : Heap → Prop} (B : Begins v o H) :
    Meets (Builtin.«enumerate.__new__» ⟨[.type "enumerate", v], []⟩) (fun _ R s => H s.heap ∧
      R (.ok (.ret (.ref (s.heap.push o).objs.size))) { s with heap := (s.heap.push o).push { cls := .type "enumerate", data := .fields #[.none, .bool false, .ref s.heap.objs.size, rawInt 0, .none, .none] } }) :=
  .of_wp fun prog w A R s h => by
    obtain ⟨hp, g, d, tk, os⟩ := s; obtain ⟨h1, h⟩ := h
    have hsub := sub_enumerate
    have q1 : ∀ {A' : Around} {E : Value → Shared → Prop} {Q : Value → Shared → Prop}, Q (.ref hp.objs.size) ⟨hp.push o, g, d, tk, os⟩ → wpAny (model prog w) A' (pyIter v) Q E ⟨hp, g, d, tk, os⟩ :=
      fun q => B.iter prog w _ _ ⟨hp, g, d, tk, os⟩ _ h1 q
    wp_walk using q1
    refine wpAny_stack_any fun st => wpAny_pure ?_
    split
    · rename_i c _ _ _ _ _
      cases (c == Value.type "enumerate")
      · wp_walk using q1
        exact ⟨_, rfl, h⟩
      · wp_walk using q1
        exact ⟨_, rfl, h⟩
    · wp_walk using q1
      exact ⟨_, rfl, h⟩
theorem enum_begins1 {prog : Program} {w : World} {A : Around} {E : Value → Shared → Prop} {s : Shared} {v : Value} {o : Obj} {H : Heap → Prop} {Q : Value → Shared → Prop} (B : Begins v o H) (h1 : H s.heap)
    (h : ∀ h', IsEnum h' (s.heap.objs.size + 1) s.heap.objs.size 0 .none → h'.get? s.heap.objs.size = some o → h'.objs.size = s.heap.objs.size + 2 →
      (∀ b o, s.heap.get? b = some o → h'.get? b = some o) → Q (.ref (s.heap.objs.size + 1)) { s with heap := h' }) :
    wpAny (model prog w) A (call (.type "enumerate") [v]) Q E s := by
  refine callType_new F.called_enumerate (by decide) (F.typeCall_enumerate_1 _) (F.newCall_enumerate_1 _) (fun obj => F.args_object_init_2 obj _) F.entry_enumerate_new
    (meets_enumerate_newB1 B) ⟨h1, ?_⟩
  have hz : (s.heap.push o).objs.size = s.heap.objs.size + 1 := Heap.size_push ..
  show _ ∧ _
  rw [hz]
  have he : IsEnum ((s.heap.push o).push { cls := .type "enumerate", data := .fields #[.none, .bool false, .ref s.heap.objs.size, rawInt 0, .none, .none] }) (s.heap.objs.size + 1) s.heap.objs.size 0 .none := by
    have := Heap.get?_push_size (s.heap.push o) (o := { cls := .type "enumerate", data := .fields #[.none, .bool false, .ref s.heap.objs.size, rawInt 0, .none, .none] }) rfl
    rw [hz] at this; exact this
  refine ⟨⟨_, he, rfl⟩, h _ he (Heap.get?_push_of_some _ (Heap.get?_push_size _ B.free)) (by rw [Heap.size_push, hz]) fun b o x => Heap.get?_push_of_some _ (Heap.get?_push_of_some _ x)⟩
theorem farK {n k a : Nat} (h : a < n) : ¬ n + k = a := by omega
theorem far0 {n a : Nat} (h : a < n) : ¬ n = a := by omega
theorem farE {n k : Nat} (h : n = n + (k + 1)) : False := by omega
section
variable {X : Cx} {e e2 e3 : Expr} {ta : TA} {p pos tpos p2 : Pos} {elts : List Expr} {kk : Nat}
def iEn (K : PySem.W.Frag) (k0 : Int) (ta : TA) : TI := fun σ H R => ta σ H fun vs H1 => ∃ k a xs, vs = [.ref a] ∧ SqK k K H1 a xs ∧ R (ItEn k K a k0) H1
theorem pi_en1 (hg : Gl X "enumerate") (hm : X.mg "enumerate" = none) (ha : PA X [e] ta) (hs : starEach [e] X.env = (false, eval e X.env) :: starEach [] X.env) :
    PI X (.Tuple elts kk tpos) (.Call (.Name "enumerate" p) [e] [] pos) (iEn X.K 0 ta) := by
  refine ⟨fun pins s σ H R I h => ?_⟩
  refine Call_ (ld_blt I hg hm boot_enumerate (PyProof.Rows.callWith_type1 (thn (ha.run pos pins s σ H _ I h) fun us s1 ⟨vs, H1, I1, r1, q1⟩ => ?_) hs rfl))
  obtain ⟨k, a, xs, ex, hq, q⟩ := q1
  subst ex
  cases r1 with
  | cons r rr =>
    cases rr
    cases r
    obtain ⟨its, rv, p'⟩ := sq_now I1 hq
    refine enum_begins1 (beginsK k a its.toArray) p' fun h' he hit hsz hk => wpAny_pyIter_enum he ?_
    have I2 : Inv X pins σ H1 { s1 with heap := h' } := I1.kept (t' := s1.toks) hk
    refine ⟨s1.heap.objs.size + 1, [s1.heap.objs.size + 1, s1.heap.objs.size], _, _, H1, rfl, I2, turn_en k a (s1.heap.objs.size + 1) s1.heap.objs.size 0, ⟨⟨.none, he⟩, itAt_0 hit, Nat.succ_ne_self _⟩, fun b hb => ?_, q⟩
    have e' : b = s1.heap.objs.size + 1 ∨ b = s1.heap.objs.size := by simpa using hb
    have hle : s1.heap.objs.size ≤ b := by rcases e' with z | z <;> (rw [z]; first | exact Nat.le_add_right _ _ | exact Nat.le_refl _)
    exact I1.fpOk hle (I1.hok.fresh hle)
theorem pi_en2 {kp : Pos} (hg : Gl X "enumerate") (hm : X.mg "enumerate" = none) (ha : PA X [e, e2] ta) (hs : starEach [e, e2] X.env = (false, eval e X.env) :: starEach [e2] X.env) (hpl : (backTo pos (starEach [e2] X.env)).any (·.1) = false) :
    PI X (.Tuple elts kk tpos) (.Call (.Name "enumerate" p) [e, e2] [] pos) (fun σ H R => ta σ H fun vs H1 => ∃ k k0 a xs, vs = [.ref a, .int k0] ∧ -(2 ^ 63) ≤ k0 ∧ k0 < 2 ^ 63 ∧ SqK k X.K H1 a xs ∧ R (ItEn k X.K a k0) H1) := by
  refine ⟨fun pins s σ H R I h => ?_⟩
  refine Call_ (ld_blt I hg hm boot_enumerate (PyProof.Rows.callWith_type1 (thn (ha.run pos pins s σ H _ I h) fun us s1 ⟨vs, H1, I1, r1, q1⟩ => ?_) hs hpl))
  obtain ⟨k, k0, a, xs, ex, hk0, hk1, hq, q⟩ := q1
  subst ex
  cases r1 with
  | cons r rr =>
    cases rr with
    | cons r' rr =>
    cases rr
    cases r
    obtain ⟨t0, rfl⟩ := (show ∃ t, _ = Value.int k0 t from r')
    obtain ⟨its, rv, p'⟩ := sq_now I1 hq
    refine enum_begins (beginsK k a its.toArray) p' hk0 hk1 fun h' he hit hsz hk => wpAny_pyIter_enum he ?_
    have I2 : Inv X pins σ H1 { s1 with heap := h' } := I1.kept (t' := s1.toks) hk
    refine ⟨s1.heap.objs.size + 1, [s1.heap.objs.size + 1, s1.heap.objs.size], _, _, H1, rfl, I2, turn_en k a (s1.heap.objs.size + 1) s1.heap.objs.size k0, ⟨⟨.none, by simpa using he⟩, itAt_0 hit, Nat.succ_ne_self _⟩, fun b hb => ?_, q⟩
    have e' : b = s1.heap.objs.size + 1 ∨ b = s1.heap.objs.size := by simpa using hb
    have hle : s1.heap.objs.size ≤ b := by rcases e' with z | z <;> (rw [z]; first | exact Nat.le_add_right _ _ | exact Nat.le_refl _)
    exact I1.fpOk hle (I1.hok.fresh hle)
theorem pi_z2 (hg : Gl X "zip") (hm : X.mg "zip" = none) (ha : PA X [e, e2] ta) (hs : starEach [e, e2] X.env = (false, eval e X.env) :: starEach [e2] X.env) (hpl : (backTo pos (starEach [e2] X.env)).any (·.1) = false) :
    PI X (.Tuple elts kk tpos) (.Call (.Name "zip" p) [e, e2] [] pos) (fun σ H R => ta σ H fun vs H1 => ∃ k1 k2 a b xs ys, vs = [.ref a, .ref b] ∧ SqK k1 X.K H1 a xs ∧ SqK k2 X.K H1 b ys ∧ R (ItZ2 k1 k2 X.K a b) H1) := by
  refine ⟨fun pins s σ H R I h => ?_⟩
  refine Call_ (ld_blt I hg hm PyProof.Rows.boot_zip (PyProof.Rows.callWith_type1 (thn (ha.run pos pins s σ H _ I h) fun us s1 ⟨vs, H1, I1, r1, q1⟩ => ?_) hs hpl))
  obtain ⟨k1, k2, a, b, xs, ys, ex, hqx, hqy, q⟩ := q1
  subst ex
  cases r1 with
  | cons r rr =>
    cases rr with
    | cons r' rr =>
      cases rr
      cases r
      cases r'
      obtain ⟨its, rv, p1⟩ := sq_now I1 hqx
      obtain ⟨its2, rv2, p2⟩ := sq_now I1 hqy
      have la := isAt_lt p1
      have lb := isAt_lt p2
      refine zip_begins2 (beginsK k1 a its.toArray) (beginsK k2 b its2.toArray) p1 p2 fun h' hz hTI hTO h1 h2 hsz hk => wpAny_pyIter_zip hz ?_
      have I2 : Inv X pins σ H1 { s1 with heap := h' } := I1.kept (t' := s1.toks) hk
      have D : ZipSep2 (s1.heap.objs.size + 4) (s1.heap.objs.size + 2) (s1.heap.objs.size + 3) s1.heap.objs.size (s1.heap.objs.size + 1) [s1.heap.objs.size, a] [s1.heap.objs.size + 1, b] := by
        constructor <;> simp <;> (first | exact farK la | exact farK lb | exact far0 la | exact far0 lb | exact farK lc | exact far0 lc | exact ⟨fun z => farE z, far0 lb⟩ | skip)
      refine ⟨s1.heap.objs.size + 4, [s1.heap.objs.size + 4, s1.heap.objs.size + 2, s1.heap.objs.size + 3, s1.heap.objs.size, s1.heap.objs.size + 1], _, _, H1, rfl, I2, turn_z2 k1 k2 D, ⟨hz, hTI, ⟨_, _, hTO⟩, itAt_0 h1, itAt_0 h2⟩, fun c hcm => ?_, q⟩
      have e' : c = s1.heap.objs.size + 4 ∨ c = s1.heap.objs.size + 2 ∨ c = s1.heap.objs.size + 3 ∨ c = s1.heap.objs.size ∨ c = s1.heap.objs.size + 1 := by simpa using hcm
      have hle : s1.heap.objs.size ≤ c := by rcases e' with z | z | z | z | z <;> (rw [z]; first | exact Nat.le_add_right _ _ | exact Nat.le_refl _)
      exact I1.fpOk hle (I1.hok.fresh hle)
theorem pi_z3 (hg : Gl X "zip") (hm : X.mg "zip" = none) (ha : PA X [e, e2, e3] ta) (hs : starEach [e, e2, e3] X.env = (false, eval e X.env) :: starEach [e2, e3] X.env) (hpl : (backTo pos (starEach [e2, e3] X.env)).any (·.1) = false) :
    PI X (.Tuple elts kk tpos) (.Call (.Name "zip" p) [e, e2, e3] [] pos) (fun σ H R => ta σ H fun vs H1 => ∃ k1 k2 k3 a b c xs ys zs, vs = [.ref a, .ref b, .ref c] ∧ SqK k1 X.K H1 a xs ∧ SqK k2 X.K H1 b ys ∧ SqK k3 X.K H1 c zs ∧ R (ItZ3 k1 k2 k3 X.K a b c) H1) := by
  refine ⟨fun pins s σ H R I h => ?_⟩
  refine Call_ (ld_blt I hg hm PyProof.Rows.boot_zip (PyProof.Rows.callWith_type1 (thn (ha.run pos pins s σ H _ I h) fun us s1 ⟨vs, H1, I1, r1, q1⟩ => ?_) hs hpl))
  obtain ⟨k1, k2, k3, a, b, c, xs, ys, zs, ex, hqx, hqy, hqz, q⟩ := q1
  subst ex
  cases r1 with
  | cons r rr =>
    cases rr with
    | cons r' rr =>
      cases rr with
      | cons r'' rr =>
      cases rr
      cases r
      cases r'
      cases r''
      obtain ⟨its, rv, p1⟩ := sq_now I1 hqx
      obtain ⟨its2, rv2, p2⟩ := sq_now I1 hqy
      obtain ⟨its3, rv3, p3⟩ := sq_now I1 hqz
      have la := isAt_lt p1
      have lb := isAt_lt p2
      have lc := isAt_lt p3
      refine zip_begins3 (beginsK k1 a its.toArray) (beginsK k2 b its2.toArray) (beginsK k3 c its3.toArray) p1 p2 p3 fun h' hz hTI hTO h1 h2 h3 hsz hk => wpAny_pyIter_zip hz ?_
      have I2 : Inv X pins σ H1 { s1 with heap := h' } := I1.kept (t' := s1.toks) hk
      have D : ZipSep3 (s1.heap.objs.size + 5) (s1.heap.objs.size + 3) (s1.heap.objs.size + 4) s1.heap.objs.size (s1.heap.objs.size + 1) (s1.heap.objs.size + 2) [s1.heap.objs.size, a] [s1.heap.objs.size + 1, b] [s1.heap.objs.size + 2, c] := by
        constructor <;> simp <;> (first | exact farK la | exact farK lb | exact far0 la | exact far0 lb | exact farK lc | exact far0 lc | exact ⟨fun z => farE z, far0 lb⟩ | skip)
      refine ⟨s1.heap.objs.size + 5, [s1.heap.objs.size + 5, s1.heap.objs.size + 3, s1.heap.objs.size + 4, s1.heap.objs.size, s1.heap.objs.size + 1, s1.heap.objs.size + 2], _, _, H1, rfl, I2, turn_z3 k1 k2 k3 D, ⟨hz, hTI, ⟨_, _, _, hTO⟩, itAt_0 h1, itAt_0 h2, itAt_0 h3⟩, fun c hcm => ?_, q⟩
      have e' : c = s1.heap.objs.size + 5 ∨ c = s1.heap.objs.size + 3 ∨ c = s1.heap.objs.size + 4 ∨ c = s1.heap.objs.size ∨ c = s1.heap.objs.size + 1 ∨ c = s1.heap.objs.size + 2 := by simpa using hcm
      have hle : s1.heap.objs.size ≤ c := by rcases e' with z | z | z | z | z | z <;> (rw [z]; first | exact Nat.le_add_right _ _ | exact Nat.le_refl _)
      exact I1.fpOk hle (I1.hok.fresh hle)
end

/-! ### the small language's readings -/
section
variable {K : PySem.W.Frag}
theorem walkD_bor {A : Addr → Prop} {H : Hp} {d : D} {ds : List D} {v : V} (b : Bor K A H d v) (hw : walkD d = some ds) : ∃ k a vs, v = .ref a ∧ SqK k K H a vs ∧ RepL K A H ds vs ∧ d = (match k with | .lst => .list ds | .tup => .tuple ds) := by
  unfold walkD at hw
  split at hw
  · cases hw
    obtain ⟨a, vs, rfl, sq, rl⟩ := Bor.lst_inv b
    exact ⟨.lst, a, vs, rfl, sq, rl, rfl⟩
  · cases hw
    obtain ⟨a, vs, rfl, sq, rl⟩ := b.tuple
    exact ⟨.tup, a, vs, rfl, sq.sq, rl, rfl⟩
  · cases hw
theorem src_bor {g : Gh} {is : List Nat} {e : En} {as : Nat → Option Addr} {σ : L2.St} {H : Hp} {d : D} {v : V} (rel : Rel K g e as σ H) (s : Src K g is e as H d v) : Bor K (g.av as) H d v := by
  rcases s with s | ⟨i, _, a, rfl, ha, hd, hc⟩
  · exact .rep s
  · have q := hd
    unfold rdS at q
    cases hs : e[i]? with
    | none => rw [hs] at q; cases q
    | some sl =>
      rw [hs] at q
      have r := rel.sl i sl hs
      rw [ha] at r
      generalize σ[i]?.join = y at r
      cases r with
      | ow r =>
        cases q
        obtain ⟨ds, vs, rfl, e2, rl⟩ := r
        exact .own (.inr (.inr ⟨i, ha⟩)) e2 rl
      | io r =>
        cases q
        obtain ⟨ds, vs, rfl, e2, rl⟩ := r
        exact .own (.inr (.inr ⟨i, ha⟩)) e2 rl
      | lk r =>
        cases q
        obtain ⟨ds, vs, rfl, e2, rl⟩ := r
        exact .own (.inr (.inr ⟨i, ha⟩)) e2 rl
def dOf (k : Wd) (ds : List D) : D := match k with | .lst => .list ds | .tup => .tuple ds
theorem bor_K {A : Addr → Prop} {H : Hp} {k : Wd} {ds : List D} {a : Addr} (b : Bor K A H (dOf k ds) (.ref a)) : ∃ vs, SqK k K H a vs ∧ RepL K A H ds vs := by
  cases k with
  | lst => obtain ⟨a', vs, e1, sq, rl⟩ := Bor.lst_inv b; cases e1; exact ⟨vs, sq, rl⟩
  | tup => obtain ⟨a', vs, e1, sq, rl⟩ := b.tuple; cases e1; exact ⟨vs, sq.sq, rl⟩
theorem rep_new2 {A : Addr → Prop} {H : Hp} {T : Addr} {d1 d2 : D} {x y : V} (t : Trk A H) (n : H T = none) (r1 : Rep K A H d1 x) (r2 : Rep K A H d2 y) : Rep K A (upd H T (.tup [x, y])) (.tuple [d1, d2]) (.ref T) :=
  (resT t n (.cons r1 (.cons r2 .nil))).2
theorem rep_new3 {A : Addr → Prop} {H : Hp} {T : Addr} {d1 d2 d3 : D} {x y z : V} (t : Trk A H) (n : H T = none) (r1 : Rep K A H d1 x) (r2 : Rep K A H d2 y) (r3 : Rep K A H d3 z) : Rep K A (upd H T (.tup [x, y, z])) (.tuple [d1, d2, d3]) (.ref T) :=
  (resT t n (.cons r1 (.cons r2 (.cons r3 .nil)))).2
theorem wk_en {k : Wd} {a : Addr} {ds : List D} {k0 : Int} : Wk K (ItEn k K a k0) [dOf k ds] [.ref a] (enumD k0 ds) := fun A H t b => by
  cases b with
  | cons h _ =>
    obtain ⟨vs, sq, rl⟩ := bor_K h
    have el : (enumD k0 ds).length = ds.length := by simp [enumD]
    rw [el]
    refine ⟨⟨vs, sq, rl.length⟩, fun i hi => ⟨⟨vs, vs[i]'(by rw [rl.length]; exact hi), sq, List.getElem?_eq_getElem _⟩, fun x H' y => ?_⟩⟩
    obtain ⟨T, u, rfl, n, rfl, hy⟩ := y
    obtain ⟨d, h1, h2⟩ := rl.getV (hy vs sq)
    refine ⟨grow_upd n, .tuple [.int (k0 + (i : Int)), d], ?_, rep_new2 t n (.int _) h2⟩
    simp [enumD, h1]
theorem wk_z2 {k1 k2 : Wd} {a b : Addr} {ds es : List D} : Wk K (ItZ2 k1 k2 K a b) [dOf k1 ds, dOf k2 es] [.ref a, .ref b] (zipD ds es) := fun A H t bb => by
  obtain ⟨v, u, e1, h, h'⟩ := bb.two
  cases e1
  obtain ⟨vs, sq, rl⟩ := bor_K h
  obtain ⟨us, sq2, rl2⟩ := bor_K h'
  have el : (zipD ds es).length = min ds.length es.length := by simp [zipD]
  rw [el]
  refine ⟨⟨vs, us, sq, sq2, by rw [rl.length, rl2.length]⟩, fun i hi => ⟨⟨vs, us, vs[i]'(by rw [rl.length]; omega), us[i]'(by rw [rl2.length]; omega), sq, sq2, List.getElem?_eq_getElem _, List.getElem?_eq_getElem _⟩, fun x H' y => ?_⟩⟩
  obtain ⟨T, u1, u2, rfl, n, rfl, hy, hy2⟩ := y
  obtain ⟨d, h1, h2⟩ := rl.getV (hy vs sq)
  obtain ⟨d', h3, h4⟩ := rl2.getV (hy2 us sq2)
  refine ⟨grow_upd n, .tuple [d, d'], ?_, rep_new2 t n h2 h4⟩
  simp [zipD, List.getElem?_zipWith, h1, h3]
theorem wk_z3 {k1 k2 k3 : Wd} {a b c : Addr} {ds es fs : List D} : Wk K (ItZ3 k1 k2 k3 K a b c) [dOf k1 ds, dOf k2 es, dOf k3 fs] [.ref a, .ref b, .ref c] (zip3D ds es fs) := fun A H t bb => by
  obtain ⟨v, u, w, e1, h, h', h''⟩ := bb.three
  cases e1
  obtain ⟨vs, sq, rl⟩ := bor_K h
  obtain ⟨us, sq2, rl2⟩ := bor_K h'
  obtain ⟨ws, sq3, rl3⟩ := bor_K h''
  have el : (zip3D ds es fs).length = min (min ds.length es.length) fs.length := by simp [zip3D]
  rw [el]
  refine ⟨⟨vs, us, ws, sq, sq2, sq3, by rw [rl.length, rl2.length, rl3.length]⟩, fun i hi => ⟨⟨vs, us, ws, vs[i]'(by rw [rl.length]; omega), us[i]'(by rw [rl2.length]; omega), ws[i]'(by rw [rl3.length]; omega), sq, sq2, sq3, List.getElem?_eq_getElem _, List.getElem?_eq_getElem _, List.getElem?_eq_getElem _⟩, fun x H' y => ?_⟩⟩
  obtain ⟨T, u1, u2, u3, rfl, n, rfl, hy, hy2, hy3⟩ := y
  obtain ⟨d, h1, h2⟩ := rl.getV (hy vs sq)
  obtain ⟨d', h3, h4⟩ := rl2.getV (hy2 us sq2)
  obtain ⟨d'', h5, h6⟩ := rl3.getV (hy3 ws sq3)
  refine ⟨grow_upd n, .tuple [d, d', d''], ?_, rep_new3 t n h2 h4 h6⟩
  simp [zip3D, List.getElem?_zipWith, h1, h3, h5]
end
section
variable {X : Cx} {cl : Str → Option Value} {W : WX} {a b c tg : Expr} {ma mb mc : E} {pos p1 p2 p3 : Pos}
def VS (K : PySem.W.Frag) (g : Gh) (is : List Nat) (ds : List D) (e : En) (as : Nat → Option Addr) (H : Hp) (vs : List V) : Prop := Paired (Src K g is e as H) ds vs
/-- one argument of a row of sources, then the others -/
theorem rowS {K : PySem.W.Frag} {g : Gh} {e : En} {as : Nat → Option Addr} {σ : L2.St} {H : Hp} {m r : E} {is : List Nat} {Q : List V → Hp → Prop} (hm : ∀ i, m = .var i → i ∈ is) (rel : Rel K g e as σ H) (h : Post K g cl W (VS K g is) Q as σ H (evB (.cons m r) e)) :
    PostF K g cl W m e as σ H fun v H1 => ∃ e1 as1, Rel K g e1 as1 σ H1 ∧ Post K g cl W (VS K g is) (fun vs H2 => Q (v :: vs) H2) as1 σ H1 (evB r e1) := by
  unfold PostF
  split
  · rename_i i
    simp only [evB] at h
    split at h
    · rename_i hs
      refine ⟨hs, fun v hv => ⟨e, as, rel, Post.bind h fun xs e2 vs H2 as2 rel2 st2 b q => ?_⟩⟩
      cases hd : rdS e2 i with
      | none => rw [hd] at q; exact q.elim
      | some d =>
        rw [hd] at q
        obtain ⟨v', hv', b'⟩ := src_var (is := is) rel2 (hm i rfl) hd
        rw [hv] at hv'
        cases hv'
        exact q _ _ _ rel2 Stp.refl (.cons b' b)
    · exact h.elim
  · rename_i hm
    have h' : Post K g cl W (VS K g is) Q as σ H ((evE m e).bind fun x e => (evB r e).bind fun xs e => .ok (x.1 :: xs) e) := by
      cases m with
      | var i => exact absurd rfl (hm i)
      | _ => simpa only [evB] using h
    refine Post.bind h' fun x e1 v H1 as1 rel1 st1 rv q => ⟨e1, as1, rel1, Post.bind q fun xs e2 vs H2 as2 rel2 st2 b q => ?_⟩
    exact q _ _ _ rel2 Stp.refl (.cons (.inl ((show RV K g x.2 e1 as1 σ H1 x.1 v from rv).rep.mono st2.kp)) b)
theorem Row.paS {es : List Expr} {r : E} (h : Row X cl W es r) : ∀ (is : List Nat) g, (∀ i ∈ rowVars r, i ∈ is) → PA X es (TR X.K g cl W (fun _ => VS X.K g is) (evB r)) := by
  induction h with
  | nil =>
    exact fun is g _ => weakA pa_nil (fun σ H Q ⟨e, as, rel, q⟩ => by
      simp only [evB] at q
      exact q _ _ _ rel Stp.refl .nil)
  | @cons a es m r h1 h2 ih =>
    intro is g hi
    have hm : ∀ i, m = .var i → i ∈ is := fun i z => by
      subst z
      refine hi i ?_
      unfold rowVars
      split
      · assumption
      · exact List.mem_cons_self
    have hr : ∀ i ∈ rowVars r, i ∈ is := fun i z => by
      refine hi i ?_
      by_cases hv : ∃ j, m = .var j
      · obtain ⟨j, rfl⟩ := hv
        unfold rowVars
        split
        · exact z
        · exact List.mem_cons_of_mem _ z
      · have : rowVars (.cons m r) = rowVars r := by
          cases m <;> first | rfl | exact absurd ⟨_, rfl⟩ hv
        rw [this]
        exact z
    exact weakA (pa_cons (h1.first g) (ih is g hr) (star_cons h1.ns)) fun σ H Q ⟨e, as, rel, q⟩ => ⟨e, as, rel, rowS hm rel q⟩
theorem dOf_eq {d : D} {k : Wd} {xs : List D} (h : d = (match k with | .lst => .list xs | .tup => .tuple xs)) : d = dOf k xs := by
  rw [h]
  cases k <;> rfl
theorem enumL_one {ds ys : List D} (h : enumL ds = some ys) : ∃ d xs, ds = [d] ∧ walkD d = some xs ∧ ys = enumD 0 xs := by
  unfold enumL at h
  split at h
  · obtain ⟨xs, h1, h2⟩ := Option.map_eq_some_iff.mp h
    exact ⟨_, xs, rfl, h1, h2.symm⟩
  · cases h
theorem enumL2_two {ds ys : List D} (h : enumL2 ds = some ys) : ∃ d k xs, ds = [d, .int k] ∧ inR k = true ∧ walkD d = some xs ∧ ys = enumD k xs := by
  unfold enumL2 at h
  split at h
  · split at h
    · rename_i hr
      obtain ⟨xs, h1, h2⟩ := Option.map_eq_some_iff.mp h
      exact ⟨_, _, xs, rfl, hr, h1, h2.symm⟩
    · cases h
  · cases h
theorem zipL_two {ds ys : List D} (h : zipL ds = some ys) : ∃ d e xs zs, ds = [d, e] ∧ walkD d = some xs ∧ walkD e = some zs ∧ ys = zipD xs zs := by
  unfold zipL at h
  split at h
  · obtain ⟨xs, h1, h⟩ := Option.bind_eq_some_iff.mp h
    obtain ⟨zs, h2, h3⟩ := Option.map_eq_some_iff.mp h
    exact ⟨_, _, xs, zs, rfl, h1, h2, h3.symm⟩
  · cases h
theorem zipL3_three {ds ys : List D} (h : zipL3 ds = some ys) : ∃ d e f xs zs us, ds = [d, e, f] ∧ walkD d = some xs ∧ walkD e = some zs ∧ walkD f = some us ∧ ys = zip3D xs zs us := by
  unfold zipL3 at h
  split at h
  · obtain ⟨xs, h1, h⟩ := Option.bind_eq_some_iff.mp h
    obtain ⟨zs, h2, h⟩ := Option.bind_eq_some_iff.mp h
    obtain ⟨us, h3, h4⟩ := Option.map_eq_some_iff.mp h
    exact ⟨_, _, _, xs, zs, us, rfl, h1, h2, h3, h4.symm⟩
  · cases h
theorem inR_63 {k : Int} (h : inR k = true) : -(2 ^ 63) ≤ k ∧ k < 2 ^ 63 := by
  have := inR_ok h
  omega
theorem si_enum1 {elts : List Expr} {kk : Nat} {tpos : Pos} (hg : Gl X "enumerate") (hm : X.mg "enumerate" = none) (ha : SB X cl W a ma) : SI X cl W (.Tuple elts kk tpos) (.Call (.Name "enumerate" p1) [a] [] pos) (.enum (.cons ma .nil)) := fun g =>
  weakI (pi_en1 hg hm ((Row.cons ha .nil).paS _ g (fun i hi => hi)) (star_cons ha.ns)) fun σ H R ⟨e, as, rel, q⟩ => by
    simp only [evI] at q
    refine ⟨e, as, rel, Post.bind q fun ds e1 vs H1 as1 rel1 st1 vv q1 => ?_⟩
    have vv : Paired (Src X.K g (srcs (.enum (.cons ma .nil))) e1 as1 H1) ds vs := vv
    cases hw : enumL ds with
    | none => rw [hw] at q1; exact q1.elim
    | some ys =>
      rw [hw] at q1
      obtain ⟨d, xs, rfl, h1, rfl⟩ := enumL_one hw
      cases vv with
      | cons s ss =>
        cases ss
        obtain ⟨k, a', ws, rfl, sq, rl, ed⟩ := walkD_bor (src_bor rel1 s) h1
        refine ⟨k, a', ws, rfl, sq, q1 _ _ _ rel1 Stp.refl ⟨[d], [.ref a'], ?_, .cons s .nil⟩⟩
        rw [dOf_eq ed]
        exact wk_en
theorem si_enum2 {elts : List Expr} {kk : Nat} {tpos : Pos} (hg : Gl X "enumerate") (hm : X.mg "enumerate" = none) (ha : SB X cl W a ma) (hb : SB X cl W b mb) :
    SI X cl W (.Tuple elts kk tpos) (.Call (.Name "enumerate" p1) [a, b] [] pos) (.enum2 (.cons ma (.cons mb .nil))) := fun g =>
  weakI (pi_en2 (kp := pos) hg hm ((Row.cons ha (Row.cons hb .nil)).paS _ g (fun i hi => hi)) (star_cons ha.ns) (Row.cons hb .nil).plain) fun σ H R ⟨e, as, rel, q⟩ => by
    simp only [evI] at q
    refine ⟨e, as, rel, Post.bind q fun ds e1 vs H1 as1 rel1 st1 vv q1 => ?_⟩
    have vv : Paired (Src X.K g (srcs (.enum2 (.cons ma (.cons mb .nil)))) e1 as1 H1) ds vs := vv
    cases hw : enumL2 ds with
    | none => rw [hw] at q1; exact q1.elim
    | some ys =>
      rw [hw] at q1
      obtain ⟨d, k0, xs, rfl, hr, h1, rfl⟩ := enumL2_two hw
      cases vv with
      | cons s ss =>
        cases ss with
        | cons s2 ss =>
          cases ss
          obtain ⟨k, a', ws, rfl, sq, rl, ed⟩ := walkD_bor (src_bor rel1 s) h1
          cases (src_bor rel1 s2).int
          refine ⟨k, k0, a', ws, rfl, (inR_63 hr).1, (inR_63 hr).2, sq, q1 _ _ _ rel1 Stp.refl ⟨[d], [.ref a'], ?_, .cons s .nil⟩⟩
          rw [dOf_eq ed]
          exact wk_en
theorem si_zip2 {elts : List Expr} {kk : Nat} {tpos : Pos} (hg : Gl X "zip") (hm : X.mg "zip" = none) (ha : SB X cl W a ma) (hb : SB X cl W b mb) :
    SI X cl W (.Tuple elts kk tpos) (.Call (.Name "zip" p1) [a, b] [] pos) (.zip (.cons ma (.cons mb .nil))) := fun g =>
  weakI (pi_z2 hg hm ((Row.cons ha (Row.cons hb .nil)).paS _ g (fun i hi => hi)) (star_cons ha.ns) (Row.cons hb .nil).plain) fun σ H R ⟨e, as, rel, q⟩ => by
    simp only [evI] at q
    refine ⟨e, as, rel, Post.bind q fun ds e1 vs H1 as1 rel1 st1 vv q1 => ?_⟩
    have vv : Paired (Src X.K g (srcs (.zip (.cons ma (.cons mb .nil)))) e1 as1 H1) ds vs := vv
    cases hw : zipL ds with
    | none => rw [hw] at q1; exact q1.elim
    | some ys =>
      rw [hw] at q1
      obtain ⟨d, d2, xs, zs, rfl, h1, h2, rfl⟩ := zipL_two hw
      cases vv with
      | cons s ss =>
        cases ss with
        | cons s2 ss =>
          cases ss
          obtain ⟨k, a', ws, rfl, sq, rl, ed⟩ := walkD_bor (src_bor rel1 s) h1
          obtain ⟨k2, a2, ws2, rfl, sq2, rl2, ed2⟩ := walkD_bor (src_bor rel1 s2) h2
          refine ⟨k, k2, a', a2, ws, ws2, rfl, sq, sq2, q1 _ _ _ rel1 Stp.refl ⟨[d, d2], [.ref a', .ref a2], ?_, .cons s (.cons s2 .nil)⟩⟩
          rw [dOf_eq ed, dOf_eq ed2]
          exact wk_z2
theorem si_zip3 {elts : List Expr} {kk : Nat} {tpos : Pos} (hg : Gl X "zip") (hm : X.mg "zip" = none) (ha : SB X cl W a ma) (hb : SB X cl W b mb) (hc : SB X cl W c mc) :
    SI X cl W (.Tuple elts kk tpos) (.Call (.Name "zip" p1) [a, b, c] [] pos) (.zip3 (.cons ma (.cons mb (.cons mc .nil)))) := fun g =>
  weakI (pi_z3 hg hm ((Row.cons ha (Row.cons hb (Row.cons hc .nil))).paS _ g (fun i hi => hi)) (star_cons ha.ns) (Row.cons hb (Row.cons hc .nil)).plain) fun σ H R ⟨e, as, rel, q⟩ => by
    simp only [evI] at q
    refine ⟨e, as, rel, Post.bind q fun ds e1 vs H1 as1 rel1 st1 vv q1 => ?_⟩
    have vv : Paired (Src X.K g (srcs (.zip3 (.cons ma (.cons mb (.cons mc .nil))))) e1 as1 H1) ds vs := vv
    cases hw : zipL3 ds with
    | none => rw [hw] at q1; exact q1.elim
    | some ys =>
      rw [hw] at q1
      obtain ⟨d, d2, d3, xs, zs, us, rfl, h1, h2, h3, rfl⟩ := zipL3_three hw
      cases vv with
      | cons s ss =>
        cases ss with
        | cons s2 ss =>
          cases ss with
          | cons s3 ss =>
            cases ss
            obtain ⟨k, a', ws, rfl, sq, rl, ed⟩ := walkD_bor (src_bor rel1 s) h1
            obtain ⟨k2, a2, ws2, rfl, sq2, rl2, ed2⟩ := walkD_bor (src_bor rel1 s2) h2
            obtain ⟨k3, a3, ws3, rfl, sq3, rl3, ed3⟩ := walkD_bor (src_bor rel1 s3) h3
            refine ⟨k, k2, k3, a', a2, a3, ws, ws2, ws3, rfl, sq, sq2, sq3, q1 _ _ _ rel1 Stp.refl ⟨[d, d2, d3], [.ref a', .ref a2, .ref a3], ?_, .cons s (.cons s2 (.cons s3 .nil))⟩⟩
            rw [dOf_eq ed, dOf_eq ed2, dOf_eq ed3]
            exact wk_z3
end
end Vm
/-! Vm 12: targets, for -/
namespace Vm
open PySem PySem.Spec PyProof.Rows L2

/-! ### what a turn stores -/
def tG (K : PySem.W.Frag) (g : Gh) (t : Tg) : TG := fun v σ H Q => ∃ e as d e2, Rel K g e as σ H ∧ Rep K (g.av as) H d v ∧ stT t e d = some e2 ∧ ∀ σ' as', Rel K g e2 as' σ' H → Stp as as' H H → σ'.length = σ.length → (∀ j, j ∉ tgIx t → σ'[j]? = σ[j]?) → Q σ' H
def tGM (K : PySem.W.Frag) (g : Gh) (t : Tg) : TGs := fun vs σ H Q => ∃ e as ds e2, Rel K g e as σ H ∧ RepL K (g.av as) H ds vs ∧ stM t e ds = some e2 ∧ ∀ σ' as', Rel K g e2 as' σ' H → Stp as as' H H → σ'.length = σ.length → (∀ j, j ∉ tgIx t → σ'[j]? = σ[j]?) → Q σ' H
/-- targets as they are written -/
def STg (X : Cx) (a : Expr) (t : Tg) : Prop := (∀ g, PG X a (tG X.K g t)) ∧ ∀ x p, a ≠ .Starred x p
def SMg (X : Cx) (es : List Expr) (t : Tg) : Prop := (∀ g, PGs X es (tGM X.K g t)) ∧ (assignEach es X.env).findIdx? (·.1) = none ∧ ∀ {e : En} {ds : List D} {e2 : En}, stM t e ds = some e2 → (assignEach es X.env).length = ds.length
theorem weakG {X : Cx} {e : Expr} {t t' : TG} (h : PG X e t) (k : ∀ v σ H Q, t' v σ H Q → t v σ H Q) : PG X e t' := ⟨fun pins s σ H v u Q I r q => h.run pins s σ H v u Q I r (k v σ H Q q)⟩
section
variable {X : Cx} {a : Expr} {es : List Expr} {t r : Tg} {pos : Pos}
theorem stg_nm {x : Str} {i : Nat} (hN : X.N.Nodup) (hx : Stv X x i) : STg X (.Name x pos) (.nm i) := by
  refine ⟨fun g => weakG (pg_name hN hx.ix hx.loc hx.fn) fun v σ H Q ⟨e, as, d, e2, rel, rp, hs, q⟩ => ?_, fun _ _ => by simp⟩
  simp only [stT] at hs
  refine q _ _ (rel.storeIm rp hs) Stp.setA_none' (List.length_set ..) fun j hj => ?_
  rw [List.getElem?_set_ne]
  intro z
  exact hj (by simp [tgIx, z])
theorem smg_nil : SMg X [] .nl := by
  refine ⟨fun g => weakGs pgs_nil fun vs σ H Q ⟨e, as, ds, e2, rel, rl, hs, q⟩ => ?_, rfl, fun {e ds e2} h => ?_⟩
  · cases rl with
    | nil =>
      simp only [stM] at hs
      cases hs
      exact ⟨rfl, q _ _ rel Stp.refl rfl fun _ _ => rfl⟩
    | cons h r => simp only [stM] at hs; cases hs
  · cases ds with
    | nil => rfl
    | cons d ds => simp only [stM] at h; cases h
theorem each_cons (h : ∀ x p, a ≠ .Starred x p) : assignEach (a :: es) X.env = (false, assign a X.env) :: assignEach es X.env := by
  cases a <;> first | rfl | exact absurd rfl (h _ _)
theorem Stp.here {as as' as'' : Nat → Option Addr} {H : Hp} (p : Stp as as' H H) (q : Stp as' as'' H H) : Stp as as'' H H := p.trans q
theorem smg_cons (ha : STg X a t) (hr : SMg X es r) : SMg X (a :: es) (.cn t r) := by
  refine ⟨fun g => weakGs (pgs_cons (ha.1 g) (hr.1 g) (by rw [each_cons ha.2]; rfl)) fun vs σ H Q ⟨e, as, ds, e2, rel, rl, hs, q⟩ => ?_, ?_, fun {e ds e2} h => ?_⟩
  · cases rl with
    | nil => simp only [stM] at hs; cases hs
    | @cons d v ds vs rp rl =>
      simp only [stM] at hs
      cases h1 : stT t e d with
      | none => rw [h1] at hs; cases hs
      | some e1 =>
        rw [h1] at hs
        have hs : stM r e1 ds = some e2 := hs
        refine ⟨v, vs, rfl, e, as, d, e1, rel, rp, h1, fun σ1 as1 rel1 st1 l1 f1 => ⟨e1, as1, ds, e2, rel1, rl.mono (st1.kp (g := g)), hs, fun σ2 as2 rel2 st2 l2 f2 => q σ2 as2 rel2 (st1.trans st2) (l2.trans l1) fun j hj => ?_⟩⟩
        rw [f2 j (fun z => hj (List.mem_append_right _ z)), f1 j (fun z => hj (List.mem_append_left _ z))]
  · rw [each_cons ha.2, List.findIdx?_cons, hr.2.1]
    rfl
  · cases ds with
    | nil => simp only [stM] at h; cases h
    | cons d ds =>
      simp only [stM] at h
      cases h1 : stT t e d with
      | none => rw [h1] at h; cases h
      | some e1 =>
        rw [h1] at h
        rw [each_cons ha.2, List.length_cons, List.length_cons, hr.2.2 (show stM r e1 ds = some e2 from h)]
theorem stg_tp {kt : Nat} (hc : X.calm = true) (h : SMg X es r) : STg X (.Tuple es kt pos) (.tp r) := by
  refine ⟨fun g => weakG (pg_tup hc (h.1 g) rfl h.2.1) fun v σ H Q ⟨e, as, d, e2, rel, rp, hs, q⟩ => ?_, fun _ _ => by simp⟩
  cases rp with
  | tup st rl =>
    simp only [stT] at hs
    exact ⟨_, _, rfl, st.sq, by rw [rl.length, h.2.2 hs], e, as, _, e2, rel, rl, hs, q⟩
  | _ => simp only [stT] at hs; cases hs
end
/-! ### for -/
section
variable {K : PySem.W.Frag} {g g' : Gh} {e e' : En} {as as' : Nat → Option Addr} {σ : L2.St} {H H' : Hp} {cl : Str → Option Value} {W : WX} {Dn : Ends}
theorem PostS.unl {is : List Nat} {r : RS} (c : g'.Cv g) (no : ∀ p ∈ g.lk, p.1 ∉ is) (h : PostS K g cl W Dn (ulRS is r)) : PostS K g' cl W Dn r := by
  have un : ∀ {e' as' σ' H'}, Rel K g' e' as' σ' H' → Rel K g (ulAll e' is) as' σ' H' := fun {e' as' σ' H'} rel => by
    have := rel.unlockAll (is := is) (l := g.lk) fun p hp => ⟨c.lk p hp, no p hp⟩
    exact Rel.cv (g' := { g' with lk := g.lk }) ⟨c.B, c.io, c.H0, c.T, fun p hp => hp, c.Z⟩ this
  cases r with
  | nx e' => exact fun σ' H' as' rel => h _ _ _ (un rel)
  | bk e' => exact fun σ' H' as' rel => h _ _ _ (un rel)
  | ct e' => exact fun σ' H' as' rel => h _ _ _ (un rel)
  | rt d f e' => exact fun v σ' H' as' rel rv => h _ _ _ _ (rel.cv c) (rv.cv c)
  | exn x e' => exact fun cls dd σ' H' as' rel xr => h _ _ _ _ _ (rel.cv c) xr
  | bad => exact h
end
section
variable {X : Cx} {cl : Str → Option Value} {W : WX} {a b c tg it : Expr} {ma mb mc mi : E} {pos : Pos} {sts : List Stmt} {m : S} {t : Tg}
theorem SSs.any (h : SSs X cl W sts m) : PSs X sts (fun Dn σ H => ∃ g, tS X.K g cl W (evS m) Dn σ H) := ⟨fun pins s σ H Dn I ⟨g, q⟩ => (h g).run pins s σ H Dn I q⟩
theorem STg.any (h : STg X a t) : PG X a (fun v σ H Q => ∃ g, tG X.K g t v σ H Q) := ⟨fun pins s σ H v u Q I r ⟨g, q⟩ => (h.1 g).run pins s σ H v u Q I r q⟩
theorem ss_frr (hp : PassesOwn (model X.prog X.w) X.A X.env X.xe) (hc : X.calm = true) (hi : SI X cl W tg it mi) (ht : STg X tg t) (hb : SSs X cl W sts m) (hs : ∀ x, foldedSetIterable it X.env x = pure x) : SS X cl W (.For tg it sts [] pos) (.frr t mi m) := fun g =>
  weakS (ps_for hp hc (hi g) ht.any hb.any hs) fun Dn σ H ⟨e, as, rel, q⟩ => by
    simp only [evS] at q
    refine ⟨e, as, rel, Post.go q fun ds e1 J H1 as1 rel1 st1 vi q1 => ?_⟩
    obtain ⟨sds, svs, wk, src⟩ := vi
    obtain ⟨g1, cv1, rel2, std, no, eZ, _⟩ := lockSrc rel1 src rfl (srcs_nodup mi)
    generalize (srcs mi).filter (canLk e1) = is at q1 rel2 no
    have rel3 := rel2.hold
    have cv : (g1.hold as1 H1).Cv g := ⟨cv1.B, cv1.io, cv1.H0, cv1.T, cv1.lk, fun b o z => hold_Z (rel1.fz b o z).1 (by rw [cv1.av]; exact (rel1.fz b o z).2)⟩
    have q2 : PostS X.K (g1.hold as1 H1) cl W Dn (frL t (fun e => evS m e) ds (lkAll e1 is)) := q1.unl cv no
    refine ⟨fun i n σ H => n = ds.length - i ∧ i ≤ ds.length ∧ ∃ e as, Rel X.K (g1.hold as1 H1) e as σ H ∧ PostS X.K (g1.hold as1 H1) cl W Dn (frL t (fun e => evS m e) (ds.drop i) e), ⟨_, rfl, Nat.zero_le _, _, as1, rel3, q2⟩, ?_⟩
    rintro i n σ2 H2 ⟨rfl, hi, e2, as2, rel4, q4⟩
    have stdN : Paired (Std X.K (g1.hold as1 H1) as2 H2) sds svs := paired_mono std fun d v z => by
      rcases z with z | z
      · exact .inl (z.mono (kp_hold rel4))
      · exact .inr z
    obtain ⟨stop, go⟩ := wk _ H2 rel4.trk (stdL_bor rel4 stdN)
    by_cases hlt : i < ds.length
    · obtain ⟨g2, y2⟩ := go i hlt
      refine .inr ⟨g2, fun σ' H' => ∃ e as, Rel X.K (g1.hold as1 H1) e as σ' H' ∧ PostS X.K (g1.hold as1 H1) cl W Dn (frL t (fun e => evS m e) (ds.drop (i + 1)) e), fun σ' H' w => ⟨_, by omega, rfl, hlt, w⟩, fun x H' hy => ?_⟩
      obtain ⟨gr, d, hd, rp⟩ := y2 x H' hy
      have ed : ds.drop i = d :: ds.drop (i + 1) := by
        obtain ⟨h1, h2⟩ := List.getElem?_eq_some_iff.mp hd
        rw [List.drop_eq_getElem_cons h1, h2]
      rw [ed] at q4
      unfold frL at q4
      cases ht2 : stT t e2 d with
      | none => rw [ht2] at q4; exact q4.elim
      | some e3 =>
        rw [ht2] at q4
        refine ⟨_, e2, as2, d, e3, rel4.grow gr, rp, ht2, fun σ3 as3 rel5 _ _ _ => ⟨_, e3, as3, rel5, ?_⟩⟩
        have q5 : PostS X.K (g1.hold as1 H1) cl W Dn (match evS m e3 with
          | .nx e2 => frL t (fun e => evS m e) (ds.drop (i + 1)) e2
          | .ct e2 => frL t (fun e => evS m e) (ds.drop (i + 1)) e2
          | .bk e2 => .nx e2
          | q => q) := q4
        cases hs : evS m e3 with
        | nx e3 => rw [hs] at q5; exact fun σ' H' as' rel' => ⟨e3, as', rel', q5⟩
        | ct e3 => rw [hs] at q5; exact fun σ' H' as' rel' => ⟨e3, as', rel', q5⟩
        | bk e3 => rw [hs] at q5; exact q5
        | rt d f e3 => rw [hs] at q5; exact q5
        | exn x e3 => rw [hs] at q5; exact q5
        | bad => rw [hs] at q5; exact q5
    · have e : i = ds.length := by omega
      subst e
      refine .inl ⟨stop, ?_⟩
      rw [List.drop_length] at q4
      exact q4 _ _ _ rel4
end
end Vm
/-! Vm 13: list comprehensions -/
namespace Vm
open PySem PySem.Spec PyProof.Rows L2

/-! ### names forgotten and put back -/
theorem wipeE_len (e : En) : ∀ vs : List Nat, (wipeE e vs).length = e.length
  | [] => rfl
  | v :: vs => by unfold wipeE; rw [List.length_set, wipeE_len e vs]
theorem wipeE_out {e : En} {j : Nat} : ∀ {vs : List Nat}, j ∉ vs → (wipeE e vs)[j]? = e[j]?
  | [], _ => rfl
  | v :: vs, h => by
    unfold wipeE
    rw [List.getElem?_set_ne fun z => h (by rw [z]; exact List.mem_cons_self)]
    exact wipeE_out fun z => h (List.mem_cons_of_mem _ z)
theorem wipeE_in {e : En} {j : Nat} (hj : j < e.length) : ∀ {vs : List Nat}, j ∈ vs → (wipeE e vs)[j]? = some .un
  | v :: vs, h => by
    unfold wipeE
    by_cases q : v = j
    · subst q
      rw [List.getElem?_set_self (by rw [wipeE_len]; exact hj)]
    · rw [List.getElem?_set_ne q]
      exact wipeE_in hj ((List.mem_cons.mp h).resolve_left fun z => q z.symm)
theorem backE_len (e0 e : En) : ∀ vs : List Nat, (backE e0 e vs).length = e.length
  | [] => rfl
  | v :: vs => by unfold backE; rw [List.length_set, backE_len e0 e vs]
theorem backE_out {e0 e : En} {j : Nat} : ∀ {vs : List Nat}, j ∉ vs → (backE e0 e vs)[j]? = e[j]?
  | [], _ => rfl
  | v :: vs, h => by
    unfold backE
    rw [List.getElem?_set_ne fun z => h (by rw [z]; exact List.mem_cons_self)]
    exact backE_out fun z => h (List.mem_cons_of_mem _ z)
theorem backE_in {e0 e : En} {j : Nat} (hj : j < e.length) : ∀ {vs : List Nat}, j ∈ vs → (backE e0 e vs)[j]? = some (e0.getD j .un)
  | v :: vs, h => by
    unfold backE
    by_cases q : v = j
    · subst q
      rw [List.getElem?_set_self (by rw [backE_len]; exact hj)]
    · rw [List.getElem?_set_ne q]
      exact backE_in hj ((List.mem_cons.mp h).resolve_left fun z => q z.symm)
theorem wipe_in {σ : L2.St} {j : Nat} (hj : j < σ.length) : ∀ {vs : List Nat}, j ∈ vs → (wipe σ vs)[j]? = some none
  | v :: vs, h => by
    unfold wipe
    by_cases q : v = j
    · subst q
      rw [List.getElem?_set_self (by rw [wipe_length]; exact hj)]
    · rw [List.getElem?_set_ne q]
      exact wipe_in hj ((List.mem_cons.mp h).resolve_left fun z => q z.symm)
theorem wipe_eq {σ τ : L2.St} {vs : List Nat} (hl : σ.length = τ.length) (h : ∀ j, j ∉ vs → σ[j]? = τ[j]?) : wipe σ vs = wipe τ vs := by
  apply List.ext_getElem?
  intro j
  by_cases hv : j ∈ vs
  · by_cases hj : j < σ.length
    · rw [wipe_in hj hv, wipe_in (by rw [← hl]; exact hj) hv]
    · rw [List.getElem?_eq_none (by rw [wipe_length]; omega), List.getElem?_eq_none (by rw [wipe_length]; omega)]
  · rw [wipe_out hv, wipe_out hv, h j hv]
theorem mayWipe_at {e : En} {vs : List Nat} (h : mayWipe e vs = true) {v : Nat} (hv : v ∈ vs) : e[v]? = some .un ∨ ∃ d, e[v]? = some (.im d) := by
  unfold mayWipe at h
  have := (List.all_eq_true.mp h) v hv
  split at this
  · rename_i hs; exact .inl hs
  · rename_i d hs; exact .inr ⟨d, hs⟩
  · cases this
section
variable {K : PySem.W.Frag} {g g' : Gh} {e e' e0 : En} {as as' as0 : Nat → Option Addr} {σ σ' : L2.St} {H H' H0 : Hp} {vs : List Nat}
theorem Rel.reslot (h : Rel K g e as σ H) (hl : e'.length = e.length) (hσ : σ'.length = σ.length)
    (k : ∀ i s', e'[i]? = some s' → (e[i]? = some s' ∧ σ'[i]? = σ[i]?) ∨ (as i = none ∧ s'.isIo = false ∧ SlotR K (g.av as) H s' none (σ'[i]?.join))) : Rel K g e' as σ' H := by
  refine ⟨by rw [hσ, hl]; exact h.len, fun i s q => ?_, fun i q => h.out i (by rw [← hl]; exact q), h.inj, fun i s a q w => ?_, fun p hp => ?_, h.keep, fun p hp => ?_, h.trB, h.trT, h.fz⟩
  · rcases k i s q with ⟨k1, k2⟩ | ⟨k1, _, k2⟩
    · rw [k2]; exact h.sl i s k1
    · rw [k1]; exact k2
  · rcases k i s q with ⟨k1, k2⟩ | ⟨k1, _⟩
    · exact h.own i s a k1 w
    · rw [w] at k1; cases k1
  · obtain ⟨h1, s, h2, h3⟩ := h.iok p hp
    have lt : p.1 < e'.length := by rw [hl]; exact (List.getElem?_eq_some_iff.mp h2).1
    rcases k p.1 _ (List.getElem?_eq_getElem lt) with ⟨k1, k2⟩ | ⟨k1, _⟩
    · rw [h2] at k1
      cases k1
      exact ⟨h1, _, List.getElem?_eq_getElem lt, h3⟩
    · rw [h1] at k1; cases k1
  · obtain ⟨h1, f, h2⟩ := h.lks p hp
    have lt : p.1 < e'.length := by rw [hl]; exact (List.getElem?_eq_some_iff.mp h2).1
    rcases k p.1 _ (List.getElem?_eq_getElem lt) with ⟨k1, k2⟩ | ⟨k1, _⟩
    · rw [h2] at k1
      exact ⟨h1, f, by rw [List.getElem?_eq_getElem lt, ← Option.some.inj k1]⟩
    · rw [h1] at k1; cases k1
theorem Rel.noA (h : Rel K g e as σ H) {v : Nat} (hs : e[v]? = some .un ∨ ∃ d, e[v]? = some (.im d)) : as v = none := by
  rcases hs with hs | ⟨d, hs⟩
  · have r := h.sl v _ hs
    generalize as v = o at r
    generalize σ[v]?.join = x at r
    cases r
    rfl
  · have r := h.sl v _ hs
    generalize as v = o at r
    generalize σ[v]?.join = x at r
    cases r
    rfl
theorem Rel.wipe (h : Rel K g e as σ H) (hm : mayWipe e vs = true) : Rel K g (wipeE e vs) as (L2.wipe σ vs) H :=
  h.reslot (wipeE_len e vs) (wipe_length σ vs) fun i s' q => by
    by_cases hv : i ∈ vs
    · have lt : i < e.length := by rw [← wipeE_len e vs]; exact (List.getElem?_eq_some_iff.mp q).1
      rw [wipeE_in lt hv] at q
      cases q
      exact .inr ⟨h.noA (mayWipe_at hm hv), rfl, .un⟩
    · rw [wipeE_out hv] at q
      exact .inl ⟨q, wipe_out hv⟩
theorem Rel.back (h : Rel K g e as (L2.wipe σ vs) H) (hu : ∀ v ∈ vs, e[v]? = some .un) (h0 : ∀ v ∈ vs, e0[v]? = some .un ∨ ∃ d x, e0[v]? = some (.im d) ∧ σ[v]? = some (some x) ∧ Rep K (g.av as) H d x) : Rel K g (backE e0 e vs) as σ H :=
  h.reslot (backE_len e0 e vs) (wipe_length σ vs).symm fun i s' q => by
    by_cases hv : i ∈ vs
    · have lt : i < e.length := (List.getElem?_eq_some_iff.mp (hu i hv)).1
      rw [backE_in lt hv] at q
      refine .inr ⟨h.noA (.inl (hu i hv)), ?_⟩
      rcases h0 i hv with h1 | ⟨d, x, h1, h2, h3⟩
      · rw [List.getD_eq_getElem?_getD, h1] at q
        cases q
        exact ⟨rfl, .un⟩
      · rw [List.getD_eq_getElem?_getD, h1] at q
        cases q
        rw [h2]
        exact ⟨rfl, .im h3⟩
    · rw [backE_out hv] at q
      exact .inl ⟨q, (wipe_out hv).symm⟩
/-- a list that waits is changed -/
theorem Rel.pend (h : Rel K g e as σ H) {p : Addr} (hp : g.T p) {us : List V} : Rel K g e as σ (upd H p (.lst us)) := by
  have av : g.av as p := .inr (.inl hp)
  obtain ⟨_, t2, t3⟩ := h.trT p hp
  refine ⟨h.len, fun i s q => (h.sl i s q).mono ⟨fun b u z n => ?_, fun _ _ _ z => z⟩ fun a us w z => ?_, h.out, h.inj, h.own, h.iok, fun b o q w => ?_, h.lks, h.trB, fun b q => ?_, fun b u q => ⟨?_, (h.fz b u q).2⟩⟩
  · rw [upd_ne (fun y => n (by rw [y]; exact av))]
    exact z
  · rw [upd_ne (fun y => t2 i (by rw [← y]; exact w))]
    exact z
  · rw [upd_ne (fun y => by rw [y, t3] at q; cases q)]
    exact h.keep b o q w
  · obtain ⟨⟨o, r1⟩, r2⟩ := h.trT b q
    by_cases hb : b = p
    · rw [hb]
      exact ⟨⟨_, upd_same⟩, by rw [← hb]; exact r2⟩
    · exact ⟨⟨o, by rw [upd_ne hb]; exact r1⟩, r2⟩
  · rw [upd_ne (fun y => (h.fz b u q).2 (by rw [y]; exact av))]
    exact (h.fz b u q).1
theorem kp_pend {p : Addr} (hp : g.T p) {us : List V} : Kp (g.av as) (g.av as) H (upd H p (.lst us)) := ⟨fun b u z n => by
  rw [upd_ne (fun y => n (by rw [y]; exact .inr (.inl hp)))]
  exact z, fun _ _ _ z => z⟩
theorem Stp.upd (p : Stp as as' H H') {q : Addr} {o : HO} (n : H q = none) : Stp as as' H (L2.upd H' q o) :=
  ⟨fun b u z w => by
    rw [upd_ne (fun y => by rw [y, n] at z; cases z)]
    exact p.keep b u z w, p.le, fun b u z => by
    obtain ⟨o', h'⟩ := p.there b u z
    exact ⟨o', by rw [upd_ne (fun y => by rw [y, n] at z; cases z)]; exact h'⟩⟩
end

/-! ### [el for t in it if c] -/
def WF : WX := fun _ _ _ _ => False
def Bk (X : Cx) (scope : Scope) (P : Cx → Prop) : Prop := ∀ (s : Shared) (H : Hp) (C : Addr) (cl : List (Str × Addr)) (fp : List Addr), P (X.blk s H scope (compEnvC scope cl C X.env) fp)
section
variable {X : Cx} {cl : Str → Option Value} {W : WX} {a b c tg it elt : Expr} {ma mb mc mi me : E} {pos : Pos} {t : Tg} {ifs : List Expr} {vs : List Nat}
def STs (X : Cx) (cl : Str → Option Value) (W : WX) (ifs : List Expr) (m : E) : Prop := PTs X ifs (fun σ H Q => ∃ g, TR X.K g cl W (fun _ => VT) (evT m) σ H Q)
theorem sts_nil : STs X cl W [] (.con (.bool true)) := ⟨fun pins s σ H Q I ⟨g, e, as, rel, q⟩ => by
  have q : Post X.K g cl W VT Q as σ H (.ok true e) := by simpa only [evT, evE, R.bind, truD, lift] using q
  exact pts_nil.run pins s σ H Q I (q true H as rel Stp.refl rfl)⟩
theorem sts_one (h : ST X cl W c mc) : STs X cl W [c] mc := ⟨fun pins s σ H Q I ⟨g, q⟩ => (pts_one (h g)).run pins s σ H Q I q⟩
theorem lc_end {K : PySem.W.Frag} {g : Gh} {W : WX} {vs : List Nat} {t : Tg} {mi mc me : E} {σ : L2.St} {H : Hp} {Q : VK} (ht : ∀ j ∈ tgIx t, j ∈ vs) (h : TR K g cl W (VE K g) (evE (.lc vs t mi mc me)) σ H Q) :
    tLc (tI K g cl W mi) (fun v σ H Q => ∃ g, tG K g t v σ H Q) (fun σ H Q => ∃ g, TR K g cl WF (fun _ => VT) (evT mc) σ H Q) (fun σ H Q => ∃ g, TR K g cl WF (VE K g) (evE me) σ H Q) vs σ H Q := by
  obtain ⟨e, as, rel, q⟩ := h
  simp only [evE] at q
  refine ⟨e, as, rel, Post.bind q fun ds e1 J H1 as1 rel1 st1 vi q1 => ?_⟩
  clear q
  intro L hL
  split at q1
  case isFalse => exact q1.elim
  case isTrue hm =>
  obtain ⟨sds, svs, wk, src⟩ := vi
  obtain ⟨g1, cv1, rel2, std, no, eZ, lkout⟩ := lockSrc rel1 src rfl (srcs_nodup mi)
  have nlk : ∀ v ∈ vs, v ∉ (srcs mi).filter (canLk e1) := fun v hv z => by
    have := (List.mem_filter.mp z).2
    unfold canLk at this
    rcases mayWipe_at hm hv with q | ⟨d, q⟩ <;> (rw [q] at this; cases this)
  generalize (srcs mi).filter (canLk e1) = is at q1 rel2 no nlk lkout
  have hm2 : mayWipe (lkAll e1 is) vs = true := by
    unfold mayWipe at hm ⊢
    rw [List.all_eq_true] at hm ⊢
    intro v hv
    rw [lkout v (nlk v hv)]
    exact hm v hv
  cases hr : lcL vs t (fun e => evT mc e) (fun e => evE me e) ds [] (wipeE (lkAll e1 is) vs) with
  | bad => rw [hr] at q1; exact q1.elim
  | exn x e2 => rw [hr] at q1; exact q1.elim
  | ok ys e2 =>
    rw [hr] at q1
    have relD : Rel K (g1.plus L) (lkAll e1 is) as1 σ (upd H1 L (.lst [])) := rel2.plus hL
    have kp0 : Kp (g1.av as1) ((g1.plus L).av as1) H1 (upd H1 L (.lst [])) := ⟨fun b u z _ => grow_upd hL b u z, fun b u z w => by
      rcases w with w | (w | w) | w
      · exact .inl w
      · exact .inr (.inl w)
      · rw [w, hL] at z
        cases z
      · exact .inr (.inr w)⟩
    refine ⟨fun i n H => n = ds.length - i ∧ i ≤ ds.length ∧ ∃ e as acc vA, Rel K (g1.plus L) e as (L2.wipe σ vs) H ∧ Stp as1 as H1 H ∧ H L = some (.lst vA) ∧ RepL K ((g1.plus L).av as) H acc vA ∧ (∀ v ∈ vs, e[v]? = some .un) ∧ lcL vs t (fun e => evT mc e) (fun e => evE me e) (ds.drop i) acc e = .ok ys e2,
      ⟨_, rfl, Nat.zero_le _, _, as1, [], [], relD.wipe hm2, (Stp.refl).upd hL, upd_same, .nil, fun v hv => ?_, hr⟩, ?_⟩
    · refine wipeE_in ?_ hv
      rcases mayWipe_at hm2 hv with q | ⟨d, q⟩ <;> exact (List.getElem?_eq_some_iff.mp q).1
    · rintro i n H2 ⟨rfl, hi, e3, as3, acc, vA, rel3, st3, hA, rlA, un3, hr3⟩
      have hTL : (g1.plus L).T L := .inr rfl
      have stdN : Paired (Std K (g1.plus L) as3 H2) sds svs := paired_mono std fun d v z => by
        rcases z with z | z
        · left
          refine Rep.mono (?_ : Kp (g1.av as1) ((g1.plus L).av as3) H1 H2) z
          have k := st3.kp (g := g1)
          refine ⟨k.k, fun b o z w => ?_⟩
          rcases w with w | (w | w) | w
          · exact k.s b o z (.inl w)
          · exact k.s b o z (.inr (.inl w))
          · rw [w, hL] at z; cases z
          · exact k.s b o z (.inr (.inr w))
        · exact .inr z
      obtain ⟨stop, go⟩ := wk _ H2 rel3.trk (stdL_bor rel3 stdN)
      by_cases hlt : i < ds.length
      · obtain ⟨g2, y2⟩ := go i hlt
        refine .inr ⟨g2, _, fun H' w => ⟨_, by omega, rfl, hlt, w⟩, fun x H' hy => ?_⟩
        obtain ⟨gr, d, hd, rp⟩ := y2 x H' hy
        have ed : ds.drop i = d :: ds.drop (i + 1) := by
          obtain ⟨h1, h2⟩ := List.getElem?_eq_some_iff.mp hd
          rw [List.drop_eq_getElem_cons h1, h2]
        rw [ed] at hr3
        unfold lcL at hr3
        cases ht2 : stT t e3 d with
        | none => rw [ht2] at hr3; cases hr3
        | some e4 =>
          rw [ht2] at hr3
          refine ⟨_, e3, as3, d, e4, rel3.grow gr, rp, ht2, fun σ4 as4 rel4 st4 l4 f4 => ?_⟩
          have hw4 : L2.wipe σ4 vs = L2.wipe σ vs := by
            rw [wipe_eq (τ := L2.wipe σ vs) l4 fun j hj => f4 j fun z => hj (ht j z)]
            exact wipe_eq (wipe_length σ vs) fun j hj => wipe_out hj
          refine ⟨hw4, _, e4, as4, rel4, ?_⟩
          have st04 : Stp as1 as4 H1 H' := (st3.trans (Stp.grow gr)).trans st4
          have st34 : Stp as3 as4 H2 H' := (Stp.grow gr).trans st4
          have hA4 : H' L = some (.lst vA) := gr L _ hA
          cases hc : evT mc e4 with
          | bad => dsimp only at hr3; rw [hc] at hr3; cases hr3
          | exn x e5 => dsimp only at hr3; rw [hc] at hr3; cases hr3
          | ok k e5 =>
            dsimp only at hr3
            rw [hc] at hr3
            intro k' H5 as5 rel5 st5 hk
            cases (show k' = k from hk)
            have hA5 : H5 L = some (.lst vA) := st5.keep L _ hA4 (rel4.trT L hTL).2.1
            have rl5 : RepL K ((g1.plus L).av as5) H5 acc vA := (rlA.mono (st34.kp (g := g1.plus L))).mono st5.kp
            cases k with
            | false =>
              rw [if_neg Bool.false_ne_true]
              dsimp only at hr3
              split at hr3
              · rename_i hm5
                refine ⟨wipeE e5 vs, as5, acc, vA, by rw [← hw4]; exact rel5.wipe hm5, st04.trans st5, hA5, rl5, fun v hv => wipeE_in ?_ hv, hr3⟩
                rcases mayWipe_at hm5 hv with q | ⟨d, q⟩ <;> exact (List.getElem?_eq_some_iff.mp q).1
              · cases hr3
            | true =>
              rw [if_pos rfl]
              dsimp only at hr3
              refine ⟨_, e5, as5, rel5, ?_⟩
              cases he : evE me e5 with
              | bad => rw [he] at hr3; cases hr3
              | exn x e6 => rw [he] at hr3; cases hr3
              | ok r e6 =>
                rw [he] at hr3
                intro u H6 as6 rel6 st6 rv
                have rp6 := (show RV K (g1.plus L) r.2 e6 as6 σ4 H6 r.1 u from rv).rep
                have hA6 : H6 L = some (.lst vA) := st6.keep L _ hA5 (rel5.trT L hTL).2.1
                have rl6 : RepL K ((g1.plus L).av as6) H6 acc vA := rl5.mono st6.kp
                obtain ⟨y, f⟩ := r
                dsimp only at hr3
                split at hr3
                · rename_i hm6
                  refine ⟨vA, hA6, by rw [rl6.length]; exact hm6.1, wipeE e6 vs, as6, acc ++ [y], vA ++ [u], ?_, ((st04.trans st5).trans st6).upd hL, upd_same, (rl6.append (.cons rp6 .nil)).mono (kp_pend hTL), fun v hv => wipeE_in ?_ hv, hr3⟩
                  · rw [← hw4]
                    exact (rel6.wipe hm6.2).pend hTL
                  · rcases mayWipe_at hm6.2 hv with q | ⟨d, q⟩ <;> exact (List.getElem?_eq_some_iff.mp q).1
                · cases hr3
      · have e : i = ds.length := by omega
        subst e
        refine .inl ⟨stop, ?_⟩
        rw [List.drop_length] at hr3
        unfold lcL at hr3
        cases hr3
        have kp3 : Kp (g1.av as1) ((g1.plus L).av as3) H1 H2 := by
          have k := st3.kp (g := g1)
          refine ⟨k.k, fun b o z w => ?_⟩
          rcases w with w | (w | w) | w
          · exact k.s b o z (.inl w)
          · exact k.s b o z (.inr (.inl w))
          · rw [w, hL] at z; cases z
          · exact k.s b o z (.inr (.inr w))
        have relB : Rel K (g1.plus L) (backE e1 e2 vs) as3 σ H2 := rel3.back un3 fun v hv => by
          rcases mayWipe_at hm hv with q | ⟨d, q⟩
          · exact .inl q
          · obtain ⟨x, hx, _⟩ := rdS_val rel1 (i := v) (d := d) (by unfold rdS; rw [q])
            have r := rel1.sl v _ q
            rw [hx] at r
            have r : SlotR K (g.av as1) H1 (.im d) (as1 v) (some x) := r
            generalize as1 v = o at r
            cases r with
            | im r => exact .inr ⟨d, x, q, hx, Rep.mono kp3 (by rw [cv1.av]; exact r)⟩
        have relU : Rel K (g.plus L) (ulAll (backE e1 e2 vs) is) as3 σ H2 := by
          have := relB.unlockAll (is := is) (l := g.lk) fun p hp => ⟨cv1.lk p hp, no p hp⟩
          exact Rel.cv (g' := { (g1.plus L) with lk := g.lk }) ⟨cv1.B, cv1.io, cv1.H0, by show (fun b => g1.T b ∨ b = L) = fun b => g.T b ∨ b = L; rw [cv1.T], fun p hp => hp, cv1.Z⟩ this
        refine q1 (.ref L) H2 as3 relU.minus st3 ⟨L, rfl, fun z => rel1.newA hL (.inr (.inl z)), relU, ys, vA, rfl, hA, ?_⟩
        have ea : (g1.plus L).av as3 = (g.plus L).av as3 := (cv1.plus L).av
        rw [← ea]
        exact rlA
theorem SB.wf : True := trivial
theorem se_lc {scope : Scope} {own : List (Str × Nat)} (hc : X.calm = true) (hN : X.N.Nodup) (hi : SI X cl W tg it mi) (ok : BlkOk X.N X.env.scope scope own) (hg : Bk X scope fun Y => STg Y tg t) (ht : Bk X scope fun Y => STs Y cl WF ifs mc) (he : Bk X scope fun Y => SE Y cl WF elt me)
    (hs : ∀ x, foldedSetIterable it X.env x = pure x) (htv : ∀ j ∈ tgIx t, j ∈ own.map (·.2)) : SE X cl W (.ListComp elt [⟨tg, it, ifs, 0⟩] scope pos) (.lc (own.map (·.2)) t mi mc me) := fun g =>
  weakE (pe_lc (tt := fun σ H Q => ∃ g, TR X.K g cl WF (fun _ => VT) (evT mc) σ H Q) (te := fun σ H Q => ∃ g, TR X.K g cl WF (VE X.K g) (evE me) σ H Q) (g := fun v σ H Q => ∃ g, tG X.K g t v σ H Q) hc hN (hi g) ok (fun s H C cl fp => (hg s H C cl fp).any) (fun s H C c2 fp => ht s H C c2 fp) (fun s H C cl fp => (he s H C cl fp).any) hs) fun σ H Q h => lc_end htv h
theorem ss_setLc {scope : Scope} {own : List (Str × Nat)} {i : Nat} {y : Str} {py spos : Pos} (hc : X.calm = true) (hN : X.N.Nodup) (hy : X.N[i]? = some y) (hyl : X.env.scope.names.lookup y = some .local)
    (hsw : swapsWith (.ListComp elt [⟨tg, it, ifs, 0⟩] scope pos) (some (.Name y py)) spos.line X.env = pure true) (hi : SI X cl W tg it mi) (ok : BlkOk X.N X.env.scope scope own) (hg : Bk X scope fun Y => STg Y tg t) (ht : Bk X scope fun Y => STs Y cl WF ifs mc) (he : Bk X scope fun Y => SE Y cl WF elt me)
    (hs : ∀ x, foldedSetIterable it X.env x = pure x) (htv : ∀ j ∈ tgIx t, j ∈ own.map (·.2)) : SS X cl W (.Assign [.Name y py] (.ListComp elt [⟨tg, it, ifs, 0⟩] scope pos) spos) (.set i (.lc (own.map (·.2)) t mi mc me)) := fun g =>
  weakS (ps_setLc (tt := fun σ H Q => ∃ g, TR X.K g cl WF (fun _ => VT) (evT mc) σ H Q) (te := fun σ H Q => ∃ g, TR X.K g cl WF (VE X.K g) (evE me) σ H Q) (g := fun v σ H Q => ∃ g, tG X.K g t v σ H Q) hc hN hy hyl hsw (hi g) ok (fun s H C cl fp => (hg s H C cl fp).any) (fun s H C c2 fp => ht s H C c2 fp) (fun s H C cl fp => (he s H C cl fp).any) hs) fun Dn σ H ⟨e, as, rel, q⟩ => by
    simp only [evS] at q
    refine lc_end htv ⟨e, as, rel, Post.go q fun r e' v H' as' rel' st' rv q2 => ?_⟩
    obtain ⟨e2, h2, q2⟩ := q2.go1
    obtain ⟨as2, rel2⟩ := rel'.store' rv h2
    exact q2 _ _ _ rel2
end
end Vm
/-! Vm 14: a def by its body -/
namespace Vm
open PySem PySem.Spec PyProof.Rows L2

/-- the handed in lists, by their slots -/
def ioL : Nat → List Bool → List V → List (Nat × Addr)
  | i, true :: bs, .ref a :: vs => (i, a) :: ioL (i + 1) bs vs
  | i, _ :: bs, _ :: vs => ioL (i + 1) bs vs
  | _, _, _ => []
theorem ioL_false {i : Nat} {bs : List Bool} {v : V} {vs : List V} : ioL i (false :: bs) (v :: vs) = ioL (i + 1) bs vs := by
  cases v <;> rfl
theorem ioL_ge : ∀ {bs : List Bool} {vs : List V} {n : Nat}, ∀ p ∈ ioL n bs vs, n ≤ p.1
  | [], _, _, p, h => by simp [ioL] at h
  | _ :: _, [], _, p, h => by simp [ioL] at h
  | false :: bs, v :: vs, n, p, h => by
    rw [ioL_false] at h
    have := ioL_ge p h
    omega
  | true :: bs, v :: vs, n, p, h => by
    have rest : ∀ q ∈ ioL (n + 1) bs vs, n ≤ q.1 := fun q hq => by
      have := ioL_ge q hq
      omega
    cases v with
    | ref a =>
      rcases List.mem_cons.mp h with rfl | h
      · exact Nat.le_refl _
      · exact rest p h
    | _ => exact rest p h
theorem ioL_snd {K B H} {bs : List Bool} {ds : List D} {vs : List V} (h : Args K B H bs ds vs) : ∀ n, (ioL n bs vs).map (·.2) = ioV bs vs := by
  induction h with
  | nil => exact fun _ => rfl
  | @val bs ds vs d v _ _ ih =>
    intro n
    rw [ioL_false, ih]
    cases v <;> rfl
  | io _ _ _ ih =>
    intro n
    show _ :: (ioL _ _ _).map _ = _ :: _
    rw [ih]
theorem ioL_look : ∀ {bs : List Bool} {vs : List V} {n i : Nat} {a : Addr}, (i, a) ∈ ioL n bs vs → (ioL n bs vs).lookup i = some a
  | [], _, _, _, _, h => by simp [ioL] at h
  | _ :: _, [], _, _, _, h => by simp [ioL] at h
  | false :: bs, v :: vs, n, i, a, h => by
    rw [ioL_false] at h ⊢
    exact ioL_look h
  | true :: bs, v :: vs, n, i, a, h => by
    cases v with
    | ref b =>
      show ((n, b) :: ioL (n + 1) bs vs).lookup i = some a
      rcases List.mem_cons.mp h with e | h
      · cases e
        rw [List.lookup_cons, beq_self_eq_true]
      · have := ioL_ge _ h
        rw [List.lookup_cons, show (i == n) = false from beq_false_of_ne (by intro z; simp at this; omega)]
        exact ioL_look h
    | _ => exact ioL_look (n := n + 1) h
theorem ioL_mem : ∀ {l : List (Nat × Addr)} {i : Nat} {a : Addr}, l.lookup i = some a → (i, a) ∈ l
  | [], _, _, h => by simp at h
  | (j, b) :: l, i, a, h => by
    rw [List.lookup_cons] at h
    split at h
    · rename_i e
      cases h
      rw [eq_of_beq e]
      exact List.mem_cons_self
    · exact List.mem_cons_of_mem _ (ioL_mem h)
section
variable {K : PySem.W.Frag} {B : Addr → Prop} {H H' : Hp} {A : Addr → Prop}
theorem args_at {bs : List Bool} {ds : List D} {vs : List V} (h : Args K B H bs ds vs) : ∀ {n i : Nat} {s : Slot}, (startE bs ds)[i]? = some s → ∃ v, vs[i]? = some v ∧ SlotR K B H s ((ioL n bs vs).lookup (n + i)) (some v) ∧ (s.isIo = false → (ioL n bs vs).lookup (n + i) = none) ∧ ∀ f d, s ≠ .lk f d := by
  induction h with
  | nil => intro n i s q; simp [startE] at q
  | @val bs ds vs d v r _ ih =>
    intro n i s q
    rw [ioL_false]
    cases i with
    | zero =>
      have e : s = .im d := by simpa [startE] using q.symm
      subst e
      have nl : (ioL (n + 1) bs vs).lookup (n + 0) = none := by
        cases hl : (ioL (n + 1) bs vs).lookup (n + 0) with
        | none => rfl
        | some a =>
          have := ioL_ge _ (ioL_mem hl)
          simp at this
          omega
      rw [nl]
      exact ⟨v, rfl, .im r, fun _ => rfl, fun _ _ z => by cases z⟩
    | succ i =>
      obtain ⟨v', h1, h2⟩ := ih (n := n + 1) (i := i) (s := s) (by simpa [startE] using q)
      rw [show n + (i + 1) = n + 1 + i by omega]
      exact ⟨v', by simpa using h1, h2⟩
  | @io bs ds vs d a hB o _ ih =>
    intro n i s q
    have e1 : ioL n (true :: bs) (V.ref a :: vs) = (n, a) :: ioL (n + 1) bs vs := rfl
    rw [e1]
    cases i with
    | zero =>
      have e : s = .io d := by simpa [startE] using q.symm
      subst e
      rw [List.lookup_cons, Nat.add_zero, beq_self_eq_true]
      exact ⟨_, rfl, .io o, (fun z => by cases z), fun _ _ z => by cases z⟩
    | succ i =>
      obtain ⟨v', h1, h2⟩ := ih (n := n + 1) (i := i) (s := s) (by simpa [startE] using q)
      rw [List.lookup_cons, show (n + (i + 1) == n) = false from beq_false_of_ne (by omega), show n + (i + 1) = n + 1 + i by omega]
      exact ⟨v', by simpa using h1, h2⟩
theorem args_io {bs : List Bool} {ds : List D} {vs : List V} (h : Args K B H bs ds vs) : ∀ {n : Nat}, ∀ p ∈ ioL n bs vs, B p.2 ∧ p.1 < n + bs.length ∧ ∃ d, (startE bs ds)[p.1 - n]? = some (.io d) := by
  induction h with
  | nil => intro n p q; simp [ioL] at q
  | @val bs ds vs d v r _ ih =>
    intro n p q
    rw [ioL_false] at q
    obtain ⟨h1, h2, d', h3⟩ := ih p q
    have := ioL_ge p q
    exact ⟨h1, by rw [List.length_cons]; omega, d', by rw [show p.1 - n = p.1 - (n + 1) + 1 by omega]; simpa [startE] using h3⟩
  | @io bs ds vs d a hB o _ ih =>
    intro n p q
    rcases List.mem_cons.mp q with rfl | q
    · exact ⟨hB, by simp, d, by simp [startE]⟩
    · obtain ⟨h1, h2, d', h3⟩ := ih p q
      have := ioL_ge p q
      exact ⟨h1, by rw [List.length_cons]; omega, d', by rw [show p.1 - n = p.1 - (n + 1) + 1 by omega]; simpa [startE] using h3⟩
theorem startE_len {bs : List Bool} {ds : List D} {vs : List V} (h : Args K B H bs ds vs) : (startE bs ds).length = bs.length ∧ ds.length = bs.length := by
  induction h with
  | nil => exact ⟨rfl, rfl⟩
  | val _ _ ih => exact ⟨congrArg Nat.succ ih.1, congrArg Nat.succ ih.2⟩
  | io _ _ _ ih => exact ⟨congrArg Nat.succ ih.1, congrArg Nat.succ ih.2⟩
theorem outs_ok {bs : List Bool} {ds : List D} {vs : List V} (h : Args K B H bs ds vs) : ∀ {e : En} {n : Nat}, (∀ p ∈ ioL n bs vs, ∃ s d, e[p.1 - n]? = some s ∧ contS s = some d ∧ Own K A H' p.2 d) → Paired (fun a d => Own K A H' a d) (ioV bs vs) (outsE bs e) := by
  induction h with
  | nil => intro e n _; exact .nil
  | @val bs ds vs d v r _ ih =>
    intro e n hp
    cases e with
    | nil =>
      have e1 : ioV (false :: bs) (v :: vs) = ioV bs vs := by cases v <;> rfl
      rw [e1, ← ioL_snd ‹Args K B H bs ds vs› (n + 1)]
      cases hq : ioL (n + 1) bs vs with
      | nil => exact .nil
      | cons p l =>
        obtain ⟨s', d', h1, _⟩ := hp p (by rw [ioL_false, hq]; exact List.mem_cons_self)
        simp at h1
    | cons s e =>
      have e1 : ioV (false :: bs) (v :: vs) = ioV bs vs := by cases v <;> rfl
      rw [e1]
      refine ih (e := e) (n := n + 1) fun p q => ?_
      have := ioL_ge p q
      obtain ⟨s', d', h1, h2⟩ := hp p (by rw [ioL_false]; exact q)
      rw [show p.1 - n = p.1 - (n + 1) + 1 by omega] at h1
      exact ⟨s', d', by simpa using h1, h2⟩
  | @io bs ds vs d a hB o _ ih =>
    intro e n hp
    cases e with
    | nil =>
      obtain ⟨s', d', h1, _⟩ := hp (n, a) List.mem_cons_self
      simp at h1
    | cons s e =>
      obtain ⟨s', d', h1, h2, h3⟩ := hp (n, a) List.mem_cons_self
      have es : s = s' := by simpa using h1
      subst es
      have e2 : outsE (true :: bs) (s :: e) = d' :: outsE bs e := by
        show (match contS s with | some d => [d] | none => []) ++ outsE bs e = _
        rw [h2]
        rfl
      rw [e2]
      refine .cons h3 (ih (e := e) (n := n + 1) fun p q => ?_)
      have := ioL_ge p q
      obtain ⟨s', d', h1, h2⟩ := hp p (List.mem_cons_of_mem _ q)
      rw [show p.1 - n = p.1 - (n + 1) + 1 by omega] at h1
      exact ⟨s', d', by simpa using h1, h2⟩
/-- the ghost of a call -/
def gh0 (B : Addr → Prop) (H : Hp) (io : List Bool) (vs : List V) : Gh := { B := B, ioa := ioL 0 io vs, H0 := H }
theorem rel0 {io : List Bool} {ds : List D} {vs : List V} {N : List Str} (t : Trk B H) (h : Args K B H io ds vs) (nd : (ioV io vs).Nodup) (hN : io.length ≤ N.length) :
    Rel K (gh0 B H io vs) (startE io ds ++ List.replicate (N.length - ds.length) .un) (fun i => (ioL 0 io vs).lookup i) (L2.start N vs) H := by
  obtain ⟨l1, l2⟩ := startE_len h
  have l3 := h.length
  have avB : ∀ b, (gh0 B H io vs).av (fun i => (ioL 0 io vs).lookup i) b → B b := fun b z => by
    rcases z with z | z | ⟨i, z⟩
    · exact z
    · exact z.elim
    · exact (args_io h _ (ioL_mem z)).1
  have kp : Kp B ((gh0 B H io vs).av (fun i => (ioL 0 io vs).lookup i)) H H := ⟨fun _ _ z _ => z, fun b _ _ z => avB b z⟩
  have inj : ∀ {l : List (Nat × Addr)}, (l.map (·.2)).Nodup → ∀ {i j a}, (i, a) ∈ l → (j, a) ∈ l → i = j := by
    intro l
    induction l with
    | nil => intro _ i j a h; cases h
    | cons p l ih =>
      intro n i j a h1 h2
      obtain ⟨n1, n2⟩ := List.nodup_cons.mp n
      rcases List.mem_cons.mp h1 with e1 | h1
      · rcases List.mem_cons.mp h2 with e2 | h2
        · rw [← e2] at e1
          cases e1
          rfl
        · exact absurd (List.mem_map.mpr ⟨_, h2, by rw [← e1]⟩) n1
      · rcases List.mem_cons.mp h2 with e2 | h2
        · exact absurd (List.mem_map.mpr ⟨_, h1, by rw [← e2]⟩) n1
        · exact ih n2 h1 h2
  have slot : ∀ i s, (startE io ds ++ List.replicate (N.length - ds.length) .un)[i]? = some s → (∃ v, vs[i]? = some v ∧ (startE io ds)[i]? = some s) ∨ (io.length ≤ i ∧ s = .un) := fun i s q => by
    by_cases hi : i < io.length
    · rw [List.getElem?_append_left (by omega)] at q
      obtain ⟨v, h1, _⟩ := args_at h (n := 0) q
      exact .inl ⟨v, h1, q⟩
    · rw [List.getElem?_append_right (by omega), List.getElem?_replicate] at q
      split at q
      · cases q; exact .inr ⟨by omega, rfl⟩
      · cases q
  refine ⟨?_, fun i s q => ?_, fun i q => ?_, fun i j a q w => ?_, fun i s a q w => ?_, fun p hp => ?_, fun b o q _ => q, fun p hp => (by cases hp), fun b q => t b q, fun b q => q.elim, fun b o q => by cases q⟩
  · unfold L2.start
    rw [List.length_append, List.length_append, List.length_map, List.length_replicate, List.length_replicate]
    omega
  · rcases slot i s q with ⟨v, h1, h2⟩ | ⟨hi, rfl⟩
    · obtain ⟨v', h3, h4, _⟩ := args_at h (n := 0) h2
      have hv : vs[i]? = some v' := h3
      have hi : i < vs.length := (List.getElem?_eq_some_iff.mp hv).1
      have hs : (L2.start N vs)[i]?.join = some v' := by
        unfold L2.start
        rw [List.getElem?_append_left (by rw [List.length_map]; exact hi), List.getElem?_map, hv]
        rfl
      rw [hs]
      rw [Nat.zero_add] at h4
      exact h4.mono kp fun _ _ _ z => z
    · have : (ioL 0 io vs).lookup i = none := by
        cases hl : (ioL 0 io vs).lookup i with
        | none => rfl
        | some a =>
          have := (args_io h _ (ioL_mem hl)).2.1
          simp at this
          omega
      show SlotR K _ H .un ((ioL 0 io vs).lookup i) _
      rw [this]
      exact .un
  · rw [List.length_append, List.length_replicate] at q
    cases hl : (ioL 0 io vs).lookup i with
    | none => rfl
    | some a =>
      have := (args_io h _ (ioL_mem hl)).2.1
      simp at this
      omega
  · exact inj (by rw [ioL_snd h 0]; exact nd) (ioL_mem q) (ioL_mem w)
  · left
    have hm := ioL_mem w
    obtain ⟨_, _, d, h3⟩ := args_io h _ hm
    have hi : i < (startE io ds).length := (List.getElem?_eq_some_iff.mp (by simpa using h3)).1
    rw [List.getElem?_append_left hi] at q
    have : s = .io d := by
      have h3 : (startE io ds)[i]? = some (.io d) := by simpa using h3
      rw [h3] at q
      exact (Option.some.inj q).symm
    exact ⟨by rw [this]; rfl, hm⟩
  · obtain ⟨_, _, d, h3⟩ := args_io h _ hp
    have h3 : (startE io ds)[p.1]? = some (.io d) := by simpa using h3
    refine ⟨ioL_look hp, .io d, ?_, rfl⟩
    rw [List.getElem?_append_left (List.getElem?_eq_some_iff.mp h3).1]
    exact h3
/-- the heap at the end of a call -/
theorem done0 {io : List Bool} {ds : List D} {vs : List V} {e : En} {as : Nat → Option Addr} {σ : L2.St} {T : Addr → Prop} (h : Args K B H io ds vs)
    (rel : Rel K { gh0 B H io vs with T := T } e as σ H') : Done K B T H (ioV io vs) (outsE io e) H' := by
  refine ⟨fun b o q n => rel.keep b o q fun p hp z => n ?_, outs_ok h (n := 0) fun p hp => ?_⟩
  · rw [← ioL_snd h 0]
    exact List.mem_map.mpr ⟨p, hp, z⟩
  · obtain ⟨h1, s, h2, h3⟩ := rel.iok p hp
    have r := rel.sl p.1 s h2
    rw [h1] at r
    have sub : Kp ((Gh.av { gh0 B H io vs with T := T }) as) (fun b => B b ∨ T b) H' H' := ⟨fun _ _ z _ => z, fun b _ _ z => z.elim .inl fun z => .inr (.inl z)⟩
    generalize σ[p.1]?.join = x at r
    cases r with
    | ow o => cases h3
    | io o => exact ⟨_, _, by simpa using h2, rfl, o.mono sub fun _ z => z⟩
    | @lk f d a o =>
      cases f with
      | false => cases h3
      | true => exact ⟨_, _, by simpa using h2, rfl, o.mono sub fun _ z => z⟩
end

/-- THE RULE -/
theorem fnV_of {P : Program} {w : World} {K : PySem.W.Frag} {mg : Str → Option Value} {base : Heap} {cl : Str → Option Value} {k : Nat} {f : Addr} {name qual : Str} {params : Arguments} {body : List Stmt} {scope : Scope} {dV kV doc pm cdv ct oc : Value} {an od : Option Addr}
    {osl : Array (Option Value)} {N ps : List Str} {io : List Bool} {mb : S} (lk : K.lookup f = some ⟨oc, od, .func (PySem.W.fnOf name qual params body scope dV kV doc pm an cdv ct), osl⟩) (hcd : PySem.W.codeIn K cdv qual = true) (S : FnScope N ps scope)
    (len : io.length = ps.length)
    (hbody : ∀ (A : Around) (outer : List Env) (s : Shared) (H : Hp) (E : XK), Room k (A.deeper (envOfC qual scope s.heap.objs.size f cdv)) → A.guards = some [] →
      SSs (cxOf (L2.CX P w) P w K mg base N qual scope f cdv A outer s H E) cl (fun cls d _ H => E cls d H) body mb) :
    FnV P w K mg base cl (k + 1) f (PySem.W.fnOf name qual params body scope dV kV doc pm an cdv ct) ps ⟨io, runF io N.length mb⟩ := by
  refine ⟨len, fun A outer s H args us vs Q E hr gd e0 hb r hsp => ?_⟩
  obtain ⟨B, ds, trk, ar, nd, q⟩ := hsp
  have ar : Args K B H io ds vs := ar
  have nd : (ioV io vs).Nodup := nd
  have hl : vs.length = ps.length := ar.length.trans len
  have atBase : ∀ {b o}, base.get? b = some o → s.heap.get? b = some o := fun {b o} z => (e0.bs b o z).1
  have inK : K.In s.heap := e0.mod.kin.keeps fun _ _ z => atBase z
  have free : s.heap.NoLimit := e0.mod.nolimit.keeps fun _ _ z => atBase z
  have slots : ∀ y ∈ ps.zip us, scope.names.lookup y.1 = some .local ∨ (scope.names.lookup y.1 = some .cell ∧ ((cellsFrom (s.heap.objs.size + 1) scope.names []).lookup y.1).isSome = true) := by
    rintro ⟨y, u⟩ hy
    exact (S.par y (List.of_mem_zip hy).1).imp id fun z => ⟨z, PySem.W.cellsFrom_some _ _ _ (.inl z)⟩
  have hpl : io.length ≤ N.length := by have := congrArg List.length S.pre; rw [List.length_take] at this; omega
  refine codeAny_call_function hr.depth (inK _ _ lk) rfl S.co S.gen rfl (PySem.W.codeRec_of inK hcd) (hb _ _ _ _ (wpAny_newFunctionEnv_cells S.kind slots ?_))
  rintro env rfl s1 x
  refine ⟨free.keeps x.toInCall.keep, codeAny_func ?_⟩
  have hbd := hbody A outer s H E (hr.deeper _) gd (gh0 B H io vs)
  have I : Inv (cxOf (L2.CX P w) P w K mg base N qual scope f cdv A outer s H E) [] (L2.start N vs) H s1 := inv_start S hr.hd e0 hl r x
  have rel := rel0 (N := N) trk ar nd hpl
  have hds : ds.length = io.length := (startE_len ar).2
  have q : match runF io N.length mb ds with
    | .ok d f os => ∀ v H', Back K B H (ioV io vs) os f d v H' → Q v H'
    | .exn x os => ∀ cls dd H', Done K B (fun _ => False) H (ioV io vs) os H' → XR cl x cls dd H' → E cls dd H'
    | .bad => False := q
  unfold runF at q
  rw [if_pos hds] at q
  have hq : tS K (gh0 B H io vs) cl (fun cls d _ H => E cls d H) (evS mb) { nx := fun _ H' => Q .non H', rt := Q } (L2.start N vs) H := by
    refine ⟨_, _, rel, ?_⟩
    generalize evS mb (startE io ds ++ List.replicate (N.length - ds.length) Slot.un) = r at q
    have dn : ∀ {e' : En} {as' : Nat → Option Addr} {σ' : L2.St} {H' : Hp}, Rel K (gh0 B H io vs) e' as' σ' H' → Done K B (fun _ => False) H (ioV io vs) (outsE io e') H' := fun h => done0 ar h
    cases r with
    | nx e' => exact fun σ' H' as' h => q .non H' ⟨dn h, .non⟩
    | rt d f e' =>
      intro v σ' H' as' h rv
      cases f with
      | false =>
        refine q v H' ⟨dn h, ?_⟩
        exact Rep.mono (⟨fun _ _ z _ => z, fun b _ _ z => .inl z⟩ : Kp ((gh0 B H io vs).av as') B H' H') rv
      | true =>
        obtain ⟨a, rfl, nT, h2, o⟩ := rv
        refine q _ H' ⟨a, rfl, (h2.trT a (.inr rfl)).2.2, ?_, o.mono ⟨fun _ _ z _ => z, fun b _ _ z => z.elim .inl fun z => .inr (.inl (.inr z))⟩ fun _ z => z⟩
        have h3 : Rel K { gh0 B H io vs with T := fun b => False ∨ b = a } e' as' σ' H' := h2
        have := done0 ar h3
        exact ⟨this.keep, paired_imp this.outs fun a d o => o.mono ⟨fun _ _ z _ => z, fun b _ _ z => z.elim .inl fun z => .inr (.inr z)⟩ fun _ z => z⟩
    | bk e' => exact q.elim
    | ct e' => exact q.elim
    | exn x e' => exact fun cls dd σ' H' as' h xr => q cls dd H' (dn h) xr
    | bad => exact q.elim
  refine wpAny_mono (hbd.run [] s1 _ H _ I hq) ?_ fun _ _ z => z
  intro fl s' hs
  cases fl with
  | ret u =>
    obtain ⟨v, _, H', J, ru, z⟩ := hs
    exact ⟨v, H', J.os, J.bare, J.base, J.hok, ru, z⟩
  | next =>
    obtain ⟨_, H', J, z⟩ := hs
    exact ⟨.non, H', J.os, J.bare, J.base, J.hok, rfl, z⟩
  | brk => exact hs.choose_spec.choose_spec.2.elim
  | cont => exact hs.choose_spec.choose_spec.2.elim
end Vm
/-! Vm 15: from the text to the small language -/
namespace Vm
open PySem PySem.Spec PyProof.Rows L2

structure Ct where
  N : List Str
  sc : Scope
  fx : Str → Bool
  fns : List (Str × Fm)
  fre : List Str
  gcs : List (Str × D) := []
/-- a module's name that holds a datum for good -/
def GcOk (K : PySem.W.Frag) (mg : Str → Option Value) (x : Str) (d : D) : Prop := ∃ v u, mg x = some u ∧ RelV v u ∧ ∀ A H, Rep K A H d v
structure Good (c : Ct) (cl : Str → Option Value) (W : WX) (k : Nat) (X : Cx) : Prop where
  N : X.N = c.N
  nd : c.N.Nodup
  sc : X.env.scope = c.sc
  kd : c.sc.kind = .function
  calm : X.calm = true
  gd : X.A.guards = some []
  room : Room k X.A
  fre : ∀ x ∈ c.fre, X.mg x = none
  fn : ∀ x m, c.fns.lookup x = some m → FnK X.prog X.w X.K X.mg X.base cl k x m
  fx : ∀ x, c.fx x = true → X.fn x = true
  tk : Takes X W
  gc : ∀ x d, c.gcs.lookup x = some d → GcOk X.K X.mg x d
def relab (psc scope : Scope) : Scope :=
  { scope with names := scope.names.map fun (n, k) => if (k == .free && psc.kind == .function && psc.names.lookup n == some .cell) then (n, .cell) else (n, k) }
def Ct.blk (c : Ct) (scope : Scope) : Ct := { c with sc := relab c.sc scope, fx := fun x => scope.names.lookup x == some .cell }
theorem Good.blk {c : Ct} {cl : Str → Option Value} {W : WX} {k : Nat} {X : Cx} (G : Good c cl W k X) {scope : Scope} (hk : scope.kind = .function) : Bk X scope fun Y => Good (c.blk scope) cl WF k Y := fun s H C l fp =>
  ⟨G.N, G.nd, by
    show relabel scope X.env = relab c.sc scope
    rw [← G.sc]
    rfl, hk, G.calm, G.gd, G.room, G.fre, G.fn, fun x h => h, (fun u s' ⟨_, _, _, _, _, _, _, _, _, _, _, _, _, _, _, _, w⟩ => w.elim), G.gc⟩

/-! ### names -/
def ixOf : List Str → Str → Option Nat
  | [], _ => none
  | y :: ys, x => if y = x then some 0 else (ixOf ys x).map (· + 1)
theorem ixOf_get : ∀ {N : List Str} {x : Str} {i : Nat}, ixOf N x = some i → N[i]? = some x
  | [], _, _, h => by cases h
  | y :: ys, x, i, h => by
    unfold ixOf at h
    split at h
    · rename_i e
      cases h
      rw [e]
      rfl
    · cases hj : ixOf ys x with
      | none => rw [hj] at h; cases h
      | some j =>
        rw [hj] at h
        cases h
        exact ixOf_get (N := ys) hj
def nameOk (x : Str) : Bool := !(x == ("__debug__" : Str)) && !(x == ("__classdict__" : Str)) && !(decide (x = "__name__"))
theorem nameOk_inv {x : Str} (h : nameOk x = true) : (x == ("__debug__" : Str)) = false ∧ (x == ("__classdict__" : Str)) = false ∧ x ≠ "__name__" := by
  unfold nameOk at h
  simpa [and_assoc] using h
def visC (sc : Scope) (x : Str) : Bool := match sc.names.lookup x with
  | some .local => true
  | some .cell => true
  | some .free => true
  | _ => false
theorem visC_ok {sc : Scope} {x : Str} (h : visC sc x = true) : Vis sc x := by
  unfold visC at h
  split at h
  · rename_i e; exact .inl e
  · rename_i e; exact .inr (.inl e)
  · rename_i e; exact .inr (.inr e)
  · cases h
def cVar (c : Ct) (x : Str) : Option Nat := if nameOk x && visC c.sc x then ixOf c.N x else none
def stvC (c : Ct) (x : Str) : Bool := match c.sc.names.lookup x with
  | some .local => true
  | some .cell => c.fx x
  | _ => false
def cSt (c : Ct) (x : Str) : Option Nat := if stvC c x then ixOf c.N x else none
def glC (c : Ct) (x : Str) : Bool := nameOk x && (c.sc.names.lookup x == some .globalImplicit)
section
variable {c : Ct} {cl : Str → Option Value} {W : WX} {k : Nat} {X : Cx}
theorem cVar_ok (G : Good c cl W k X) {x : Str} {i : Nat} (h : cVar c x = some i) {pos : Pos} : PE X (.Name x pos) (tVar i) := by
  unfold cVar at h
  split at h
  · rename_i hb
    obtain ⟨h1, h2⟩ := Bool.and_eq_true_iff.mp hb
    obtain ⟨n1, n2, _⟩ := nameOk_inv h1
    exact pe_var (by rw [G.N]; exact ixOf_get h) (by rw [G.sc]; exact visC_ok h2) n1 n2
  · cases h
theorem cSt_ok (G : Good c cl W k X) {x : Str} {i : Nat} (h : cSt c x = some i) : Stv X x i := by
  unfold cSt at h
  split at h
  · rename_i hb
    refine ⟨by rw [G.N]; exact ixOf_get h, ?_, ?_⟩
    · rw [G.sc]
      unfold stvC at hb
      split at hb
      · rename_i e; exact .inl e
      · rename_i e; exact .inr e
      · cases hb
    · rw [G.sc]
      unfold stvC at hb
      split at hb
      · rename_i e; exact .inr e
      · rename_i e; exact .inl (G.fx x hb)
      · cases hb
  · cases h
theorem glC_ok (G : Good c cl W k X) {x : Str} (h : glC c x = true) : Gl X x ∧ x ≠ "__name__" ∧ (x == ("__debug__" : Str)) = false := by
  unfold glC at h
  obtain ⟨h1, h2⟩ := Bool.and_eq_true_iff.mp h
  obtain ⟨n1, n2, n3⟩ := nameOk_inv h1
  refine ⟨?_, n3, n1⟩
  show X.env.scope.names.lookup x = some .globalImplicit
  rw [G.sc]
  exact eq_of_beq h2
end

/-! ### operators, constants, built-in functions -/
def cBin : Operator → Option Pr
  | .Add => some .add
  | .Sub => some .sub
  | .Mult => some .mul
  | .FloorDiv => some .fdiv
  | .Mod => some .mod
  | .Pow => some .pow
  | _ => none
theorem cBin_ok {X : Cx} {op : Operator} {p : Pr} (h : cBin op = some p) : FR X (f2 (binaryOp op)) (prD p) ∧ ∀ c, p ≠ .cmp c := by
  unfold cBin at h
  split at h <;> cases h
  · exact ⟨fr_add, fun _ => by simp⟩
  · exact ⟨fr_sub, fun _ => by simp⟩
  · exact ⟨fr_mul, fun _ => by simp⟩
  · exact ⟨fr_fdiv, fun _ => by simp⟩
  · exact ⟨fr_mod, fun _ => by simp⟩
  · exact ⟨fr_pow, fun _ => by simp⟩
def cCmp : CmpOp → Option Cm
  | .Lt => some .lt
  | .LtE => some .le
  | .Gt => some .gt
  | .GtE => some .ge
  | .Eq => some .eq
  | .NotEq => some .ne
  | .In => some .isin
  | .NotIn => some .notin
  | _ => none
theorem cCmp_ok {X : Cx} {k : Nat} (hr : Room k X.A) {op : CmpOp} {c : Cm} (h : cCmp op = some c) : FR X (f2 (compareOp op)) (prD (.cmp c)) := by
  have hu := hr.un
  unfold cCmp at h
  split at h <;> cases h
  · exact fr_ord op_lt
  · exact fr_ord op_le
  · exact fr_ord op_gt
  · exact fr_ord op_ge
  · exact fr_eq (by omega)
  · exact fr_ne (by omega)
  · exact fr_in (by omega)
  · exact fr_notin (by omega)
def cCon : Const → Option D
  | .int i => some (.int i)
  | .str x => some (.str x)
  | .bool b => some (.bool b)
  | .none => some .none
  | _ => none
/-- x is C -/
def cIs : CmpOp → Expr → Option (Cm × Value × V)
  | .Is, .Constant .none _ _ => some (.isNone, .none, .non)
  | .IsNot, .Constant .none _ _ => some (.notNone, .none, .non)
  | .Is, .Constant (.bool b) _ _ => some (.isBool b, .bool b, .bl b)
  | .IsNot, .Constant (.bool b) _ _ => some (.notBool b, .bool b, .bl b)
  | _, _ => none
theorem cIs_ok {X : Cx} {op : CmpOp} {e : Expr} {q : Cm} {u : Value} {w : V} (h : cIs op e = some (q, u, w)) : FR X (f1 fun v => compareOp op v u) (prD (.cmp q)) ∧ (∀ u', RelV w u' → u' = u) ∧ PE X e (tC w) ∧ behindInMarks op e = false := by
  unfold cIs at h
  split at h <;> cases h
  · exact ⟨fr_isNone, fun _ h => h, pe_non, rfl⟩
  · exact ⟨fr_notNone, fun _ h => h, pe_non, rfl⟩
  · exact ⟨fr_isBool _, fun _ h => h, pe_bl, rfl⟩
  · exact ⟨fr_notBool _, fun _ h => h, pe_bl, rfl⟩
def bltOf (x : Str) : Option (String × Pr) :=
  if x = "len" then some ("len", .len) else if x = "abs" then some ("abs", .abs) else if x = "max" then some ("max", .max) else if x = "min" then some ("min", .min)
  else if x = "sum" then some ("sum", .sum) else if x = "sorted" then some ("sorted", .sorted) else if x = "repr" then some ("repr", .repr) else if x = "all" then some ("all", .all)
  else if x = "any" then some ("any", .any) else if x = "divmod" then some ("divmod", .divmod) else none
theorem boot_len : bootBuiltins "len" = some (.builtin "len") := by rfl
theorem bltOf_ok {X : Cx} {k : Nat} (hc : X.calm = true) (hg : X.A.guards = some []) (hr : Room k X.A) {x : Str} {id : String} {p : Pr} (h : bltOf x = some (id, p)) : FR X (fun us => PySem.call (.builtin id) us) (prD p) ∧ bootBuiltins x = some (.builtin id) ∧ ∀ c, p ≠ .cmp c := by
  have hu := hr.un
  unfold bltOf at h
  repeat' split at h
  · rename_i e; subst e; cases h; exact ⟨fr_len, by rfl, fun _ => by simp⟩
  · rename_i e; subst e; cases h; exact ⟨fr_abs, by rfl, fun _ => by simp⟩
  · rename_i e; subst e; cases h; exact ⟨fr_max hc, by rfl, fun _ => by simp⟩
  · rename_i e; subst e; cases h; exact ⟨fr_min hc, by rfl, fun _ => by simp⟩
  · rename_i e; subst e; cases h; exact ⟨fr_sum hc, by rfl, fun _ => by simp⟩
  · rename_i e; subst e; cases h; exact ⟨fr_sorted, by rfl, fun _ => by simp⟩
  · rename_i e; subst e; cases h; exact ⟨fr_repr hg (by omega), by rfl, fun _ => by simp⟩
  · rename_i e; subst e; cases h; exact ⟨fr_all hc, by rfl, fun _ => by simp⟩
  · rename_i e; subst e; cases h; exact ⟨fr_any hc, by rfl, fun _ => by simp⟩
  · rename_i e; subst e; cases h; exact ⟨fr_divmod, by rfl, fun _ => by simp⟩
  · cases h
def tyOf (x : Str) : Option (String × Pr) := if x = "int" then some ("int", .toInt) else if x = "list" then some ("list", .toList) else if x = "tuple" then some ("tuple", .toTuple) else none
theorem tyOf_ok {X : Cx} {x : Str} {id : String} {p : Pr} (h : tyOf x = some (id, p)) : FR X (fun us => PySem.call (.type id) us) (prD p) ∧ bootBuiltins x = some (.type id) ∧ ∀ c, p ≠ .cmp c := by
  unfold tyOf at h
  repeat' split at h
  · rename_i e; subst e; cases h; exact ⟨fr_toInt, by rfl, fun _ => by simp⟩
  · rename_i e; subst e; cases h; exact ⟨fr_toList, by rfl, fun _ => by simp⟩
  · rename_i e; subst e; cases h; exact ⟨fr_toTuple, by rfl, fun _ => by simp⟩
  · cases h
def isiOf (x : Str) : Option Ty := if x = "int" then some .int else if x = "bool" then some .bool else if x = "str" then some .str else if x = "tuple" then some .tuple else if x = "list" then some .list else none
theorem isiOf_ok {x : Str} {t : Ty} (h : isiOf x = some t) : bootBuiltins x = some (.type (tyN t)) := by
  unfold isiOf at h
  repeat' split at h
  · rename_i e; subst e; cases h; rfl
  · rename_i e; subst e; cases h; rfl
  · rename_i e; subst e; cases h; rfl
  · rename_i e; subst e; cases h; rfl
  · rename_i e; subst e; cases h; rfl
  · cases h
end Vm
/-! Vm 16: expressions from the text -/
namespace Vm
open PySem PySem.Spec PyProof.Rows L2

def isStar : Expr → Bool
  | .Starred .. => true
  | _ => false
def isSet : Expr → Bool
  | .Set .. => true
  | _ => false
def isName : Expr → Bool
  | .Name .. => true
  | _ => false
def cRow (f : Expr → Option E) : List Expr → Option E
  | [] => some .nil
  | a :: r => (f a).bind fun m => (cRow f r).map fun rs => .cons m rs
def cJoin (f : Expr → Option E) (g : E → E → E) : List Expr → Option E
  | [] => none
  | [a] => f a
  | a :: b :: r => (f a).bind fun m => (cJoin f g (b :: r)).map fun q => g m q
def cTgs (f : Expr → Option Tg) : List Expr → Option Tg
  | [] => some .nl
  | a :: r => (f a).bind fun m => (cTgs f r).map fun rs => .cn m rs
def cTg : Nat → Ct → Expr → Option Tg
  | 0, _, _ => none
  | _ + 1, c, .Name x _ => (cSt c x).map .nm
  | n + 1, c, .Tuple es _ _ => (cTgs (cTg n c) es).map .tp
  | _, _, _ => none
def ownC (c : Ct) (scope : Scope) : List (Str × Nat) := scope.names.filterMap fun p => if p.2 = .local ∨ p.2 = .cell then (ixOf c.N p.1).map fun i => (p.1, i) else none
/-- a call of a name -/
def cCall (c : Ct) (x : Str) (as : List Expr) (r : E) : Option E :=
  if glC c x = true then (match c.fns.lookup x with
    | some m => if as.isEmpty then none else some (.call m r)
    | none => if x ∈ c.fre then (match bltOf x with
      | some (_, p) => if as.isEmpty then none else some (.pr p r)
      | none => (match tyOf x with
        | some (_, p) => if as.isEmpty then none else some (.pr p r)
        | none => none)) else none) else none
def cCall1 (f : Expr → Option E) (c : Ct) (x : Str) (as : List Expr) : Option E := match as with
    | [a] => (match c.fns.lookup x with
      | some m => if glC c x = true ∧ m.io = [true] ∧ isName a = false then (f a).map fun q => .callT m q else (cRow f as).bind fun r => cCall c x as r
      | none => (cRow f as).bind fun r => cCall c x as r)
    | _ => (cRow f as).bind fun r => cCall c x as r
/-- list(range(n)), tuple(range(n)) -/
def cRg (f : Expr → Option E) (c : Ct) (x : Str) (as : List Expr) : Option E := match as with
    | [.Call (.Name y _) [a] [] _] => if y = "range" ∧ glC c x = true ∧ glC c y = true ∧ x ∈ c.fre ∧ y ∈ c.fre then (if x = "list" then (f a).map fun m => .pr .lrg (.cons m .nil) else if x = "tuple" then (f a).map fun m => .pr .trg (.cons m .nil) else none) else none
    | _ => none
def cCallX (f : Expr → Option E) (c : Ct) (x : Str) (as : List Expr) : Option E :=
  if x = "isinstance" then (match as with
    | [a, .Name y _] => if glC c x = true ∧ glC c y = true ∧ x ∈ c.fre ∧ y ∈ c.fre then (isiOf y).bind fun t => (f a).map fun m => .pr (.isi t) (.cons m .nil) else none
    | _ => none)
  else (match cRg f c x as with
    | some m => some m
    | none => cCall1 f c x as)
/-- what is walked -/
def isTup : Expr → Bool
  | .Tuple .. => true
  | _ => false
def cItr (f : Expr → Option E) (c : Ct) (tg it : Expr) : Option E := match it with
  | .Call (.Name x _) as [] _ => if x = "range" then (if glC c x = true ∧ x ∈ c.fre then (match as with
      | [a] => (f a).map fun m => .rng1 m
      | [a, b] => (f a).bind fun ma => (f b).map fun mb => .rng2 ma mb
      | _ => none) else none)
    else if x = "enumerate" then (if glC c x = true ∧ x ∈ c.fre ∧ isTup tg = true then (match as with
      | [a] => (f a).map fun m => .enum (.cons m .nil)
      | [a, b] => (f a).bind fun ma => (f b).map fun mb => .enum2 (.cons ma (.cons mb .nil))
      | _ => none) else none)
    else if x = "zip" then (if glC c x = true ∧ x ∈ c.fre ∧ isTup tg = true then (match as with
      | [a, b] => (f a).bind fun ma => (f b).map fun mb => .zip (.cons ma (.cons mb .nil))
      | [a, b, d] => (f a).bind fun ma => (f b).bind fun mb => (f d).map fun md => .zip3 (.cons ma (.cons mb (.cons md .nil)))
      | _ => none) else none)
    else (f it).map fun m => .of m
  | _ => if isSet it = false then (f it).map fun m => .of m else none
def cIfs (f : Expr → Option E) : List Expr → Option E
  | [] => some (.con (.bool true))
  | [d] => f d
  | _ => none
/-- a list's method -/
def lmOf (nm : Str) (n : Nat) : Option Lm := if nm = "append" ∧ n = 1 then some .app else if nm = "insert" ∧ n = 2 then some .ins else if nm = "pop" ∧ n = 0 then some .pop else if nm = "pop" ∧ n = 1 then some .popAt
  else if nm = "reverse" ∧ n = 0 then some .rev else if nm = "clear" ∧ n = 0 then some .clr else none
def cLm (f : Expr → Option E) (c : Ct) (x nm : Str) (apos cpos : Pos) (as : List Expr) : Option E :=
  if (apos.endLine == cpos.line) = true then (lmOf nm as.length).bind fun m => (cVar c x).bind fun i => (cRow f as).map fun r => .lm m i r else none
def cSub (f : Expr → Option E) (a b : Expr) : Option E := match b with
  | .Slice none none none _ => (f a).map fun m => .pr (.cut false false) (.cons m .nil)
  | .Slice (some l) none none _ => (f a).bind fun ma => (f l).map fun mb => .pr (.cut true false) (.cons ma (.cons mb .nil))
  | .Slice none (some h) none _ => (f a).bind fun ma => (f h).map fun mb => .pr (.cut false true) (.cons ma (.cons mb .nil))
  | .Slice none none (some (.UnaryOp .USub (.Constant (.int i) _ _) _)) _ => if i = 1 then (f a).map fun m => .pr .rev (.cons m .nil) else none
  | b => if isSlice b = false then (f a).bind fun ma => (f b).map fun mb => .pr .item (.cons ma (.cons mb .nil)) else none
def cCp (f : Expr → Option E) (a : Expr) (ops : List CmpOp) (bs : List Expr) : Option E := match ops, bs with
  | [op], [b] => (f a).bind fun ma => (match cIs op b with
      | some (q, _, _) => some (.pr (.cmp q) (.cons ma .nil))
      | none => if behindInMarks op b = false then (cCmp op).bind fun q => (f b).map fun mb => .pr (.cmp q) (.cons ma (.cons mb .nil)) else none)
  | [op, op'], [b, d] => if lastMarks [op, op'] [b, d] = false then (cCmp op).bind fun p => (cCmp op').bind fun q => (f a).bind fun ma => (f b).bind fun mb => (f d).map fun md => .chn p q ma mb md else none
  | _, _ => none
def cLc (f : Expr → Option E) (fb : Expr → Option E) (ft : Expr → Option Tg) (c : Ct) (el tg it : Expr) (ifs : List Expr) (scope : Scope) : Option E :=
  if blkC c.N c.sc scope (ownC c scope) = true then
    (cItr f c tg it).bind fun mi => (ft tg).bind fun t => if (tgIx t).all (fun j => decide (j ∈ (ownC c scope).map fun p => p.2)) = true then
      (cIfs fb ifs).bind fun mc => (fb el).map fun me => .lc ((ownC c scope).map (·.2)) t mi mc me else none
  else none
def cE : Nat → Ct → Expr → Option E
  | 0, _, _ => none
  | n + 1, c, e => match e with
    | .Name x _ => (match cVar c x with
      | some i => some (.var i)
      | none => if glC c x = true then (c.gcs.lookup x).map fun d => .con d else none)
    | .Constant q _ _ => (cCon q).map fun d => .con d
    | .Tuple es _ _ => (cRow (cE n c) es).map fun r => .tup r
    | .List es _ => (cRow (cE n c) es).map fun r => .lst r
    | .BinOp a op b _ => (cBin op).bind fun p => (cE n c a).bind fun ma => (cE n c b).map fun mb => .pr p (.cons ma (.cons mb .nil))
    | .UnaryOp .USub a _ => (cE n c a).map fun m => .pr .neg (.cons m .nil)
    | .UnaryOp .Not a _ => (cE n c a).map fun m => .not m
    | .BoolOp .And (a :: b :: r) _ => cJoin (cE n c) .and (a :: b :: r)
    | .BoolOp .Or (a :: b :: r) _ => cJoin (cE n c) .or (a :: b :: r)
    | .Compare a ops bs _ => cCp (cE n c) a ops bs
    | .IfExp t a b _ => (cE n c t).bind fun mt => (cE n c a).bind fun ma => (cE n c b).map fun mb => .ite mt ma mb
    | .Subscript a b _ => cSub (cE n c) a b
    | .Call (.Name x _) as [] _ => cCallX (cE n c) c x as
    | .Call (.Attribute (.Name x _) nm apos) as [] cpos => cLm (cE n c) c x nm apos cpos as
    | .ListComp el [⟨tg, it, ifs, 0⟩] scope _ =>
      cLc (cE n c) (cE n (c.blk scope)) (cTg n (c.blk scope)) c el tg it ifs scope
    | _ => none
/-! ### soundness -/
section
variable {c : Ct} {cl : Str → Option Value} {W : WX} {k : Nat} {X : Cx} {pos : Pos} {f : Expr → Option E}
theorem bind_some {α β : Type} {o : Option α} {g : α → Option β} {b : β} (h : o.bind g = some b) : ∃ a, o = some a ∧ g a = some b := Option.bind_eq_some_iff.mp h
theorem map_some {α β : Type} {o : Option α} {g : α → β} {b : β} (h : o.map g = some b) : ∃ a, o = some a ∧ g a = b := Option.map_eq_some_iff.mp h
/-- by value -/
theorem sb_val {e : Expr} {m : E} (hs : SE X cl W e m) (hm : ∀ e, evT m e = (evE m e).bind fun r e => lift (truD r.1) e) (he : ∀ whole, isTrue e X.env whole = (do let v ← whole; standAt e.pos; holding [v] (truthy v))) (hv : ∀ i, m ≠ .var i) (hn : ∀ x p, e ≠ .Starred x p) : SB X cl W e m :=
  ⟨hs, st_of hm hs he, fun i h => absurd h (hv i), hn⟩
theorem evT_pr {p : Pr} {as : E} (h : ∀ c, p ≠ .cmp c) : ∀ e, evT (.pr p as) e = (evE (.pr p as) e).bind fun r e => lift (truD r.1) e := by
  intro e
  cases p with
  | cmp c => exact absurd rfl (h c)
  | _ => simp only [evT]
def Hf (X : Cx) (cl : Str → Option Value) (W : WX) (f : Expr → Option E) : Prop := ∀ e m, f e = some m → SB X cl W e m
theorem cRow_ok (hf : Hf X cl W f) : ∀ {es : List Expr} {r : E}, cRow f es = some r → Row X cl W es r
  | [], r, h => by cases h; exact .nil
  | a :: es, r, h => by
    unfold cRow at h
    obtain ⟨m, h1, h2⟩ := bind_some h
    obtain ⟨rs, h3, h4⟩ := map_some h2
    subst h4
    exact .cons (hf a m h1) (cRow_ok hf h3)
theorem cAnd_ok (hf : Hf X cl W f) : ∀ {es : List Expr} {a b : Expr} {m : E}, cJoin f .and (a :: b :: es) = some m → (∀ pos, SE X cl W (.BoolOp .And (a :: b :: es) pos) m) ∧ (∀ pos, SW X cl W (.BoolOp .And (a :: b :: es) pos) m) ∧ ∀ i, m ≠ .var i
  | [], a, b, m, h => by
    unfold cJoin at h
    obtain ⟨ma, h1, h2⟩ := bind_some h
    obtain ⟨mb, h3, h4⟩ := map_some h2
    subst h4
    exact ⟨fun pos => se_and (hf a ma h1).se (se_one (hf b mb h3).se), fun pos => sw_and (hf a ma h1).st (sw_and1 (hf b mb h3).st), fun i => by simp⟩
  | d :: es, a, b, m, h => by
    unfold cJoin at h
    obtain ⟨ma, h1, h2⟩ := bind_some h
    obtain ⟨mb, h3, h4⟩ := map_some h2
    subst h4
    obtain ⟨r1, r2, _⟩ := cAnd_ok hf h3
    exact ⟨fun pos => se_and (hf a ma h1).se (r1 pos), fun pos => sw_and (hf a ma h1).st (r2 pos), fun i => by simp⟩
theorem cOr_ok (hf : Hf X cl W f) : ∀ {es : List Expr} {a b : Expr} {m : E}, cJoin f .or (a :: b :: es) = some m → (∀ pos, SE X cl W (.BoolOp .Or (a :: b :: es) pos) m) ∧ (∀ pos, SW X cl W (.BoolOp .Or (a :: b :: es) pos) m) ∧ ∀ i, m ≠ .var i
  | [], a, b, m, h => by
    unfold cJoin at h
    obtain ⟨ma, h1, h2⟩ := bind_some h
    obtain ⟨mb, h3, h4⟩ := map_some h2
    subst h4
    exact ⟨fun pos => se_or (hf a ma h1).se (se_one (hf b mb h3).se), fun pos => sw_or (hf a ma h1).st (sw_or1 (hf b mb h3).st), fun i => by simp⟩
  | d :: es, a, b, m, h => by
    unfold cJoin at h
    obtain ⟨ma, h1, h2⟩ := bind_some h
    obtain ⟨mb, h3, h4⟩ := map_some h2
    subst h4
    obtain ⟨r1, r2, _⟩ := cOr_ok hf h3
    exact ⟨fun pos => se_or (hf a ma h1).se (r1 pos), fun pos => sw_or (hf a ma h1).st (r2 pos), fun i => by simp⟩
theorem cCp_ok (G : Good c cl W k X) (hf : Hf X cl W f) {a : Expr} {ops : List CmpOp} {bs : List Expr} {m : E} (h : cCp f a ops bs = some m) : SB X cl W (.Compare a ops bs pos) m := by
  unfold cCp at h
  split at h
  · rename_i op b
    obtain ⟨ma, h1, h2⟩ := bind_some h
    split at h2
    · rename_i q u w hi
      cases h2
      obtain ⟨i1, i2, i3, i4⟩ := cIs_ok (X := X) hi
      exact ⟨se_is i1 i2 (hf a ma h1) i3 i4, st_is i1 i2 (hf a ma h1) i3 i4, (fun i z => by cases z), fun _ _ => by simp⟩
    · split at h2
      · rename_i hm
        obtain ⟨q, h3, h4⟩ := bind_some h2
        obtain ⟨mb, h5, h6⟩ := map_some h4
        subst h6
        have fr := cCmp_ok (X := X) G.room h3
        exact ⟨se_cmp fr (hf a ma h1) (hf b mb h5) hm, st_cmp fr (hf a ma h1) (hf b mb h5) hm, (fun i z => by cases z), fun _ _ => by simp⟩
      · cases h2
  · rename_i op op' b d
    split at h
    · rename_i hm
      obtain ⟨p, h1, h⟩ := bind_some h
      obtain ⟨q, h2, h⟩ := bind_some h
      obtain ⟨ma, h3, h⟩ := bind_some h
      obtain ⟨mb, h4, h⟩ := bind_some h
      obtain ⟨md, h5, h6⟩ := map_some h
      subst h6
      have fr1 := cCmp_ok (X := X) G.room h1
      have fr2 := cCmp_ok (X := X) G.room h2
      exact ⟨se_chn fr1 fr2 (hf a ma h3).se (hf b mb h4).se (hf d md h5).se hm, st_chn fr1 fr2 (hf a ma h3).se (hf b mb h4).se (hf d md h5).se hm, (fun i z => by cases z), fun _ _ => by simp⟩
    · cases h
  · cases h
theorem plainIx {b : Expr} (h : isSlice b = false) : PlainIx b := by
  intro o i
  cases b <;> first | rfl | cases h
theorem cSub_ok (hf : Hf X cl W f) {a b : Expr} {m : E} (h : cSub f a b = some m) : SB X cl W (.Subscript a b pos) m := by
  unfold cSub at h
  split at h
  · obtain ⟨ma, h1, h2⟩ := map_some h
    subst h2
    exact sb_val (se_cut00 (hf a ma h1)) (evT_pr fun _ => by simp) (fun _ => rfl) (fun _ => by simp) fun _ _ => by simp
  · rename_i l _
    obtain ⟨ma, h1, h⟩ := bind_some h
    obtain ⟨mb, h3, h2⟩ := map_some h
    subst h2
    exact sb_val (se_cut10 (hf a ma h1) (hf l mb h3)) (evT_pr fun _ => by simp) (fun _ => rfl) (fun _ => by simp) fun _ _ => by simp
  · rename_i l _
    obtain ⟨ma, h1, h⟩ := bind_some h
    obtain ⟨mb, h3, h2⟩ := map_some h
    subst h2
    exact sb_val (se_cut01 (hf a ma h1) (hf l mb h3)) (evT_pr fun _ => by simp) (fun _ => rfl) (fun _ => by simp) fun _ _ => by simp
  · split at h
    · rename_i hi
      subst hi
      obtain ⟨ma, h1, h2⟩ := map_some h
      subst h2
      exact sb_val (se_rev (hf a ma h1)) (evT_pr fun _ => by simp) (fun _ => rfl) (fun _ => by simp) fun _ _ => by simp
    · cases h
  · split at h
    · rename_i hs
      obtain ⟨ma, h1, h⟩ := bind_some h
      obtain ⟨mb, h3, h2⟩ := map_some h
      subst h2
      exact sb_val (se_item (hf a ma h1) (hf b mb h3) (plainIx hs)) (evT_pr fun _ => by simp) (fun _ => rfl) (fun _ => by simp) fun _ _ => by simp
    · cases h
theorem cCall_ok (G : Good c cl W k X) (hf : Hf X cl W f) {x : Str} {q : Pos} {as : List Expr} {m : E} (h : ((cRow f as).bind fun r => cCall c x as r) = some m) : SB X cl W (.Call (.Name x q) as [] pos) m := by
  obtain ⟨r, h1, h2⟩ := bind_some h
  have row := cRow_ok hf h1
  unfold cCall at h2
  split at h2
  · rename_i hg
    obtain ⟨g1, g2, g3⟩ := glC_ok G hg
    split at h2
    · rename_i fm hm
      split at h2
      · cases h2
      · cases h2
        cases row with
        | nil => rename_i z; exact absurd rfl z
        | cons r1 r2 => exact sb_val (se_call (G.fn _ _ hm) G.room G.gd g1 G.tk g3 (.cons r1 r2)) (fun e => by simp only [evT]) (fun _ => rfl) (fun _ => by simp) fun _ _ => by simp
    · split at h2
      · rename_i hfr
        split at h2
        · rename_i id p hb
          obtain ⟨b1, b2, b3⟩ := bltOf_ok G.calm G.gd G.room hb
          split at h2
          · cases h2
          · cases h2
            cases row with
            | nil => rename_i z; exact absurd rfl z
            | cons r1 r2 => exact sb_val (se_blt b1 g1 (G.fre _ hfr) b2 g2 g3 (.cons r1 r2)) (evT_pr b3) (fun _ => rfl) (fun _ => by simp) fun _ _ => by simp
        · split at h2
          · rename_i id p hb
            obtain ⟨b1, b2, b3⟩ := tyOf_ok (X := X) hb
            split at h2
            · cases h2
            · cases h2
              cases row with
              | nil => rename_i z; exact absurd rfl z
              | cons r1 r2 => exact sb_val (se_bty b1 g1 (G.fre _ hfr) b2 g2 g3 (.cons r1 r2)) (evT_pr b3) (fun _ => rfl) (fun _ => by simp) fun _ _ => by simp
          · cases h2
      · cases h2
  · cases h2
theorem cCall1_ok (G : Good c cl W k X) (hf : Hf X cl W f) {x : Str} {q : Pos} {as : List Expr} {m : E} (h : cCall1 f c x as = some m) : SB X cl W (.Call (.Name x q) as [] pos) m := by
  unfold cCall1 at h
  split at h
  · rename_i a
    split at h
    · rename_i fm hm
      split at h
      · rename_i hc
        obtain ⟨q, h1, h2⟩ := map_some h
        subst h2
        obtain ⟨g1, g2, g3⟩ := glC_ok G hc.1
        exact sb_val (se_callT (G.fn _ _ hm) G.room G.gd g1 G.tk g3 (hf _ _ h1)) (fun e => by simp only [evT]) (fun _ => rfl) (fun _ => by simp) fun _ _ => by simp
      · exact cCall_ok G hf h
    · exact cCall_ok G hf h
  · exact cCall_ok G hf h
theorem cCallX_ok (G : Good c cl W k X) (hf : Hf X cl W f) {x : Str} {q : Pos} {as : List Expr} {m : E} (h : cCallX f c x as = some m) : SB X cl W (.Call (.Name x q) as [] pos) m := by
  unfold cCallX at h
  split at h
  · rename_i ex
    subst ex
    split at h
    · rename_i a y _
      split at h
      · rename_i hc
        obtain ⟨h1, h2, h3, h4⟩ := hc
        obtain ⟨t, h5, h⟩ := bind_some h
        obtain ⟨ma, h6, h7⟩ := map_some h
        subst h7
        obtain ⟨g1, g2, g3⟩ := glC_ok G h1
        obtain ⟨g4, g5, g6⟩ := glC_ok G h2
        exact sb_val (se_isi g1 (G.fre _ h3) (by rfl) g2 g3 g4 (G.fre _ h4) (isiOf_ok h5) g5 g6 (hf a ma h6)) (evT_pr fun _ => by simp) (fun _ => rfl) (fun _ => by simp) fun _ _ => by simp
      · cases h
    · cases h
  · split at h
    · rename_i hr
      cases h
      unfold cRg at hr
      split at hr
      · rename_i y yp a cp
        split at hr
        · rename_i hc
          obtain ⟨rfl, h1, h2, h3, h4⟩ := hc
          obtain ⟨g1, _, _⟩ := glC_ok G h1
          obtain ⟨g4, _, _⟩ := glC_ok G h2
          split at hr
          · rename_i ex
            subst ex
            obtain ⟨ma, h6, h7⟩ := map_some hr
            subst h7
            exact sb_val (se_lrg G.calm g1 (G.fre _ h3) g4 (G.fre _ h4) (hf a ma h6)) (evT_pr fun _ => by simp) (fun _ => rfl) (fun _ => by simp) fun _ _ => by simp
          · split at hr
            · rename_i ex
              subst ex
              obtain ⟨ma, h6, h7⟩ := map_some hr
              subst h7
              exact sb_val (se_trg G.calm g1 (G.fre _ h3) g4 (G.fre _ h4) (hf a ma h6)) (evT_pr fun _ => by simp) (fun _ => rfl) (fun _ => by simp) fun _ _ => by simp
            · cases hr
        · cases hr
      · cases hr
    · exact cCall1_ok G hf h
theorem Row.few {es : List Expr} {r : E} (h : Row X cl W es r) : (backTo pos (starEach es X.env)).all (fun x => !x.1) = true := by
  induction h with
  | nil => rfl
  | cons h _ ih =>
    rw [star_cons h.ns]
    show (!false && _) = true
    rw [Bool.not_false, Bool.true_and]
    exact ih
theorem cLm_ok (G : Good c cl W k X) (hf : Hf X cl W f) {x nm : Str} {q apos cpos : Pos} {as : List Expr} {m : E} (h : cLm f c x nm apos cpos as = some m) : SB X cl W (.Call (.Attribute (.Name x q) nm apos) as [] cpos) m := by
  unfold cLm at h
  split at h
  · rename_i hl
    obtain ⟨l, h1, h⟩ := bind_some h
    obtain ⟨i, h2, h⟩ := bind_some h
    obtain ⟨r, h3, h4⟩ := map_some h
    subst h4
    have row := cRow_ok hf h3
    have hv := cVar_ok G h2 (pos := q)
    have few := row.few (pos := cpos)
    refine sb_val ?_ (fun e => by simp only [evT]) (fun _ => rfl) (fun _ => by simp) fun _ _ => by simp
    have fw : ∀ {a : Expr} {es : List Expr}, as = a :: es → as.length < 20 → ((backTo cpos (starEach (a :: es) X.env)).all (fun x => !x.1) && (backToKw cpos (keywordEach [] X.env)).all (fun x => x.1.isSome)
      && decide ((a :: es).length + ([] : List Keyword).length + (if ([] : List Keyword).isEmpty then 0 else 1) < 30)) = true := fun {a es} e hlt => by
      subst e
      rw [few]
      have : decide ((a :: es).length + ([] : List Keyword).length + (if ([] : List Keyword).isEmpty then 0 else 1) < 30) = true := decide_eq_true (by
        show (a :: es).length + 0 + 0 < 30
        omega)
      rw [this]
      rfl
    unfold lmOf at h1
    split at h1
    · rename_i hn
      obtain ⟨rfl, hn⟩ := hn
      cases h1
      cases row with
      | nil => cases hn
      | cons r1 r2 => exact se_lm PySem.F.slot_list_append PySem.F.type_list_append mt_append lm_app hv (.cons r1 r2) hl (fw rfl (by omega))
    · split at h1
      · rename_i hn
        obtain ⟨rfl, hn⟩ := hn
        cases h1
        cases row with
        | nil => cases hn
        | cons r1 r2 => exact se_lm PySem.F.slot_list_insert PySem.F.type_list_insert mt_insert lm_ins hv (.cons r1 r2) hl (fw rfl (by omega))
      · split at h1
        · rename_i hn
          obtain ⟨rfl, hn⟩ := hn
          cases h1
          cases row with
          | nil => exact se_lm0 PySem.F.slot_list_pop PySem.F.type_list_pop mt_pop lm_pop hv hl
          | cons r1 r2 => cases hn
        · split at h1
          · rename_i hn
            obtain ⟨rfl, hn⟩ := hn
            cases h1
            cases row with
            | nil => cases hn
            | cons r1 r2 => exact se_lm PySem.F.slot_list_pop PySem.F.type_list_pop mt_popAt lm_popAt hv (.cons r1 r2) hl (fw rfl (by omega))
          · split at h1
            · rename_i hn
              obtain ⟨rfl, hn⟩ := hn
              cases h1
              cases row with
              | nil => exact se_lm0 PySem.F.slot_list_reverse PySem.F.type_list_reverse mt_reverse lm_rev hv hl
              | cons r1 r2 => cases hn
            · split at h1
              · rename_i hn
                obtain ⟨rfl, hn⟩ := hn
                cases h1
                cases row with
                | nil => exact se_lm0 PySem.F.slot_list_clear PySem.F.type_list_clear mt_clear lm_clr hv hl
                | cons r1 r2 => cases hn
              · cases h1
  · cases h
theorem notSet {it : Expr} {env : Env} (h : isSet it = false) : ∀ x, foldedSetIterable it env x = pure x := by
  intro x
  cases it <;> first | rfl | cases h
theorem isTup_ok {e : Expr} (h : isTup e = true) : ∃ es k p, e = .Tuple es k p := by
  cases e <;> first | exact ⟨_, _, _, rfl⟩ | cases h
theorem cItr_ok (G : Good c cl W k X) (hf : Hf X cl W f) {tg it : Expr} {m : E} (h : cItr f c tg it = some m) : SI X cl W tg it m ∧ isSet it = false := by
  unfold cItr at h
  split at h
  · rename_i x q as pos
    split at h
    · rename_i ex
      subst ex
      split at h
      · rename_i hc
        obtain ⟨g1, g2, g3⟩ := glC_ok G hc.1
        split at h
        · obtain ⟨ma, h1, h2⟩ := map_some h
          subst h2
          exact ⟨si_rng1 g1 (G.fre _ hc.2) (hf _ ma h1), rfl⟩
        · obtain ⟨ma, h1, h⟩ := bind_some h
          obtain ⟨mb, h3, h2⟩ := map_some h
          subst h2
          exact ⟨si_rng2 g1 (G.fre _ hc.2) (hf _ ma h1) (hf _ mb h3), rfl⟩
        · cases h
      · cases h
    · split at h
      · rename_i ex
        subst ex
        split at h
        · rename_i hc
          obtain ⟨c1, c2, c3⟩ := hc
          obtain ⟨g1, g2, g3⟩ := glC_ok G c1
          obtain ⟨elts, kk, tpos, rfl⟩ := isTup_ok c3
          split at h
          · obtain ⟨ma, h1, h2⟩ := map_some h
            subst h2
            exact ⟨si_enum1 g1 (G.fre _ c2) (hf _ ma h1), rfl⟩
          · obtain ⟨ma, h1, h⟩ := bind_some h
            obtain ⟨mb, h3, h2⟩ := map_some h
            subst h2
            exact ⟨si_enum2 g1 (G.fre _ c2) (hf _ ma h1) (hf _ mb h3), rfl⟩
          · cases h
        · cases h
      · split at h
        · rename_i ex
          subst ex
          split at h
          · rename_i hc
            obtain ⟨c1, c2, c3⟩ := hc
            obtain ⟨g1, g2, g3⟩ := glC_ok G c1
            obtain ⟨elts, kk, tpos, rfl⟩ := isTup_ok c3
            split at h
            · obtain ⟨ma, h1, h⟩ := bind_some h
              obtain ⟨mb, h3, h2⟩ := map_some h
              subst h2
              exact ⟨si_zip2 g1 (G.fre _ c2) (hf _ ma h1) (hf _ mb h3), rfl⟩
            · obtain ⟨ma, h1, h⟩ := bind_some h
              obtain ⟨mb, h3, h⟩ := bind_some h
              obtain ⟨md, h4, h2⟩ := map_some h
              subst h2
              exact ⟨si_zip3 g1 (G.fre _ c2) (hf _ ma h1) (hf _ mb h3) (hf _ md h4), rfl⟩
            · cases h
          · cases h
        · obtain ⟨ma, h1, h2⟩ := map_some h
          subst h2
          exact ⟨si_of (hf _ ma h1), rfl⟩
  · split at h
    · rename_i hs
      obtain ⟨ma, h1, h2⟩ := map_some h
      subst h2
      exact ⟨si_of (hf _ ma h1), hs⟩
    · cases h
theorem cTgs_ok {ft : Expr → Option Tg} (hf : ∀ e t, ft e = some t → STg X e t) : ∀ {es : List Expr} {t : Tg}, cTgs ft es = some t → SMg X es t
  | [], t, h => by cases h; exact smg_nil
  | a :: es, t, h => by
    unfold cTgs at h
    obtain ⟨m, h1, h2⟩ := bind_some h
    obtain ⟨rs, h3, h4⟩ := map_some h2
    subst h4
    exact smg_cons (hf a m h1) (cTgs_ok hf h3)
theorem cTg_ok (G : Good c cl W k X) {n : Nat} : ∀ {e : Expr} {t : Tg}, cTg n c e = some t → STg X e t := by
  induction n with
  | zero => intro e t h; cases h
  | succ n ih =>
    intro e t h
    cases e with
    | Name x p =>
      obtain ⟨i, h1, h2⟩ := map_some (show (cSt c x).map Tg.nm = some t from h)
      subst h2
      exact stg_nm (by rw [G.N]; exact G.nd) (cSt_ok G h1)
    | Tuple es kk p =>
      obtain ⟨r, h1, h2⟩ := map_some (show (cTgs (cTg n c) es).map Tg.tp = some t from h)
      subst h2
      exact stg_tp G.calm (cTgs_ok (fun e t h => ih h) h1)
    | _ => cases h
/-- all that a comprehension asks for -/
structure LcOk (X : Cx) (cl : Str → Option Value) (W : WX) (own : List (Str × Nat)) (el tg it : Expr) (ifs : List Expr) (scope : Scope) (t : Tg) (mi mc me : E) : Prop where
  si : SI X cl W tg it mi
  ok : BlkOk X.N X.env.scope scope own
  tg : Bk X scope fun Y => STg Y tg t
  ifs : Bk X scope fun Y => STs Y cl WF ifs mc
  el : Bk X scope fun Y => SE Y cl WF el me
  ns : ∀ x, foldedSetIterable it X.env x = pure x
  sub : ∀ j ∈ tgIx t, j ∈ own.map (·.2)
theorem cLc_ok {fb : Expr → Option E} {ft : Expr → Option Tg} (G : Good c cl W k X) (hf : Hf X cl W f) {el tg it : Expr} {ifs : List Expr} {scope : Scope} {m : E} (hb : ∀ {Y : Cx}, Good (c.blk scope) cl WF k Y → Hf Y cl WF fb) (ht : ∀ {Y : Cx}, Good (c.blk scope) cl WF k Y → ∀ e t, ft e = some t → STg Y e t)
    (h : cLc f fb ft c el tg it ifs scope = some m) : ∃ own t mi mc me, m = .lc (own.map (·.2)) t mi mc me ∧ LcOk X cl W own el tg it ifs scope t mi mc me := by
  unfold cLc at h
  split at h
  · rename_i hb2
    obtain ⟨mi, h1, h⟩ := bind_some h
    obtain ⟨t, h2, h⟩ := bind_some h
    split at h
    · rename_i hts
      obtain ⟨mc, h3, h⟩ := bind_some h
      obtain ⟨me, h4, h5⟩ := map_some h
      obtain ⟨si, ns⟩ := cItr_ok (tg := tg) G hf h1
      have ok : BlkOk X.N X.env.scope scope (ownC c scope) := by
        rw [G.N, G.sc]
        exact blkOk_by hb2
      have GB := G.blk ok.kind
      refine ⟨ownC c scope, t, mi, mc, me, h5.symm, si, ok, fun s H C l fp => ht (GB s H C l fp) _ _ h2, fun s H C l fp => ?_, fun s H C l fp => (hb (GB s H C l fp) _ me h4).se, notSet ns, fun j hj => ?_⟩
      · unfold cIfs at h3
        split at h3
        · cases h3; exact sts_nil
        · exact sts_one (hb (GB s H C l fp) _ mc h3).st
        · cases h3
      · have := (List.all_eq_true.mp hts) j hj
        exact of_decide_eq_true this
    · cases h
  · cases h
theorem cE_ok : ∀ {n : Nat} {c : Ct} {W : WX} {X : Cx}, Good c cl W k X → Hf X cl W (cE n c)
  | 0, _, _, _, _, _, _, h => by cases h
  | n + 1, c, W, X, G, e, m, h => by
    have ih : ∀ {c : Ct} {W : WX} {X : Cx}, Good c cl W k X → Hf X cl W (cE n c) := fun G => cE_ok G
    have hf := ih G
    unfold cE at h
    split at h
    · split at h
      · rename_i i h1
        cases h
        exact sb_var (cVar_ok G h1)
      · split at h
        · rename_i hg
          obtain ⟨d, h1, h2⟩ := map_some h
          subst h2
          obtain ⟨g1, g2, g3⟩ := glC_ok G hg
          obtain ⟨v, u, m1, m2, m3⟩ := G.gc _ _ h1
          exact sb_val (se_con (pe_glob g1 m1 m2 g3) m3) (fun e => by simp only [evT]) (fun _ => rfl) (fun _ => by simp) fun _ _ => by simp
        · cases h
    · rename_i q _ _
      obtain ⟨d, h1, h2⟩ := map_some h
      subst h2
      unfold cCon at h1
      split at h1 <;> cases h1
      · exact sb_val (se_con pe_int fun _ _ => .int _) (fun e => by simp only [evT]) (fun _ => rfl) (fun _ => by simp) fun _ _ => by simp
      · exact sb_val (se_con pe_str fun _ _ => .str _) (fun e => by simp only [evT]) (fun _ => rfl) (fun _ => by simp) fun _ _ => by simp
      · exact sb_val (se_con pe_bl fun _ _ => .bl _) (fun e => by simp only [evT]) (fun _ => rfl) (fun _ => by simp) fun _ _ => by simp
      · exact sb_val (se_con pe_non fun _ _ => .non) (fun e => by simp only [evT]) (fun _ => rfl) (fun _ => by simp) fun _ _ => by simp
    · obtain ⟨r, h1, h2⟩ := map_some h
      subst h2
      exact sb_val (se_tup (cRow_ok hf h1)) (fun e => by simp only [evT]) (fun _ => rfl) (fun _ => by simp) fun _ _ => by simp
    · obtain ⟨r, h1, h2⟩ := map_some h
      subst h2
      exact sb_val (se_lst (cRow_ok hf h1)) (fun e => by simp only [evT]) (fun _ => rfl) (fun _ => by simp) fun _ _ => by simp
    · obtain ⟨p, h1, h⟩ := bind_some h
      obtain ⟨ma, h2, h⟩ := bind_some h
      obtain ⟨mb, h3, h4⟩ := map_some h
      subst h4
      obtain ⟨b1, b2⟩ := cBin_ok (X := X) h1
      exact sb_val (se_bin b1 (hf _ ma h2) (hf _ mb h3)) (evT_pr b2) (fun _ => rfl) (fun _ => by simp) fun _ _ => by simp
    · obtain ⟨ma, h1, h2⟩ := map_some h
      subst h2
      exact sb_val (se_un fr_neg (hf _ ma h1)) (evT_pr fun _ => by simp) (fun _ => rfl) (fun _ => by simp) fun _ _ => by simp
    · obtain ⟨ma, h1, h2⟩ := map_some h
      subst h2
      exact ⟨se_not (hf _ ma h1).se, st_not (hf _ ma h1).st, (fun i z => by cases z), fun _ _ => by simp⟩
    · obtain ⟨r1, r2, r3⟩ := cAnd_ok hf h
      exact ⟨r1 _, (r2 _).st, fun i z => absurd z (r3 i), fun _ _ => by simp⟩
    · obtain ⟨r1, r2, r3⟩ := cOr_ok hf h
      exact ⟨r1 _, (r2 _).st, fun i z => absurd z (r3 i), fun _ _ => by simp⟩
    · exact cCp_ok G hf h
    · obtain ⟨mt, h1, h⟩ := bind_some h
      obtain ⟨ma, h2, h⟩ := bind_some h
      obtain ⟨mb, h3, h4⟩ := map_some h
      subst h4
      refine ⟨se_ite (hf _ mt h1).st (hf _ ma h2).se (hf _ mb h3).se, fun g => ⟨fun pins s σ H Q I ⟨e, as, rel, q⟩ => ?_⟩, (fun i z => by cases z), fun _ _ => by simp⟩
      simp only [evT] at q
      exact q.elim
    · exact cSub_ok hf h
    · exact cCallX_ok G hf h
    · exact cLm_ok G hf h
    · obtain ⟨own, t, mi, mc, me, rfl, L⟩ := cLc_ok G hf (fun G => ih G) (fun G e t h => cTg_ok G h) h
      exact sb_val (se_lc G.calm (by rw [G.N]; exact G.nd) L.si L.ok L.tg L.ifs L.el L.ns L.sub) (fun e => by simp only [evT]) (fun _ => rfl) (fun _ => by simp) fun _ _ => by simp
    · cases h
end
end Vm
/-! Vm 17: statements from the text -/
namespace Vm
open PySem PySem.Spec PyProof.Rows L2

def isComp : Expr → Bool
  | .ListComp .. => true
  | .SetComp .. => true
  | .DictComp .. => true
  | _ => false
theorem sw_no {v : Expr} (h : isComp v = false) {t : Option Expr} {l : Nat} {env : Env} : swapsWith v t l env = pure false := by
  cases v <;> first | rfl | cases h
theorem sw_tup {v : Expr} {es : List Expr} {kt : Nat} {p : Pos} {l : Nat} {env : Env} : swapsWithSole [.Tuple es kt p] v l env = pure false := by
  cases v <;> rfl
theorem sw_sub {v o b : Expr} {p : Pos} {l : Nat} {env : Env} : swapsWithSole [.Subscript o b p] v l env = pure false := by
  cases v <;> rfl
theorem sws_sub {v o b : Expr} {p : Pos} {env : Env} : swappedStores [.Subscript o b p] v env = pure none := by
  cases v <;> rfl
theorem bkind {env : Env} (hk : env.scope.kind = .function) : env.blockKind = .function := by
  unfold Env.blockKind
  rw [hk]
  rfl
/-- name = [..] on one line -/
def swLc (sc : Scope) (x : Str) (px pos : Pos) (scope : Scope) : Bool := (sc.names.lookup x == some .local) && (px.line == pos.line) && !(scope.names.any fun (n, k) => n == x && (k == .local || k == .cell))
theorem swLc_ok {env : Env} (hk : env.scope.kind = .function) {x : Str} {px pos : Pos} {scope : Scope} {el : Expr} {gs : List Comprehension} {l : Nat} : swapsWith (.ListComp el gs scope pos) (some (.Name x px)) l env = pure (swLc env.scope x px pos scope) := by
  have hb := bkind hk
  unfold swapsWith
  simp only [hb, Expr.pos]
  show (pure _ : Sem Bool) = pure _
  unfold swLc Env.kindOf
  congr 1
def swNames (sc : Scope) (ts : List Expr) : List Str := ts.filterMap fun
    | .Name id pos => if sc.names.lookup id == some .local && pos.line == (ts.head?.map (·.pos.line)).getD 0 then some id else none
    | _ => none
def anyStar (vs : List Expr) : Bool := vs.any fun | .Starred .. => true | _ => false
/-- how a tuple's items are stored: none: one after another; some names: from the right -/
def swRes (sc : Scope) (ts vs : List Expr) : Option (Option (List Str)) :=
  if (!(ts.length == 2 || ts.length == 3) || vs.length != ts.length) = true then some none
  else if anyStar vs = true then some none
  else if ((swNames sc ts).length != ts.length || (swNames sc ts).eraseDups.length != (swNames sc ts).length) = true then some none
  else if vs.all (foldedForSure 8) = true then some none
  else if vs.all (constantsAlone 8) = true then none
  else some (some (swNames sc ts))
theorem swRes_ok {env : Env} (hk : env.scope.kind = .function) {ts vs : List Expr} {kt k2 : Nat} {p p2 : Pos} {r : Option (List Str)} (h : swRes env.scope ts vs = some r) : swappedStores [.Tuple ts kt p] (.Tuple vs k2 p2) env = pure r := by
  have hb := bkind hk
  have nm : (ts.filterMap fun
      | .Name id pos => if env.kindOf id == some .local && pos.line == (ts.head?.map (·.pos.line)).getD 0 then some id else none
      | _ => none) = swNames env.scope ts := rfl
  have bb : (env.blockKind != ScopeKind.function) = false := by rw [hb]; rfl
  unfold swRes at h
  unfold swappedStores
  dsimp only
  rw [bb, Bool.or_false]
  split at h
  · rename_i h1
    rw [if_pos h1]
    cases h
    rfl
  · rename_i h1
    rw [if_neg h1]
    show (if anyStar vs = true then (pure none : Sem (Option (List Str))) else if ((swNames env.scope ts).length != ts.length || (swNames env.scope ts).eraseDups.length != (swNames env.scope ts).length) = true then pure none
      else if vs.all (foldedForSure 8) = true then pure none else if vs.all (constantsAlone 8) = true then (do unsupported "assign.tuple-of-constant-expressions:order-of-the-stores"; pure (some (swNames env.scope ts))) else pure (some (swNames env.scope ts))) = pure r
    split at h
    · rename_i h2
      rw [if_pos h2]
      cases h
      rfl
    · rename_i h2
      rw [if_neg h2]
      split at h
      · rename_i h3
        rw [if_pos h3]
        cases h
        rfl
      · rename_i h3
        rw [if_neg h3]
        split at h
        · rename_i h4
          rw [if_pos h4]
          cases h
          rfl
        · rename_i h4
          rw [if_neg h4]
          split at h
          · cases h
          · rename_i h5
            rw [if_neg h5]
            cases h
            rfl
/-! ### statements -/
def cT1 (f : Expr → Option E) (c : Ct) : Expr → Option T
  | .Name x _ => (cSt c x).map fun i => .nm i
  | .Subscript (.Name x _) b _ => if isSlice b = false then (cVar c x).bind fun i => (f b).map fun k => .ix i k else none
  | _ => none
def cTs (f : Expr → Option T) : List Expr → Option (List T)
  | [] => some []
  | a :: r => (f a).bind fun m => (cTs f r).map fun rs => m :: rs
def cUnp (f : Expr → Option E) (c : Ct) (es : List Expr) (v : Expr) : Option S := (cTs (cT1 f c) es).bind fun ts => (f v).map fun m => .unp ts m
def cPar (f : Expr → Option E) (c : Ct) (es vs : List Expr) (names : List Str) : Option S := match es, vs with
  | [.Name x _, .Name y _], [a, b] => if names = [x, y] ∧ (c.sc.names.lookup x == some .local) = true ∧ (c.sc.names.lookup y == some .local) = true then
      (ixOf c.N x).bind fun i => (ixOf c.N y).bind fun j => if i = j then none else (f a).bind fun ma => (f b).map fun mb => .par i j ma mb
    else none
  | _, _ => none
/-- name = v -/
def cSetN (n : Nat) (c : Ct) (x : Str) (px : Pos) (v : Expr) : Option S := match v with
  | .ListComp el [⟨tg, it, ifs, 0⟩] scope p => if swLc c.sc x px p scope = true then (ixOf c.N x).bind fun i => (cLc (cE n c) (cE n (c.blk scope)) (cTg n (c.blk scope)) c el tg it ifs scope).map fun m => .set i m
      else (cSt c x).bind fun i => (cE n c v).map fun m => .set i m
  | v => if isComp v = false then (cSt c x).bind fun i => (cE n c v).map fun m => .set i m else none
def cAsg (n : Nat) (c : Ct) (t v : Expr) : Option S := match t with
  | .Name x px => cSetN n c x px v
  | .Subscript (.Name x _) b _ => if isSlice b = false then (cVar c x).bind fun i => (cE n c b).bind fun k => (cE n c v).map fun m => .put i k m else none
  | .Tuple es _ _ => (match v with
    | .Tuple vs _ _ => (match swRes c.sc es vs with
      | some none => cUnp (cE n c) c es v
      | some (some names) => cPar (cE n c) c es vs names
      | none => none)
    | v => cUnp (cE n c) c es v)
  | _ => none
def cSs (f : Stmt → Option S) : List Stmt → Option S
  | [] => some .skip
  | [a] => f a
  | a :: b :: r => (f a).bind fun m => (cSs f (b :: r)).map fun q => .seq m q
def cS : Nat → Ct → Stmt → Option S
  | 0, _, _ => none
  | n + 1, c, st => match st with
    | .Pass _ => some .skip
    | .Raise _ _ _ => some .bad
    | .Break _ => some .brk
    | .Continue _ => some .cnt
    | .Return none _ => some .retN
    | .Return (some e) _ => (cE n c e).map fun m => .ret m
    | .If t a b _ => (cE n c t).bind fun mt => (cSs (cS n c) a).bind fun ma => (cSs (cS n c) b).map fun mb => .iff mt ma mb
    | .While t b [] _ => (cE n c t).bind fun mt => (cSs (cS n c) b).map fun mb => .whl mt mb
    | .For tg it b [] _ => (cTg n c tg).bind fun t => (cItr (cE n c) c tg it).bind fun mi => (cSs (cS n c) b).map fun mb => .frr t mi mb
    | .Assign [t] v _ => cAsg n c t v
    | .Expr e _ => if isComp e = false then (cE n c e).map fun m => .ex m else none
    | _ => none

section
variable {c : Ct} {cl : Str → Option Value} {W : WX} {k : Nat} {X : Cx} {pos : Pos} {f : Expr → Option E}
theorem cT1_ok (G : Good c cl W k X) (hf : Hf X cl W f) {e : Expr} {t : T} (h : cT1 f c e = some t) : Tgt X cl W e t := by
  unfold cT1 at h
  split at h
  · obtain ⟨i, h1, h2⟩ := map_some h
    subst h2
    exact .nm (cSt_ok G h1)
  · split at h
    · rename_i hs
      obtain ⟨i, h1, h⟩ := bind_some h
      obtain ⟨m, h2, h3⟩ := map_some h
      subst h3
      exact .ix (cVar_ok G h1) (hf _ _ h2).se hs
    · cases h
  · cases h
theorem cTs_ok (G : Good c cl W k X) (hf : Hf X cl W f) : ∀ {es : List Expr} {ts : List T}, cTs (cT1 f c) es = some ts → Tgts X cl W es ts
  | [], ts, h => by cases h; exact .nil
  | a :: es, ts, h => by
    unfold cTs at h
    obtain ⟨m, h1, h2⟩ := bind_some h
    obtain ⟨rs, h3, h4⟩ := map_some h2
    subst h4
    exact .cons (cT1_ok G hf h1) (cTs_ok G hf h3)
theorem cUnp_ok (G : Good c cl W k X) (hf : Hf X cl W f) {es : List Expr} {v : Expr} {m : S} {kt : Nat} {p : Pos} (h : cUnp f c es v = some m) (hw : swappedStores [.Tuple es kt p] v X.env = pure none) : SS X cl W (.Assign [.Tuple es kt p] v pos) m := by
  unfold cUnp at h
  obtain ⟨ts, h1, h⟩ := bind_some h
  obtain ⟨mv, h2, h3⟩ := map_some h
  subst h3
  exact ss_unp G.calm (by rw [G.N]; exact G.nd) (cTs_ok G hf h1) (hf _ _ h2).se sw_tup hw
theorem cAsg_ok (G : Good c cl W k X) {n : Nat} {t v : Expr} {m : S} (h : cAsg n c t v = some m) : SS X cl W (.Assign [t] v pos) m := by
  have hf : Hf X cl W (cE n c) := cE_ok G
  have nd : X.N.Nodup := by rw [G.N]; exact G.nd
  have hk : X.env.scope.kind = .function := by rw [G.sc]; exact G.kd
  unfold cAsg at h
  split at h
  · rename_i x px
    unfold cSetN at h
    split at h
    · rename_i el tg it ifs scope p
      split at h
      · rename_i hs
        obtain ⟨i, h1, h⟩ := bind_some h
        obtain ⟨mv, h2, h3⟩ := map_some h
        subst h3
        obtain ⟨own, t, mi, mc, me, rfl, L⟩ := cLc_ok G hf (fun G => cE_ok G) (fun G e t h => cTg_ok G h) h2
        have hl : X.env.scope.names.lookup x = some .local := by
          rw [G.sc]
          unfold swLc at hs
          simp only [Bool.and_eq_true] at hs
          exact eq_of_beq hs.1.1
        exact ss_setLc G.calm nd (by rw [G.N]; exact ixOf_get h1) hl (by rw [swLc_ok hk, G.sc, hs]) L.si L.ok L.tg L.ifs L.el L.ns L.sub
      · rename_i hs
        obtain ⟨i, h1, h⟩ := bind_some h
        obtain ⟨mv, h2, h3⟩ := map_some h
        subst h3
        exact ss_set nd (cSt_ok G h1) (hf _ _ h2).se (by rw [swLc_ok hk, G.sc, Bool.eq_false_iff.mpr hs])
    · split at h
      · rename_i hc
        obtain ⟨i, h1, h⟩ := bind_some h
        obtain ⟨mv, h2, h3⟩ := map_some h
        subst h3
        exact ss_set nd (cSt_ok G h1) (hf _ _ h2).se (sw_no hc)
      · cases h
  · split at h
    · rename_i hs
      obtain ⟨i, h1, h⟩ := bind_some h
      obtain ⟨mk, h2, h⟩ := bind_some h
      obtain ⟨mv, h3, h4⟩ := map_some h
      subst h4
      exact ss_put (cVar_ok G h1) (hf _ _ h3).se (hf _ _ h2).se hs sw_sub sws_sub
    · cases h
  · rename_i es kt p
    split at h
    · rename_i vs k2 p2
      split at h
      · rename_i hr
        exact cUnp_ok G hf h (swRes_ok hk (by rw [G.sc]; exact hr))
      · rename_i names hr
        unfold cPar at h
        split at h
        · rename_i x px y py a b
          split at h
          · rename_i hc
            obtain ⟨e1, e2, e3⟩ := hc
            obtain ⟨i, h1, h⟩ := bind_some h
            obtain ⟨j, h2, h⟩ := bind_some h
            split at h
            · cases h
            · rename_i hij
              obtain ⟨ma, h3, h⟩ := bind_some h
              obtain ⟨mb, h4, h5⟩ := map_some h
              subst h5
              subst e1
              exact ss_par G.calm nd (by rw [G.N]; exact ixOf_get h1) (by rw [G.N]; exact ixOf_get h2) hij (by rw [G.sc]; exact eq_of_beq e2) (by rw [G.sc]; exact eq_of_beq e3) (hf _ _ h3) (hf _ _ h4) (swRes_ok hk (by rw [G.sc]; exact hr))
          · cases h
        · cases h
      · cases h
    · rename_i hv
      refine cUnp_ok G hf h ?_
      cases v <;> first | rfl | exact absurd rfl (hv _ _ _)
  · cases h
theorem cSs_ok {fs : Stmt → Option S} (hf : ∀ st m, fs st = some m → SS X cl W st m) : ∀ {sts : List Stmt} {m : S}, cSs fs sts = some m → SSs X cl W sts m
  | [], m, h => by cases h; exact ss_nil
  | [a], m, h => ss_one (hf a m h)
  | a :: b :: r, m, h => by
    unfold cSs at h
    obtain ⟨ma, h1, h2⟩ := bind_some h
    obtain ⟨rs, h3, h4⟩ := map_some h2
    subst h4
    exact ss_cons (hf a ma h1) (cSs_ok hf h3)
theorem cS_ok (G : Good c cl W k X) (hp : PassesOwn (model X.prog X.w) X.A X.env X.xe) {n : Nat} : ∀ {st : Stmt} {m : S}, cS n c st = some m → SS X cl W st m := by
  induction n with
  | zero => intro st m h; cases h
  | succ n ih =>
    intro st m h
    have hf : Hf X cl W (cE n c) := cE_ok G
    have hss : ∀ {sts : List Stmt} {m : S}, cSs (cS n c) sts = some m → SSs X cl W sts m := fun h => cSs_ok (fun st m h => ih h) h
    unfold cS at h
    split at h
    · cases h; exact ss_pass
    · cases h; exact ss_bad
    · cases h; exact ss_brk
    · cases h; exact ss_cnt
    · cases h; exact ss_retN
    · obtain ⟨me, h1, h2⟩ := map_some h
      subst h2
      exact ss_ret (hf _ _ h1)
    · obtain ⟨mt, h1, h⟩ := bind_some h
      obtain ⟨ma, h2, h⟩ := bind_some h
      obtain ⟨mb, h3, h4⟩ := map_some h
      subst h4
      exact ss_iff (hf _ _ h1).st (hss h2) (hss h3)
    · obtain ⟨mt, h1, h⟩ := bind_some h
      obtain ⟨mb, h3, h4⟩ := map_some h
      subst h4
      exact ss_whl hp (hf _ _ h1).st (hss h3)
    · obtain ⟨t, h1, h⟩ := bind_some h
      obtain ⟨mi, h2, h⟩ := bind_some h
      obtain ⟨mb, h3, h4⟩ := map_some h
      subst h4
      obtain ⟨si, ns⟩ := cItr_ok G hf h2
      exact ss_frr hp G.calm si (cTg_ok G h1) (hss h3) (notSet ns)
    · exact cAsg_ok G h
    · split at h
      · rename_i hc
        obtain ⟨me, h1, h2⟩ := map_some h
        subst h2
        exact ss_ex (hf _ _ h1).se (sw_no hc)
      · cases h
    · cases h
end
end Vm
/-! Vm 18: a def of the text; the law's end -/
namespace Vm
open PySem PySem.Spec PyProof.Rows L2

/-- a def, by what its text comes to -/
theorem fnV_c {P : Program} {w : World} {K : PySem.W.Frag} {mg : Str → Option Value} {base : Heap} {cl : Str → Option Value} {k : Nat} {f : Addr} {name qual : Str} {params : Arguments} {body : List Stmt} {scope : Scope} {dV kV doc pm cdv ct oc : Value} {an od : Option Addr}
    {osl : Array (Option Value)} {N ps : List Str} {io : List Bool} {mb : S} {fns : List (Str × Fm)} {fre : List Str} {gcs : List (Str × D)} {n : Nat} (lk : K.lookup f = some ⟨oc, od, .func (PySem.W.fnOf name qual params body scope dV kV doc pm an cdv ct), osl⟩) (hcd : PySem.W.codeIn K cdv qual = true) (S : FnScope N ps scope)
    (len : io.length = ps.length) (hfn : ∀ x m, fns.lookup x = some m → FnK P w K mg base cl k x m) (hfr : ∀ x ∈ fre, mg x = none) (hgc : ∀ x d, gcs.lookup x = some d → GcOk K mg x d)
    (hc : cSs (cS n ⟨N, scope, fun _ => true, fns, fre, gcs⟩) body = some mb) :
    FnV P w K mg base cl (k + 1) f (PySem.W.fnOf name qual params body scope dV kV doc pm an cdv ct) ps ⟨io, runF io N.length mb⟩ := by
  refine fnV_of lk hcd S len fun A outer s H E hr gd => ?_
  have tk : Takes (cxOf (L2.CX P w) P w K mg base N qual scope f cdv A outer s H E) (fun cls d _ H => E cls d H) := takes_of rfl rfl rfl rfl
  have G : Good ⟨N, scope, fun _ => true, fns, fre, gcs⟩ cl (fun cls d _ H => E cls d H) k (cxOf (L2.CX P w) P w K mg base N qual scope f cdv A outer s H E) :=
    ⟨rfl, S.nd, rfl, S.kind, rfl, gd, hr, hfr, hfn, fun _ _ => rfl, tk, hgc⟩
  exact cSs_ok (fun st m h => cS_ok G (passes_of rfl) h) hc
theorem look_cons {x y : Str} {m m' : Fm} {l : List (Str × Fm)} (h : ((y, m') :: l).lookup x = some m) : (x = y ∧ m' = m) ∨ l.lookup x = some m := by
  rw [List.lookup_cons] at h
  split at h
  · rename_i e
    exact .inl ⟨eq_of_beq e, Option.some.inj h⟩
  · exact .inr h
theorem gc_cons {x y : Str} {m m' : D} {l : List (Str × D)} (h : ((y, m') :: l).lookup x = some m) : (x = y ∧ m' = m) ∨ l.lookup x = some m := by
  rw [List.lookup_cons] at h
  split at h
  · rename_i e
    exact .inl ⟨eq_of_beq e, Option.some.inj h⟩
  · exact .inr h
theorem FnK.mono {P w K mg base cl j k x m} (F : FnK P w K mg base cl j x m) (h : j ≤ k) : FnK P w K mg base cl k x m := by
  obtain ⟨f, fd, ps, F, r⟩ := F.ex
  exact ⟨f, fd, ps, F.mono h, r⟩
/-- THE END: the law's def at the script -/
theorem law_V {P : Program} {w : World} {K : PySem.W.Frag} {mg mb : Str → Option Value} {cl : Str → Option Value} {k : Nat} {fa a : Addr} {fd : FuncData} {x : Str} {m : Fm} {s : Shared} {vs : List Value} {ns : List Int} {b : Bool}
    (inK : K.In s.heap) (glob : s.heap.Ns mainGlobals mg) (hb : s.heap.Ns builtinsNs mb) (hbb : ∀ x : Str, x ≠ "__name__" → mb x = bootBuiltins x) (free : s.heap.NoLimit) (hg : s.gens = #[])
    (ha : s.heap.get? a = some { cls := .type "list", data := .seq vs.toArray }) (hi : IntsAre vs ns) (hl : ns.length ≤ sizeLine) (hr : Room k callerA)
    (F : ∀ base : Heap, K.In base → base.Ns mainGlobals mg → FnV P w K mg base cl k fa fd [x] m) (bind : ∀ (s : Shared) (u : Value), BindsTo s fd ⟨[u], []⟩ [(x, u)])
    (hio : m.io = [false]) (run : m.run [.list (ns.map PyData.int)] = .ok (.bool true) b []) :
    codeAny (model P w) callerA (.call (.ref fa) ⟨[.ref a], []⟩) (fun r s' => r = .ok (.ret (.bool true)) ∧ OldK s.heap s'.heap ∧ s'.os = s.os ∧ AllBare s'.gens) s := by
  have intz := vals_ints hi
  have len := hi.length
  -- what is tracked: the script alone, where it is not the module's own
  let H : Hp := fun c => if c = a ∧ K.lookup a = none then some (.frz { cls := .type "list", data := .seq vs.toArray } (.lst (ns.map V.int))) else none
  have Hc : ∀ {c o}, H c = some o → c = a ∧ K.lookup a = none ∧ o = .frz { cls := .type "list", data := .seq vs.toArray } (.lst (ns.map V.int)) := fun {c o} z => by
    have z : (if c = a ∧ K.lookup a = none then some (HO.frz { cls := .type "list", data := .seq vs.toArray } (.lst (ns.map V.int))) else none) = some o := z
    split at z
    · rename_i q
      cases z
      exact ⟨q.1, q.2, rfl⟩
    · cases z
  have other : ∀ {c o}, s.heap.get? c = some o → (∀ es ep, o.data ≠ .dict es ep → False) → H c = none := fun {c o} z q => by
    cases hc : H c with
    | none => rfl
    | some u =>
      obtain ⟨rfl, _, _⟩ := Hc hc
      rw [ha] at z
      cases z
      exact (q #[] 0 (fun z => by cases z)).elim
  have inB : ∀ {c m}, s.heap.Ns c m → (hidT s.heap H).Ns c m := fun {c m} ⟨o, es, ep, e, d, r⟩ => by
    refine ⟨o, es, ep, hidT_get e ?_, d, r⟩
    cases hc : H c with
    | none => rfl
    | some u =>
      obtain ⟨rfl, _, _⟩ := Hc hc
      rw [ha] at e
      cases e
      cases d
  have kB : K.In (hidT s.heap H) := fun c o z => hidT_get (inK c o z) (by
    cases hc : H c with
    | none => rfl
    | some u =>
      obtain ⟨rfl, q, _⟩ := Hc hc
      rw [q] at z
      cases z)
  have M : Mod K mg (hidT s.heap H) := ⟨kB, inB glob, ⟨mb, inB hb, hbb⟩, free.imp fun mc z => ⟨inB z.1, z.2⟩⟩
  have ok : HOk P w H s.heap := fun c o z => by
    obtain ⟨rfl, _, rfl⟩ := Hc z
    exact ⟨ha, by rw [List.length_map]; exact hl, vs, _, intz, ha⟩
  have e0 : Env0 P w K mg (hidT s.heap H) callerA [] s H := ⟨rfl, M, fun c o z => of_hidT z, Nat.le_of_eq (hidT_size _ _), trivial, (fun c z => by cases z), ok, .of_eq hg⟩
  have script : Rep K (fun _ => False) H (.list (ns.map PyData.int)) (.ref a) := by
    refine .lst ?_ RepL.ints
    cases hk : K.lookup a with
    | none => exact .inl ⟨id, .inr ⟨_, if_pos ⟨rfl, hk⟩⟩⟩
    | some o =>
      have z := inK a o hk
      rw [ha] at z
      cases z
      exact .inr ⟨vs, _, hk, by rw [len]; exact hl, intz⟩
  have sp : SpM K cl m [.ref a] H (fun v _ => v = .bl true) fun _ _ _ => False := by
    refine ⟨fun _ => False, [.list (ns.map PyData.int)], fun _ z => z.elim, by rw [hio]; exact .val script .nil, by rw [hio]; exact .nil, ?_⟩
    rw [run]
    intro v H' bk
    cases b with
    | false =>
      have := bk.2
      cases this
      rfl
    | true =>
      obtain ⟨c, _, _, _, ds, _, z, _⟩ := bk
      cases z
  refine codeAny_mono ((F _ kB (inB glob)).run callerA [] s H ⟨[.ref a], []⟩ [.ref a] [.ref a] _ _ hr rfl e0 (bind s (.ref a)) (.cons rfl .nil) sp) ?_
  intro r s' h
  cases r with
  | error e =>
    obtain ⟨_, _, _, _, _, _, _, _, _, _, _, _, z⟩ := (show L2.CX P w [] H s (fun _ _ _ => False) e s' from h)
    exact z.elim
  | ok fl =>
    cases fl with
    | ret u =>
      obtain ⟨v, H', os, bare, un, ok', ru, rfl⟩ := (show CE [] P w H s (fun v _ => v = .bl true) u s' from h)
      cases (show u = Value.bool true from ru)
      refine ⟨rfl, OldK.of_keep fun c o z => ?_, os, bare⟩
      cases hc : H c with
      | none => exact un.keep c o z hc (fun q => by cases q) (fun q => by cases q)
      | some u =>
        obtain ⟨rfl, _, rfl⟩ := Hc hc
        rw [ha] at z
        cases z
        exact (ok' c _ (un.frzs c _ _ hc)).1
    | next => exact False.elim h
    | brk => exact False.elim h
    | cont => exact False.elim h
/-- a law over a head by facts -/
theorem walk_V {law : PySem.W.OpenLaw} {most k : Nat} {seen : Program} {free : List Str} {A1 : (Str → Option Value) → Heap → Prop} {A2 : World → Heap → Prop} {rec_ : DefRec} {x : Str}
    (few : law.most = some most) (small : most ≤ sizeLine) (plain : rec_.params.defaults = []) (room : Room k callerA)
    (word : ∀ (w : World) (mg : Str → Option Value) (at_ : Addr) (h : Heap), A2 w h → h.Ns mainGlobals mg → mg rec_.name = some (.ref at_) → ∃ (K : PySem.W.Frag) (cl : Str → Option Value) (fd : FuncData) (m : Fm), K.In h ∧ (∀ (s : Shared) (u : Value), BindsTo s fd ⟨[u], []⟩ [(x, u)]) ∧ m.io = [false] ∧
        (∀ ns : List Int, ns.length ≤ most → ∃ b, m.run [.list (ns.map PyData.int)] = .ok (.bool true) b []) ∧ ∀ base : Heap, K.In base → base.Ns mainGlobals mg → FnV law.prog w K mg base cl k at_ fd [x] m) :
    PySem.W.WalkO seen free A1 A2 law.row.toRowW rec_ [] (fun g args => PySem.call g args) := by
  refine Att.attach_call few plain ?_
  intro w s₀ s₁ mg mb at_ o pm cd doc a vs ns G Y _ _ _ at_law laid intz short none_yet
  obtain ⟨K, cl, fd, m, inK, bind, hio, hrun, hF⟩ := word w mg at_ _ Y G.T.g at_law
  obtain ⟨b, hb⟩ := hrun ns short
  exact law_V inK G.T.g G.T.b G.T.builtins G.T.nolimit none_yet laid intz (Nat.le_trans short small) room hF bind hio hb
end Vm
/-! Vm 18, the head: constants of the module -/
namespace Vm
open PySem PySem.Spec PyProof.Rows L2 He
def all2 {α β : Type} (f : α → β → Bool) : List α → List β → Bool
  | [], [] => true
  | a :: as, b :: bs => f a b && all2 f as bs
  | _, _ => false
/-- u stands for d -/
def conOk (K : PySem.W.Frag) : Nat → D → Value → Bool
  | _, .int i, .int j _ => decide (j = i)
  | _, .str x, .str y _ => decide (y = x)
  | _, .bool b, .bool c => decide (c = b)
  | _, .none, .none => true
  | n + 1, .tuple ds, .ref a => (match K.lookup a with
    | some o => (match o.data with
      | .seq its _ => decide (o.cls = .type "tuple") && decide (its.size ≤ sizeLine) && all2 (conOk K n) ds its.toList
      | _ => false)
    | none => false)
  | _, _, _ => false
theorem conOk_ok {K : PySem.W.Frag} : ∀ {n : Nat} {d : D} {u : Value}, conOk K n d u = true → ∃ v, RelV v u ∧ ∀ A H, Rep K A H d v := by
  intro n
  induction n with
  | zero =>
    intro d u h
    unfold conOk at h
    split at h
    · exact ⟨.int _, ⟨_, by rw [of_decide_eq_true h]⟩, fun _ _ => .int _⟩
    · exact ⟨.str _, ⟨_, by rw [of_decide_eq_true h]⟩, fun _ _ => .str _⟩
    · exact ⟨.bl _, by rw [of_decide_eq_true h]; rfl, fun _ _ => .bl _⟩
    · exact ⟨.non, rfl, fun _ _ => .non⟩
    · rename_i hz; exact absurd hz (by omega)
    · cases h
  | succ n ih =>
    intro d u h
    unfold conOk at h
    split at h
    · exact ⟨.int _, ⟨_, by rw [of_decide_eq_true h]⟩, fun _ _ => .int _⟩
    · exact ⟨.str _, ⟨_, by rw [of_decide_eq_true h]⟩, fun _ _ => .str _⟩
    · exact ⟨.bl _, by rw [of_decide_eq_true h]; rfl, fun _ _ => .bl _⟩
    · exact ⟨.non, rfl, fun _ _ => .non⟩
    · rename_i n' ds a z
      cases z
      split at h
      · rename_i o ho
        split at h
        · rename_i its k hd
          simp only [Bool.and_eq_true] at h
          obtain ⟨⟨h1, h2⟩, h3⟩ := h
          have all : ∀ {ds : List D} {us : List Value}, all2 (conOk K n) ds us = true → ∃ vs, Vals vs us ∧ ∀ A H, RepL K A H ds vs := by
            intro ds
            induction ds with
            | nil =>
              intro us h
              cases us with
              | nil => exact ⟨[], .nil, fun _ _ => .nil⟩
              | cons _ _ => cases h
            | cons d ds ih2 =>
              intro us h
              cases us with
              | nil => cases h
              | cons u us =>
                obtain ⟨k1, k2⟩ := Bool.and_eq_true_iff.mp (show (conOk K n d u && all2 (conOk K n) ds us) = true from h)
                obtain ⟨v, r1, r2⟩ := ih k1
                obtain ⟨vs, r3, r4⟩ := ih2 k2
                exact ⟨v :: vs, .cons r1 r3, fun A H => .cons (r2 A H) (r4 A H)⟩
          obtain ⟨vs, r1, r2⟩ := all h3
          exact ⟨.ref a, rfl, fun A H => .tup (.inr ⟨o, its, k, ho, of_decide_eq_true h1, hd, of_decide_eq_true h2, r1⟩) (r2 A H)⟩
        · cases h
      · cases h
    · cases h
def gcB (K : PySem.W.Frag) (p : Str × D) : Bool := match PySem.W.nsIn K mainGlobals p.1 with
  | some (some u) => conOk K 6 p.2 u
  | _ => false
theorem gcB_ok {K : PySem.W.Frag} {h : Heap} {mg : Str → Option Value} (X : K.In h) (G : h.Ns mainGlobals mg) {p : Str × D} (c : gcB K p = true) : GcOk K mg p.1 p.2 := by
  unfold gcB at c
  cases e : PySem.W.nsIn K mainGlobals p.1 with
  | none => rw [e] at c; cases c
  | some o =>
    rw [e] at c
    cases o with
    | none => cases c
    | some u =>
      obtain ⟨v, r1, r2⟩ := conOk_ok (show conOk K 6 p.2 u = true from c)
      exact ⟨v, u, PySem.W.mg_of X G e, r1, r2⟩
abbrev AlC : Type := AlD × Bool
def obsC (fa : List Fa) (fn : List DefD) (gs : List (Str × D)) (K : PySem.W.Frag) : AlC := (obsD fa fn K, gs.all (gcB K))
def obsCG (n : Nat) (fa : List Fa) (fn : List DefD) (gs : List (Str × D)) (g : Addr → Option Obj) : AlC := obsC fa fn gs (frG g (asD g n))
def SaysC (fa : List Fa) (fn : List DefD) (gs : List (Str × D)) (K : PySem.W.Frag) : Prop := obsC fa fn gs K = (valD fn, true)
def hookC (n : Nat) (fa : List Fa) (fn : List DefD) (gs : List (Str × D)) : PySem.W.Hook where
  α := AlC
  obs := fun s => obsCG n fa fn gs s.heap.get?
  val := fun _ => (valD fn, true)
  says := fun _ h => ∃ K : PySem.W.Frag, K.In h ∧ SaysC fa fn gs K
  of := fun _ _ e => ⟨_, frG_in, e⟩
  keeps := fun _ _ _ ⟨K, hK, c⟩ k => ⟨K, PySem.W.Frag.In.keeps hK k, c⟩
theorem obsCG_eq {n : Nat} {fa : List Fa} {fn : List DefD} {gs : List (Str × D)} {g : Addr → Option Obj} {s : Shared} (h : ∀ a, g a = s.heap.get? a) : obsCG n fa fn gs g = (hookC n fa fn gs).obs s := by
  have e : g = s.heap.get? := funext h
  rw [e] <;> rfl
section
variable {fa : List Fa} {fn : List DefD} {gs : List (Str × D)} {K : PySem.W.Frag}
theorem SaysC.d (c : SaysC fa fn gs K) : SaysD fa fn K := congrArg (fun z : AlC => z.1) c
theorem SaysC.gc (c : SaysC fa fn gs K) {p : Str × D} (h : p ∈ gs) : gcB K p = true := List.all_eq_true.mp (congrArg (fun z : AlC => z.2) c) p h
theorem gc_all {h : Heap} {mg : Str → Option Value} (X : K.In h) (G : h.Ns mainGlobals mg) (c : SaysC fa fn gs K) : ∀ x d, gs.lookup x = some d → GcOk K mg x d := by
  intro x d hl
  have : ∀ {l : List (Str × D)}, l.lookup x = some d → (x, d) ∈ l := by
    intro l
    induction l with
    | nil => intro z; cases z
    | cons p l ih =>
      obtain ⟨y, e⟩ := p
      intro z
      rw [List.lookup_cons] at z
      split at z
      · rename_i q
        cases z
        rw [eq_of_beq q]
        exact List.mem_cons_self
      · exact List.mem_cons_of_mem _ (ih z)
  exact gcB_ok X G (c.gc (this hl))
end
end Vm
/-! Vm 19: the meaning worked out, step by step -/
namespace Vm
open PySem PySem.Spec PyProof.Rows L2
theorem R.bind_c {α β : Type} {r r' : R α} {f : α → En → R β} (h : r = r') : r.bind f = r'.bind f := by rw [h]
theorem R.go_c {α : Type} {r r' : R α} {f : α → En → RS} (h : r = r') : r.go f = r'.go f := by rw [h]
theorem RS.bind_c {r r' : RS} {f : En → RS} (h : r = r') : r.bind f = r'.bind f := by rw [h]
theorem whN_c {c : En → R Bool} {b : En → RS} {n : Nat} {e e' : En} (h : e = e') : whN c b n e = whN c b n e' := by rw [h]
theorem whL_c {c : En → R Bool} {b : En → RS} {e e' : En} (h : e = e') : whL c b e = whL c b e' := by rw [h]
theorem lcL_c {vs : List Nat} {t : Tg} {c : En → R Bool} {el : En → R (D × Bool)} {ds ds' acc acc' : List D} {e e' : En} (h1 : ds = ds') (h2 : acc = acc') (h : e = e') : lcL vs t c el ds acc e = lcL vs t c el ds' acc' e' := by rw [h1, h2, h]
theorem frL_c {t : Tg} {b : En → RS} {ds ds' : List D} {e e' : En} (h1 : ds = ds') (h : e = e') : frL t b ds e = frL t b ds' e' := by rw [h1, h]
theorem bind_ok {α β : Type} {a : α} {e : En} {f : α → En → R β} : (R.ok a e).bind f = f a e := rfl
theorem bind_exn {α β : Type} {x : Xn} {e : En} {f : α → En → R β} : (R.exn x e).bind f = .exn x e := rfl
theorem go_ok {α : Type} {a : α} {e : En} {f : α → En → RS} : (R.ok a e).go f = f a e := rfl
theorem go_exn {α : Type} {x : Xn} {e : En} {f : α → En → RS} : (R.exn x e).go f = .exn x e := rfl
theorem bind_nx {e : En} {f : En → RS} : (RS.nx e).bind f = f e := rfl
theorem bind_rt {d : D} {b : Bool} {e : En} {f : En → RS} : (RS.rt d b e).bind f = .rt d b e := rfl
theorem bind_sexn {x : Xn} {e : En} {f : En → RS} : (RS.exn x e).bind f = .exn x e := rfl
theorem bind_bk {e : En} {f : En → RS} : (RS.bk e).bind f = .bk e := rfl
theorem bind_ct {e : En} {f : En → RS} : (RS.ct e).bind f = .ct e := rfl
theorem lift_some {α : Type} {a : α} {e : En} : lift (some a) e = .ok a e := rfl
theorem go1_some {e : En} : go1 (some e) = .nx e := rfl
theorem ob_some {α β : Type} {a : α} {f : α → Option β} : (some a).bind f = f a := rfl
theorem om_some {α β : Type} {a : α} {f : α → β} : (some a).map f = some (f a) := rfl
/-! arithmetic that stays within bounds -/
theorem bits_le {i : Int} {a : Nat} (h : i.natAbs < 2 ^ a) : Builtin.Int.intBits i ≤ a := by
  unfold Builtin.Int.intBits
  split
  · exact Nat.zero_le _
  · rename_i hz
    have : i.natAbs ≠ 0 := fun z => hz (by simp [Int.natAbs_eq_zero.mp z])
    exact (Nat.log2_lt this).mpr h
theorem mulOk_of {i j : Int} (a b : Nat) (h1 : i.natAbs < 2 ^ a) (h2 : j.natAbs < 2 ^ b) (h : a + b ≤ 134217728) : mulOk i j = true := by
  unfold mulOk
  have := bits_le h1
  have := bits_le h2
  exact (@decide_eq_true_iff _ (Classical.propDecidable _)).mpr (by omega)
theorem divOk_of {i j : Int} (h0 : 0 < j) (h : j.natAbs < 2 ^ 8000) : divOk i j = true := by
  unfold divOk
  have : j.natAbs.log2 < 9000 := Nat.lt_trans ((Nat.log2_lt (by omega)).mpr h) (by decide)
  refine (@decide_eq_true_iff _ (Classical.propDecidable _)).mpr ⟨h0, PyProof.noPylong_of_log2 this⟩
theorem mulOk_64 {i j : Int} (h1 : -(2 ^ 250) < i) (h2 : i < 2 ^ 250) (h3 : -(2 ^ 250) < j) (h4 : j < 2 ^ 250) : mulOk i j = true := mulOk_of 250 250 (by omega) (by omega) (by decide)
theorem divOk_64 {i j : Int} (h0 : 0 < j) (h : j < 2 ^ 250) : divOk i j = true := divOk_of h0 (by
  have : (2 : Nat) ^ 300 ≤ 2 ^ 8000 := Nat.pow_le_pow_right (by decide) (by decide)
  omega)
/-! loops -/
theorem whN_same {c : En → R Bool} {b : En → RS} : ∀ {n m : Nat} {e : En}, whN c b n e ≠ .bad → whN c b m e ≠ .bad → whN c b n e = whN c b m e
  | 0, _, _, h, _ => absurd rfl h
  | _ + 1, 0, _, _, h => absurd rfl h
  | n + 1, m + 1, e, h1, h2 => by
    unfold whN at h1 h2 ⊢
    cases hc : c e with
    | bad => rfl
    | exn x e1 => rfl
    | ok k e1 =>
      rw [hc] at h1 h2
      cases k with
      | false => rfl
      | true =>
        dsimp only at h1 h2 ⊢
        cases hb : b e1 with
        | nx e2 => rw [hb] at h1 h2; exact whN_same h1 h2
        | ct e2 => rw [hb] at h1 h2; exact whN_same h1 h2
        | bk e2 => rfl
        | rt d f e2 => rfl
        | exn x e2 => rfl
        | bad => rfl
theorem whL_eq {c : En → R Bool} {b : En → RS} {e : En} {r : RS} (n : Nat) (h : whN c b n e = r) (hr : r ≠ .bad) : whL c b e = r := by
  unfold whL
  have hx : ∃ n, whN c b n e ≠ .bad := ⟨n, by rw [h]; exact hr⟩
  rw [dif_pos hx, ← h]
  exact whN_same hx.choose_spec (by rw [h]; exact hr)
theorem whN_t {c : En → R Bool} {b : En → RS} {n : Nat} {e e1 e2 : En} (h1 : c e = .ok true e1) (h2 : b e1 = .nx e2) : whN c b (n + 1) e = whN c b n e2 := by
  show (match c e with
    | .ok true e1 => (match b e1 with
      | .nx e2 => whN c b n e2
      | .ct e2 => whN c b n e2
      | .bk e2 => .nx e2
      | q => q)
    | .ok false e1 => .nx e1
    | .exn x e1 => .exn x e1
    | .bad => .bad) = _
  rw [h1]
  dsimp only
  rw [h2]
theorem whN_f {c : En → R Bool} {b : En → RS} {n : Nat} {e e1 : En} (h1 : c e = .ok false e1) : whN c b (n + 1) e = .nx e1 := by
  unfold whN
  rw [h1]
/-- a comprehension that changes nothing outside -/
theorem lcL_map {vs : List Nat} {t : Tg} {c : En → R Bool} {el : En → R (D × Bool)} {g : D → D} {e : En} : ∀ {ds acc : List D}, (∀ d ∈ ds, ∃ e1 e2 b e3, stT t e d = some e1 ∧ c e1 = .ok true e2 ∧ el e2 = .ok (g d, b) e3 ∧ mayWipe e3 vs = true ∧ wipeE e3 vs = e) → acc.length + ds.length ≤ sizeLine →
    lcL vs t c el ds acc e = .ok (acc ++ ds.map g) e
  | [], acc, _, _ => by simp [lcL]
  | d :: ds, acc, h, hl => by
    obtain ⟨e1, e2, b, e3, h1, h2, h3, h4, h5⟩ := h d List.mem_cons_self
    have hl' : acc.length + (ds.length + 1) ≤ sizeLine := hl
    unfold lcL
    rw [h1]
    dsimp only
    rw [h2]
    dsimp only
    rw [h3]
    dsimp only
    rw [if_pos ⟨by omega, h4⟩, h5, lcL_map (fun d hd => h d (List.mem_cons_of_mem _ hd)) (by rw [List.length_append, List.length_singleton]; omega)]
    simp
/-! fractions in lowest terms -/
def lowP (a b : Int) : Int × Int := (a / (Int.gcd a b : Int), b / (Int.gcd a b : Int))
theorem gcd_pos {a b : Int} (hb : 0 < b) : (0 : Int) < (Int.gcd a b : Int) := by
  have : 0 < Int.gcd a b := Int.gcd_pos_of_ne_zero_right a (by omega)
  omega
theorem low_scale {a b k : Int} (hb : 0 < b) (hk : 0 < k) : lowP (a * k) (b * k) = lowP a b := by
  unfold lowP
  have e : ((Int.gcd (a * k) (b * k) : Nat) : Int) = (Int.gcd a b : Int) * k := by
    rw [Int.gcd_mul_right, Int.natCast_mul, Int.natAbs_of_nonneg (by omega)]
  rw [e, Int.mul_ediv_mul_of_pos_left _ _ hk, Int.mul_ediv_mul_of_pos_left _ _ hk]
theorem low_eq {a b c d : Int} (hb : 0 < b) (hd : 0 < d) (h : a * d = c * b) : lowP a b = lowP c d := by
  rw [← low_scale (a := a) hb hd, ← low_scale (a := c) hd hb, h, Int.mul_comm b d]
theorem low_fst {a b : Int} : (lowP a b).1 * (Int.gcd a b : Int) = a := Int.ediv_mul_cancel (Int.gcd_dvd_left ..)
theorem low_snd {a b : Int} : (lowP a b).2 * (Int.gcd a b : Int) = b := Int.ediv_mul_cancel (Int.gcd_dvd_right ..)
theorem low_mul {a b : Int} : (lowP a b).1 * b = a * (lowP a b).2 := by
  have h1 := low_fst (a := a) (b := b)
  have h2 := low_snd (a := a) (b := b)
  generalize (lowP a b).1 = p at *
  generalize (lowP a b).2 = q at *
  generalize ((Int.gcd a b : Nat) : Int) = g at *
  grind
theorem low_pos {a b : Int} (hb : 0 < b) : 0 < (lowP a b).2 := by
  have h2 := low_snd (a := a) (b := b)
  have gp := gcd_pos (a := a) hb
  generalize (lowP a b).2 = q at *
  generalize ((Int.gcd a b : Nat) : Int) = g at *
  apply Classical.byContradiction
  intro n
  have : q * g ≤ 0 := Int.mul_nonpos_of_nonpos_of_nonneg (by omega) (by omega)
  omega
theorem low_le {a b : Int} (hb : 0 < b) : (lowP a b).2 ≤ b := by
  have h2 := low_snd (a := a) (b := b)
  have gp := gcd_pos (a := a) hb
  have p := low_pos (a := a) hb
  generalize (lowP a b).2 = q at *
  generalize ((Int.gcd a b : Nat) : Int) = g at *
  have : q * 1 ≤ q * g := Int.mul_le_mul_of_nonneg_left (by omega) (by omega)
  omega
theorem low_abs {a b : Int} (hb : 0 < b) : (lowP a b).1.natAbs ≤ a.natAbs := by
  have h1 := low_fst (a := a) (b := b)
  have gp := gcd_pos (a := a) hb
  generalize (lowP a b).1 = p at *
  generalize Int.gcd a b = g at *
  rw [← h1, Int.natAbs_mul]
  have : 1 ≤ (g : Int).natAbs := by omega
  exact Nat.le_mul_of_pos_right _ this
/-! sizes -/
def B (k : Nat) (x : Int) : Prop := x.natAbs < 2 ^ k
theorem B.mul {k l : Nat} {x y : Int} (h1 : B k x) (h2 : B l y) : B (k + l) (x * y) := by
  unfold B at *
  rw [Int.natAbs_mul, Nat.pow_add]
  exact Nat.mul_lt_mul'' h1 h2
theorem B.mono {k l : Nat} {x : Int} (h : B k x) (hl : k ≤ l) : B l x := Nat.lt_of_lt_of_le h (Nat.pow_le_pow_right (by decide) hl)
theorem B.add {k : Nat} {x y : Int} (h1 : B k x) (h2 : B k y) : B (k + 1) (x + y) := by
  unfold B at *
  rw [Nat.pow_succ]
  have := Int.natAbs_add_le x y
  omega
theorem B.neg {k : Nat} {x : Int} (h1 : B k x) : B k (-x) := by
  unfold B at *
  rw [Int.natAbs_neg]
  exact h1
theorem B.sub {k : Nat} {x y : Int} (h1 : B k x) (h2 : B k y) : B (k + 1) (x - y) := by
  rw [Int.sub_eq_add_neg]
  exact h1.add h2.neg
theorem B.low {k : Nat} {a b : Int} (hb : 0 < b) (h : B k a) : B k (lowP a b).1 := Nat.lt_of_le_of_lt (low_abs hb) h
theorem mulOk_B {k l : Nat} {x y : Int} (h1 : B k x) (h2 : B l y) (h : k + l ≤ 134217728) : mulOk x y = true := mulOk_of k l h1 h2 h
theorem divOk_B {k : Nat} {x y : Int} (h0 : 0 < y) (h1 : B k y) (h : k ≤ 8000) : divOk x y = true := divOk_of h0 (Nat.lt_of_lt_of_le h1 (Nat.pow_le_pow_right (by decide) h))
end Vm
/-! Vm 20: the meaning, one step a rule; what comes later stands closed -/
namespace Vm
open PySem PySem.Spec PyProof.Rows L2
abbrev RV' := R (D × Bool)
section
variable {e : En} {i j : Nat} {d x y : D} {a b c r as : E} {p : Pr} {ds : List D} {f : Bool} {m : Fm}
/-! names -/
def qV (i : Nat) (o : Option Slot) (e : En) : RV' := match o with
  | some (.im d) => .ok (d, false) e
  | some (.ow d) => .ok (d, false) (e.set i (.im d))
  | _ => .bad
theorem x_var : evE (.var i) e = qV i e[i]? e := by simp only [evE]; rfl
theorem qV_im : qV i (some (.im d)) e = .ok (d, false) e := rfl
theorem qV_ow : qV i (some (.ow d)) e = .ok (d, false) (e.set i (.im d)) := rfl
def sD : Option Slot → Option D
  | some (.im d) => some d
  | some (.ow d) => some d
  | some (.io d) => some d
  | some (.lk _ d) => some d
  | _ => none
theorem x_rdS : rdS e i = sD e[i]? := by unfold rdS sD; rfl
theorem sD_im : sD (some (.im d)) = some d := rfl
theorem sD_ow : sD (some (.ow d)) = some d := rfl
theorem sD_io : sD (some (.io d)) = some d := rfl
theorem sD_lk : sD (some (.lk f d)) = some d := rfl
def sC : Option Slot → Bool
  | some (.ow _) => true
  | some (.io _) => true
  | _ => false
theorem x_canLk : canLk e i = sC e[i]? := by unfold canLk sC; rfl
theorem sC_ow : sC (some (.ow d)) = true := rfl
theorem sC_io : sC (some (.io d)) = true := rfl
theorem sC_im : sC (some (.im d)) = false := rfl
theorem sC_lk : sC (some (.lk f d)) = false := rfl
theorem sC_un : sC (some .un) = false := rfl
def sS (o : Option Slot) (e : En) (i : Nat) (s : Slot) : Option En := match o with
  | some .un => some (e.set i s)
  | some (.im _) => some (e.set i s)
  | some (.ow _) => some (e.set i s)
  | _ => none
theorem x_stSf : stS e i d false = sS e[i]? e i (.im d) := by unfold stS sS; rfl
theorem x_stSt : stS e i d true = sS e[i]? e i (.ow d) := by unfold stS sS; rfl
theorem sS_un {s : Slot} : sS (some .un) e i s = some (e.set i s) := rfl
theorem sS_im {s : Slot} : sS (some (.im d)) e i s = some (e.set i s) := rfl
theorem sS_ow {s : Slot} : sS (some (.ow d)) e i s = some (e.set i s) := rfl
def sG {α : Type} (o : Option Slot) (e : En) (i : Nat) (g : List D → Option (List D × α)) : Option (α × En) := match o with
  | some (.ow (.list xs)) => (g xs).map fun p => (p.2, e.set i (.ow (.list p.1)))
  | some (.io (.list xs)) => (g xs).map fun p => (p.2, e.set i (.io (.list p.1)))
  | _ => none
theorem x_chS {α : Type} {g : List D → Option (List D × α)} : chS e i g = sG e[i]? e i g := by unfold chS sG; rfl
def mOw {α : Type} (e : En) (i : Nat) : Option (List D × α) → Option (α × En)
  | some p => some (p.2, e.set i (.ow (.list p.1)))
  | none => none
def mIo {α : Type} (e : En) (i : Nat) : Option (List D × α) → Option (α × En)
  | some p => some (p.2, e.set i (.io (.list p.1)))
  | none => none
theorem sG_ow {α : Type} {xs : List D} {g : List D → Option (List D × α)} : sG (some (.ow (.list xs))) e i g = mOw e i (g xs) := by
  show (g xs).map _ = _
  cases g xs <;> rfl
theorem sG_io {α : Type} {xs : List D} {g : List D → Option (List D × α)} : sG (some (.io (.list xs))) e i g = mIo e i (g xs) := by
  show (g xs).map _ = _
  cases g xs <;> rfl
theorem mOw_some {α : Type} {q : List D × α} : mOw e i (some q) = some (q.2, e.set i (.ow (.list q.1))) := rfl
theorem mIo_some {α : Type} {q : List D × α} : mIo e i (some q) = some (q.2, e.set i (.io (.list q.1))) := rfl
/-! expressions -/
theorem x_con : evE (.con d) e = .ok (d, false) e := by simp only [evE]
noncomputable def kTup (ds : List D) (e : En) : RV' := if ds.length ≤ sizeLine then .ok (.tuple ds, false) e else .bad
noncomputable def kLst (ds : List D) (e : En) : RV' := if ds.length ≤ sizeLine then .ok (.list ds, true) e else .bad
theorem x_tup : evE (.tup as) e = (evA as e).bind kTup := by simp only [evE]; rfl
theorem x_lst : evE (.lst as) e = (evA as e).bind kLst := by simp only [evE]; rfl
theorem z_tup : (R.ok ds e).bind kTup = if ds.length ≤ sizeLine then .ok (.tuple ds, false) e else .bad := rfl
theorem z_lst : (R.ok ds e).bind kLst = if ds.length ≤ sizeLine then .ok (.list ds, true) e else .bad := rfl
noncomputable def kPr (p : Pr) (ds : List D) (e : En) : RV' := lift (Vm.prD p ds) e
theorem x_pr : evE (.pr p as) e = (evB as e).bind (kPr p) := by simp only [evE]; rfl
theorem z_pr : (R.ok ds e).bind (kPr p) = lift (Vm.prD p ds) e := rfl
noncomputable def kNot (r : D × Bool) (e : En) : RV' := lift ((boolOf r.1).map fun b => (.bool (!b), false)) e
theorem x_not : evE (.not a) e = (evE a e).bind kNot := by simp only [evE]; rfl
theorem z_not {k : Bool} : (R.ok (.bool k, f) e).bind kNot = .ok (.bool (!k), false) e := rfl
noncomputable def kAnd (b : E) (r : D × Bool) (e : En) : RV' := match boolOf r.1 with
    | some true => evE b e
    | some false => .ok (.bool false, false) e
    | none => .bad
noncomputable def kOr (b : E) (r : D × Bool) (e : En) : RV' := match boolOf r.1 with
    | some true => .ok (.bool true, false) e
    | some false => evE b e
    | none => .bad
theorem x_and : evE (.and a b) e = (evE a e).bind (kAnd b) := by simp only [evE]; rfl
theorem x_or : evE (.or a b) e = (evE a e).bind (kOr b) := by simp only [evE]; rfl
theorem z_and {k : Bool} : (R.ok (.bool k, f) e).bind (kAnd b) = if k = true then evE b e else .ok (.bool false, false) e := by cases k <;> rfl
theorem z_or {k : Bool} : (R.ok (.bool k, f) e).bind (kOr b) = if k = true then .ok (.bool true, false) e else evE b e := by cases k <;> rfl
noncomputable def kIte (a b : E) (t : Bool) (e : En) : RV' := if t = true then evE a e else evE b e
theorem x_ite : evE (.ite c a b) e = (evT c e).bind (kIte a b) := by simp only [evE]; rfl
theorem z_ite {t : Bool} : (R.ok t e).bind (kIte a b) = if t = true then evE a e else evE b e := rfl
noncomputable def qCall (is : List Nat) (e : En) : Out → RV'
  | .ok d f os => lift2 (d, f) (wb e is os)
  | .exn x os => (match wb e is os with
        | some e => .exn x e
        | none => .bad)
  | .bad => .bad
noncomputable def kCall (m : Fm) (as : E) (ds : List D) (e : En) : RV' := if (ioIx as m.io).Nodup then qCall (ioIx as m.io) e (m.run ds) else .bad
theorem x_call : evE (.call m as) e = (evC as m.io e).bind (kCall m as) := by
  simp only [evE]
  rfl
theorem z_call : (R.ok ds e).bind (kCall m as) = if (ioIx as m.io).Nodup then qCall (ioIx as m.io) e (m.run ds) else .bad := rfl
theorem q_ok {is : List Nat} {os : List D} : qCall is e (.ok d f os) = lift2 (d, f) (wb e is os) := rfl
theorem lift2_some {α : Type} {a : α} : lift2 a (some e) = .ok a e := rfl
noncomputable def qCallT (e : En) : Out → RV'
  | .ok d f _ => .ok (d, f) e
  | .exn x _ => .exn x e
  | .bad => .bad
noncomputable def kCallT (m : Fm) (r : D × Bool) (e : En) : RV' := if r.2 = true ∧ m.io = [true] then qCallT e (m.run [r.1]) else .bad
theorem x_callT : evE (.callT m a) e = (evE a e).bind (kCallT m) := by
  simp only [evE]
  rfl
theorem z_callT {q : D × Bool} : (R.ok q e).bind (kCallT m) = if q.2 = true ∧ m.io = [true] then qCallT e (m.run [q.1]) else .bad := rfl
theorem q_okT {os : List D} : qCallT e (.ok d f os) = .ok (d, f) e := rfl
/-! rows -/
noncomputable def kA (r : E) (x : D × Bool) (e : En) : R (List D) := (evA r e).bind fun xs e => .ok (x.1 :: xs) e
noncomputable def kB (r : E) (x : D × Bool) (e : En) : R (List D) := (evB r e).bind fun xs e => .ok (x.1 :: xs) e
noncomputable def kC (r : E) (bs : List Bool) (x : D × Bool) (e : En) : R (List D) := (evC r bs e).bind fun xs e => .ok (x.1 :: xs) e
noncomputable def kCons (x : D) (xs : List D) (e : En) : R (List D) := .ok (x :: xs) e
noncomputable def kVar (i : Nat) (xs : List D) (e : En) : R (List D) := lift ((sD e[i]?).map (· :: xs)) e
noncomputable def kVarC (i : Nat) (xs : List D) (e : En) : R (List D) := if sC e[i]? = true then lift ((sD e[i]?).map (· :: xs)) e else .bad
theorem x_Anil : evA .nil e = .ok [] e := by simp only [evA]
theorem x_Bnil : evB .nil e = .ok [] e := by simp only [evB]
theorem x_Cnil : evC .nil [] e = .ok [] e := by simp only [evC]
theorem x_Acons : evA (.cons a r) e = (evE a e).bind (kA r) := by simp only [evA]; rfl
theorem z_A : (R.ok (x, f) e).bind (kA r) = (evA r e).bind (kCons x) := rfl
theorem z_B : (R.ok (x, f) e).bind (kB r) = (evB r e).bind (kCons x) := rfl
theorem z_C {bs : List Bool} : (R.ok (x, f) e).bind (kC r bs) = (evC r bs e).bind (kCons x) := rfl
theorem z_cons : (R.ok ds e).bind (kCons x) = .ok (x :: ds) e := rfl
noncomputable def tB (i : Nat) (r : E) (o : Option D) (e : En) : R (List D) := if o.isSome = true then (evB r e).bind (kVar i) else .bad
theorem x_Bvar : evB (.cons (.var i) r) e = tB i r (sD e[i]?) e := by
  simp only [evB, x_rdS]
  rfl
theorem tB_some : tB i r (some d) e = (evB r e).bind (kVar i) := rfl
theorem z_var : (R.ok ds e).bind (kVar i) = lift ((sD e[i]?).map (· :: ds)) e := rfl
theorem x_Bcons (h : ∀ i, a ≠ .var i) : evB (.cons a r) e = (evE a e).bind (kB r) := by
  cases a with
  | var i => exact absurd rfl (h i)
  | _ => simp only [evB]; rfl
theorem x_Bpr : evB (.cons (.pr p as) r) e = (evE (.pr p as) e).bind (kB r) := x_Bcons fun _ => by simp
theorem x_Bcon : evB (.cons (.con d) r) e = (evE (.con d) e).bind (kB r) := x_Bcons fun _ => by simp
theorem x_Btup : evB (.cons (.tup as) r) e = (evE (.tup as) e).bind (kB r) := x_Bcons fun _ => by simp
theorem x_Blst : evB (.cons (.lst as) r) e = (evE (.lst as) e).bind (kB r) := x_Bcons fun _ => by simp
theorem x_Bcall : evB (.cons (.call m as) r) e = (evE (.call m as) e).bind (kB r) := x_Bcons fun _ => by simp
theorem x_BcallT : evB (.cons (.callT m a) r) e = (evE (.callT m a) e).bind (kB r) := x_Bcons fun _ => by simp
theorem x_Bnot : evB (.cons (.not a) r) e = (evE (.not a) e).bind (kB r) := x_Bcons fun _ => by simp
theorem x_Bite : evB (.cons (.ite c a b) r) e = (evE (.ite c a b) e).bind (kB r) := x_Bcons fun _ => by simp
theorem x_Blc {vs : List Nat} {t : Tg} : evB (.cons (.lc vs t a b c) r) e = (evE (.lc vs t a b c) e).bind (kB r) := x_Bcons fun _ => by simp
theorem x_Cval {bs : List Bool} : evC (.cons a r) (false :: bs) e = (evE a e).bind (kC r bs) := by cases a <;> (simp only [evC]; rfl)
noncomputable def tC (i : Nat) (r : E) (bs : List Bool) (k : Bool) (e : En) : R (List D) := if k = true then (evC r bs e).bind (kVarC i) else .bad
theorem x_Cvar {bs : List Bool} : evC (.cons (.var i) r) (true :: bs) e = tC i r bs (sC e[i]?) e := by
  simp only [evC, x_canLk, x_rdS]
  rfl
theorem tC_true {bs : List Bool} : tC i r bs true e = (evC r bs e).bind (kVarC i) := rfl
theorem z_varC : (R.ok ds e).bind (kVarC i) = if sC e[i]? = true then lift ((sD e[i]?).map (· :: ds)) e else .bad := rfl
/-! tests -/
noncomputable def kT (r : D × Bool) (e : En) : R Bool := lift (truD r.1) e
noncomputable def kTn (k : Bool) (e : En) : R Bool := .ok (!k) e
noncomputable def kTa (b : E) (k : Bool) (e : En) : R Bool := if k = true then evT b e else .ok false e
noncomputable def kTo (b : E) (k : Bool) (e : En) : R Bool := if k = true then .ok true e else evT b e
noncomputable def kTc (q : Cm) (ds : List D) (e : En) : R Bool := lift (Vm.cmpD q ds) e
theorem t_not : evT (.not a) e = (evT a e).bind kTn := by simp only [evT]; rfl
theorem t_and : evT (.and a b) e = (evT a e).bind (kTa b) := by simp only [evT]; rfl
theorem t_or : evT (.or a b) e = (evT a e).bind (kTo b) := by simp only [evT]; rfl
theorem t_cmp {q : Cm} : evT (.pr (.cmp q) as) e = (evB as e).bind (kTc q) := by simp only [evT]; rfl
theorem t_var : evT (.var i) e = lift ((sD e[i]?).bind truD) e := by simp only [evT, x_rdS]
theorem t_call : evT (.call m as) e = (evE (.call m as) e).bind kT := by simp only [evT]; rfl
theorem t_isi {t : Ty} : evT (.pr (.isi t) as) e = (evE (.pr (.isi t) as) e).bind kT := by simp only [evT]; rfl
theorem t_len : evT (.pr .len as) e = (evE (.pr .len as) e).bind kT := by simp only [evT]; rfl
theorem t_con : evT (.con d) e = (evE (.con d) e).bind kT := by simp only [evT]; rfl
theorem t_item : evT (.pr .item as) e = (evE (.pr .item as) e).bind kT := by simp only [evT]; rfl
theorem t_all : evT (.pr .all as) e = (evE (.pr .all as) e).bind kT := by simp only [evT]; rfl
theorem t_any : evT (.pr .any as) e = (evE (.pr .any as) e).bind kT := by simp only [evT]; rfl
theorem y_t {q : D × Bool} : (R.ok q e).bind kT = lift (truD q.1) e := rfl
theorem y_n {k : Bool} : (R.ok k e).bind kTn = .ok (!k) e := rfl
theorem y_a {k : Bool} : (R.ok k e).bind (kTa b) = if k = true then evT b e else .ok false e := rfl
theorem y_o {k : Bool} : (R.ok k e).bind (kTo b) = if k = true then .ok true e else evT b e := rfl
theorem y_c {q : Cm} : (R.ok ds e).bind (kTc q) = lift (Vm.cmpD q ds) e := rfl
/-! statements -/
variable {s s2 : S} {Q : RS}
noncomputable def kS (s : S) (e : En) : RS := evS s e
theorem s_skip : evS .skip e = .nx e := by simp only [evS]
theorem s_seq : evS (.seq s s2) e = (evS s e).bind (kS s2) := by simp only [evS]; rfl
theorem w_nx : (RS.nx e).bind (kS s) = evS s e := rfl
noncomputable def kSet (i : Nat) (r : D × Bool) (e : En) : RS := go1 (stS e i r.1 r.2)
theorem s_set : evS (.set i a) e = (evE a e).go (kSet i) := by simp only [evS]; rfl
theorem w_set : (R.ok (d, f) e).go (kSet i) = go1 (stS e i d f) := rfl
noncomputable def kPut (i : Nat) (k : E) (d : D × Bool) (e : En) : RS := if sC e[i]? = true then (evE k e).go fun z e => go1 ((chS e i (putI d.1 z.1)).map (·.2)) else .bad
noncomputable def kPut2 (i : Nat) (d : D) (z : D × Bool) (e : En) : RS := go1 ((chS e i (putI d z.1)).map (·.2))
theorem s_put {k : E} : evS (.put i k a) e = (evE a e).go (kPut i k) := by
  simp only [evS, x_canLk]
  rfl
theorem w_put {k : E} : (R.ok (d, f) e).go (kPut i k) = if sC e[i]? = true then (evE k e).go (kPut2 i d) else .bad := rfl
theorem w_put2 : (R.ok (x, f) e).go (kPut2 i d) = go1 ((chS e i (putI d x)).map (·.2)) := rfl
noncomputable def kUnp (ts : List T) (r : D × Bool) (e : En) : RS := match r.1 with
    | .tuple ds => if ds.length = ts.length then stTs ts ds e else .bad
    | _ => .bad
theorem s_unp {ts : List T} : evS (.unp ts a) e = (evE a e).go (kUnp ts) := by
  simp only [evS]
  rfl
theorem w_unp {ts : List T} : (R.ok (.tuple ds, f) e).go (kUnp ts) = if ds.length = ts.length then stTs ts ds e else .bad := rfl
noncomputable def kTs (ts : List T) (ds : List D) (e : En) : RS := stTs ts ds e
theorem w_ts0 : stTs [] [] e = .nx e := by simp only [stTs]
theorem w_tsn {ts : List T} : stTs (.nm i :: ts) (d :: ds) e = (go1 (stS e i d false)).bind (kTs ts ds) := by simp only [stTs]; rfl
noncomputable def kTi (i : Nat) (ts : List T) (d : D) (ds : List D) (z : D × Bool) (e : En) : RS := (go1 ((chS e i (putI d z.1)).map (·.2))).bind (kTs ts ds)
theorem w_tsi {ts : List T} {k : E} : stTs (.ix i k :: ts) (d :: ds) e = if sC e[i]? = true then (evE k e).go (kTi i ts d ds) else .bad := by simp only [stTs, x_canLk]; rfl
theorem w_ti {ts : List T} : (R.ok (x, f) e).go (kTi i ts d ds) = (go1 ((chS e i (putI d x)).map (·.2))).bind (kTs ts ds) := rfl
theorem w_ts {ts : List T} : (RS.nx e).bind (kTs ts ds) = stTs ts ds e := rfl
noncomputable def kPar (i j : Nat) (b : E) (x : D × Bool) (e : En) : RS := (evE b e).go fun y e => go1 ((stS e j y.1 y.2).bind fun e => stS e i x.1 x.2)
noncomputable def kPar2 (i j : Nat) (x y : D × Bool) (e : En) : RS := go1 ((stS e j y.1 y.2).bind fun e => stS e i x.1 x.2)
def kPar3 (i : Nat) (x : D × Bool) (e : En) : Option En := stS e i x.1 x.2
theorem s_par : evS (.par i j a b) e = (evE a e).go (kPar i j b) := by simp only [evS]; rfl
theorem w_par {q : D × Bool} : (R.ok q e).go (kPar i j b) = (evE b e).go (kPar2 i j q) := rfl
theorem w_par2 {q r : D × Bool} : (R.ok r e).go (kPar2 i j q) = go1 ((stS e j r.1 r.2).bind (kPar3 i q)) := rfl
theorem w_par4 {q : D × Bool} : kPar3 i q e = stS e i q.1 q.2 := rfl
theorem w_par3 {q : D × Bool} : (some e).bind (kPar3 i q) = stS e i q.1 q.2 := rfl
noncomputable def kEx (q : D × Bool) (e : En) : RS := .nx e
theorem s_ex : evS (.ex a) e = (evE a e).go kEx := by simp only [evS]; rfl
theorem w_ex {q : D × Bool} : (R.ok q e).go kEx = .nx e := rfl
noncomputable def kIf (s s2 : S) (t : Bool) (e : En) : RS := if t = true then evS s e else evS s2 e
theorem s_iff : evS (.iff c s s2) e = (evT c e).go (kIf s s2) := by simp only [evS]; rfl
theorem w_if {t : Bool} : (R.ok t e).go (kIf s s2) = if t = true then evS s e else evS s2 e := rfl
theorem s_whl : evS (.whl c s) e = whL (evT c) (evS s) e := by simp only [evS]
def qRet (i : Nat) (o : Option Slot) (e : En) : RS := match o with
    | some (.im d) => .rt d false e
    | some (.ow d) => .rt d true (e.set i .un)
    | _ => .bad
theorem s_retv : evS (.ret (.var i)) e = qRet i e[i]? e := by simp only [evS]; rfl
theorem q_rim : qRet i (some (.im d)) e = .rt d false e := rfl
theorem q_row : qRet i (some (.ow d)) e = .rt d true (e.set i .un) := rfl
noncomputable def kRet (r : D × Bool) (e : En) : RS := .rt r.1 r.2 e
theorem s_retE (h : ∀ i, a ≠ .var i) : evS (.ret a) e = (evE a e).go kRet := by
  cases a with
  | var i => exact absurd rfl (h i)
  | _ => simp only [evS]; rfl
theorem s_retpr : evS (.ret (.pr p as)) e = (evE (.pr p as) e).go kRet := s_retE fun _ => by simp
theorem s_rettup : evS (.ret (.tup as)) e = (evE (.tup as) e).go kRet := s_retE fun _ => by simp
theorem s_retlst : evS (.ret (.lst as)) e = (evE (.lst as) e).go kRet := s_retE fun _ => by simp
theorem s_retcon : evS (.ret (.con d)) e = (evE (.con d) e).go kRet := s_retE fun _ => by simp
theorem s_retcall : evS (.ret (.call m as)) e = (evE (.call m as) e).go kRet := s_retE fun _ => by simp
theorem s_retnot : evS (.ret (.not a)) e = (evE (.not a) e).go kRet := s_retE fun _ => by simp
theorem s_retand : evS (.ret (.and a b)) e = (evE (.and a b) e).go kRet := s_retE fun _ => by simp
theorem s_retor : evS (.ret (.or a b)) e = (evE (.or a b) e).go kRet := s_retE fun _ => by simp
theorem s_retite : evS (.ret (.ite c a b)) e = (evE (.ite c a b) e).go kRet := s_retE fun _ => by simp
theorem s_retlc {vs : List Nat} {t : Tg} : evS (.ret (.lc vs t a b c)) e = (evE (.lc vs t a b c) e).go kRet := s_retE fun _ => by simp
theorem w_ret {q : D × Bool} : (R.ok q e).go kRet = .rt q.1 q.2 e := rfl
/-! a def -/
noncomputable def qF (io : List Bool) : RS → Out
  | .nx e => .ok .none false (outsE io e)
  | .rt d f e => .ok d f (outsE io e)
  | .exn x e => .exn x (outsE io e)
  | _ => .bad
theorem x_runF {io : List Bool} {n : Nat} {s : S} : runF io n s ds = if ds.length = io.length then qF io (evS s (startE io ds ++ List.replicate (n - ds.length) .un)) else .bad := by
  unfold runF qF
  split
  · rename_i h
    generalize evS s _ = r
    cases r <;> rfl
  · rfl
theorem q_nx {io : List Bool} : qF io (.nx e) = .ok .none false (outsE io e) := rfl
theorem q_rt {io : List Bool} : qF io (.rt d f e) = .ok d f (outsE io e) := rfl
theorem rep0 {s : Slot} : List.replicate 0 s = [] := rfl
theorem rep1 {s : Slot} {n : Nat} : List.replicate (n + 1) s = s :: List.replicate n s := rfl
theorem sz (n : Nat) (h : n ≤ 1000 := by decide) : n ≤ sizeLine := Nat.le_trans h (by decide)
end
end Vm

namespace Vm
open PySem PySem.Spec PyProof.Rows L2
theorem nat_len {n k : Nat} (hk : 1 ≤ k) (h : n < 10 ^ k) : (toString n).length ≤ k := by
  have := digits10_le hk h
  show (Nat.repr n).length ≤ k
  unfold Nat.repr
  simpa using this
theorem shown_len {a : Int} {k : Nat} (hk : 1 ≤ k) (h : a.natAbs < 10 ^ k) : (PyData.int a).shown.length ≤ k + 1 := by
  have e : (PyData.int a).shown = Str.ofString (toString a) := by simp only [PyData.shown]
  rw [e]
  by_cases h0 : a < 0
  · rw [len_text_neg h0, ofString_len]
    have e2 : toString (0 - a) = toString a.natAbs := by
      rw [show (0 : Int) - a = ((a.natAbs : Nat) : Int) by omega]
      rfl
    rw [e2]
    have := nat_len hk h
    omega
  · rw [ofString_len, show a = ((a.natAbs : Nat) : Int) by omega]
    have := nat_len hk h
    show (toString a.natAbs).length ≤ k + 1
    omega
theorem eqI {i j : Int} : eqD (.int i) (.int j) = some (decide (i = j)) := by
  have e : (i == j) = decide (i = j) := by rw [Bool.eq_iff_iff]; simp
  simp [eqD, SeqAt.shaped, PyData.eqv, PyData.canLay0, PyData.depth, e]
theorem eqS {x y : Str} : eqD (.str x) (.str y) = some (decide (x = y)) := rfl
theorem eqF {a b p q : Int} : eqD (.tuple [.int a, .int b]) (.tuple [.int p, .int q]) = some (decide (a = p) && decide (b = q)) := by
  have e1 : (a == p) = decide (a = p) := by rw [Bool.eq_iff_iff]; simp
  have e2 : (b == q) = decide (b = q) := by rw [Bool.eq_iff_iff]; simp
  simp [eqD, SeqAt.shaped, PyData.eqv, PyData.eqvAll, PyData.canLay0, PyData.canLayAll0, PyData.depth, PyData.depthAll, e1, e2]
theorem showable_int {i : Int} (h : B 200 i) : PyData.showable (.int i) = true := by
  simp only [PyData.showable]
  apply decide_eq_true
  by_cases z : i.natAbs = 0
  · rw [z]; decide
  · exact Nat.lt_trans ((Nat.log2_lt z).mpr h) (by decide)
theorem repr_fr {p q : Int} (bp : B 200 p) (bq : B 200 q) : reprD [.tuple [.int p, .int q]] = some (.str (PyData.tuple [.int p, .int q]).shown, false) := by
  have t : (2 : Nat) ^ 200 < 10 ^ 70 := by decide
  have l1 := shown_len (a := p) (k := 70) (by decide) (Nat.lt_trans bp t)
  have l2 := shown_len (a := q) (k := 70) (by decide) (Nat.lt_trans bq t)
  have s1 := showable_int bp
  have s2 := showable_int bq
  have lv : PyData.leavesShort 71 (.tuple [.int p, .int q]) = true := by
    simp [PyData.leavesShort, PyData.leavesShortAll, l1, l2]
  have len := PyData.shown_le 71 (by decide) _ lv
  have fit : (PyData.tuple [PyData.int p, PyData.int q]).shown.length ≤ sizeLine := Nat.le_trans len (by
    have w1 : (if p = 0 then 0 else p.natAbs.log2 + 1) ≤ 200 := by
      split
      · omega
      · exact (Nat.log2_lt (by omega)).mpr bp
    have w2 : (if q = 0 then 0 else q.natAbs.log2 + 1) ≤ 200 := by
      split
      · omega
      · exact (Nat.log2_lt (by omega)).mpr bq
    have z : (73 : Nat) * 1000 + 71 ≤ sizeLine := by decide
    simp [PyData.weight, PyData.weightAll]
    omega)
  have sh : PyData.showable (.tuple [.int p, .int q]) = true := by simp only [PyData.showable, PyData.showableAll] at *; simp [s1, s2]
  have sp : SeqAt.shaped (.tuple [.int p, .int q]) = true := by simp [SeqAt.shaped, PyData.canLay0, PyData.canLayAll0, PyData.depth, PyData.depthAll]
  show (if (PyData.showable _ && SeqAt.shaped _ && decide _) = true then _ else _) = _
  rw [sh, sp, decide_eq_true fit]
  rfl
theorem pr_add {ds : List D} : Vm.prD .add ds = addD ds := rfl
theorem pr_sub {ds : List D} : Vm.prD .sub ds = subD ds := rfl
theorem pr_mul {ds : List D} : Vm.prD .mul ds = mulD ds := rfl
theorem pr_fdiv {ds : List D} : Vm.prD .fdiv ds = fdivD ds := rfl
theorem pr_mod {ds : List D} : Vm.prD .mod ds = modD ds := rfl
theorem pr_pow {ds : List D} : Vm.prD .pow ds = powD ds := rfl
theorem pr_neg {ds : List D} : Vm.prD .neg ds = negD ds := rfl
theorem pr_item {ds : List D} : Vm.prD .item ds = itemD ds := rfl
theorem pr_len {ds : List D} : Vm.prD .len ds = lensD ds := rfl
theorem pr_abs {ds : List D} : Vm.prD .abs ds = absD ds := rfl
theorem pr_max {ds : List D} : Vm.prD .max ds = maxD ds := rfl
theorem pr_min {ds : List D} : Vm.prD .min ds = minD ds := rfl
theorem pr_toInt {ds : List D} : Vm.prD .toInt ds = toIntD ds := rfl
theorem pr_toList {ds : List D} : Vm.prD .toList ds = toListD ds := rfl
theorem pr_toTuple {ds : List D} : Vm.prD .toTuple ds = toTupleD ds := rfl
theorem pr_sum {ds : List D} : Vm.prD .sum ds = sumD ds := rfl
theorem pr_sorted {ds : List D} : Vm.prD .sorted ds = sortedD ds := rfl
theorem pr_repr {ds : List D} : Vm.prD .repr ds = reprD ds := rfl
theorem pr_all {ds : List D} : Vm.prD .all ds = allD ds := rfl
theorem pr_any {ds : List D} : Vm.prD .any ds = anyD ds := rfl
theorem pr_divmod {ds : List D} : Vm.prD .divmod ds = divmodD ds := rfl
theorem pr_isi {t : Ty} {ds : List D} : Vm.prD (.isi t) ds = isiD t ds := rfl
theorem pr_cut {x y : Bool} {ds : List D} : Vm.prD (.cut x y) ds = cutsD x y ds := rfl
theorem pr_cmp {c : Cm} {ds : List D} : Vm.prD (.cmp c) ds = (Vm.cmpD c ds).map fun b => (.bool b, false) := rfl
theorem sz0 : 0 ≤ sizeLine := by decide
theorem sz1 : 1 ≤ sizeLine := by decide
theorem sz2 : 2 ≤ sizeLine := by decide
theorem sz3 : 3 ≤ sizeLine := by decide
theorem sz4 : 4 ≤ sizeLine := by decide
theorem sz5 : 5 ≤ sizeLine := by decide
theorem sz6 : 6 ≤ sizeLine := by decide
theorem sz7 : 7 ≤ sizeLine := by decide
theorem sz8 : 8 ≤ sizeLine := by decide
theorem sz9 : 9 ≤ sizeLine := by decide
theorem sz10 : 10 ≤ sizeLine := by decide
theorem sz11 : 11 ≤ sizeLine := by decide
theorem sz12 : 12 ≤ sizeLine := by decide
noncomputable def kLc (vs : List Nat) (t : Tg) (it c el : E) (ds : List D) (e1 : En) : R (D × Bool) :=
  if mayWipe e1 vs then (match lcL vs t (evT c) (evE el) ds [] (wipeE (lkAll e1 ((srcs it).filter (canLk e1))) vs) with
      | .ok ys e2 => .ok (.list ys, true) (ulAll (backE e1 e2 vs) ((srcs it).filter (canLk e1)))
      | _ => .bad) else .bad
theorem x_lc {vs : List Nat} {t : Tg} {it c el : E} {e : En} : evE (.lc vs t it c el) e = (evI it e).bind (kLc vs t it c el) := by
  simp only [evE]
  rfl
theorem z_lc {vs : List Nat} {t : Tg} {it c el : E} {e e2 : En} {ds ys : List D} (h : mayWipe e vs = true) (h2 : lcL vs t (evT c) (evE el) ds [] (wipeE (lkAll e ((srcs it).filter (canLk e))) vs) = .ok ys e2) :
    (R.ok ds e).bind (kLc vs t it c el) = .ok (.list ys, true) (ulAll (backE e e2 vs) ((srcs it).filter (canLk e))) := by
  show kLc vs t it c el ds e = _
  unfold kLc
  rw [if_pos h, h2]
noncomputable def kR1 (x : D × Bool) (e : En) : R (List D) := lift ((intOf x.1).bind fun j => if inR j then some (rngD 0 j.toNat) else none) e
theorem x_rng1 {a : E} {e : En} : evI (.rng1 a) e = (evE a e).bind kR1 := by simp only [evI]; rfl
theorem z_rng1 {j : Int} {f : Bool} {e : En} (h : inR j = true) : (R.ok (.int j, f) e).bind kR1 = .ok (rngD 0 j.toNat) e := by
  show lift (if inR j then some (rngD 0 j.toNat) else none) e = _
  rw [if_pos h]
  rfl
theorem atI_ints {ns : List Int} {k : Nat} (h : k < ns.length) : atI (ns.map PyData.int) (k : Int) = some (.int (ns.getD k 0)) := by
  unfold atI ixN
  rw [if_pos (by omega), if_pos (by rw [List.length_map]; omega)]
  show (ns.map PyData.int)[(k : Int).toNat]? = _
  rw [Int.toNat_natCast, List.getElem?_map, List.getElem?_eq_getElem h, List.getD_eq_getElem?_getD, List.getElem?_eq_getElem h]
  rfl
theorem bools_rep : ∀ n : Nat, boolsOf (List.replicate n (PyData.bool true)) = some (List.replicate n true)
  | 0 => rfl
  | n + 1 => by
    show (boolsOf (List.replicate n (PyData.bool true))).map _ = _
    rw [bools_rep n]
    rfl
end Vm
/-! Vm 22: sizes of numbers, parts as rational numbers -/
namespace Vm
open PySem PySem.Spec PyProof.Rows L2
/-! ### bits -/
def bl (x : Int) : Nat := if x = 0 then 0 else x.natAbs.log2 + 1
theorem bl_of {x : Int} {k : Nat} (h : x.natAbs < 2 ^ k) : bl x ≤ k := by
  unfold bl
  split
  · exact Nat.zero_le _
  · exact (Nat.log2_lt (by omega)).mpr h
theorem lt_bl (x : Int) : x.natAbs < 2 ^ bl x := by
  unfold bl
  split
  · rename_i h; subst h; decide
  · exact Nat.lt_log2_self
theorem bl_mono {x y : Int} (h : x.natAbs ≤ y.natAbs) : bl x ≤ bl y := bl_of (Nat.lt_of_le_of_lt h (lt_bl y))
theorem bl_mul (x y : Int) : bl (x * y) ≤ bl x + bl y := bl_of (by
  rw [Int.natAbs_mul, Nat.pow_add]
  exact Nat.mul_lt_mul'' (lt_bl x) (lt_bl y))
theorem bl_add (x y : Int) : bl (x + y) ≤ max (bl x) (bl y) + 1 := bl_of (by
  have h1 := lt_bl x
  have h2 := lt_bl y
  have h3 : 2 ^ bl x ≤ 2 ^ max (bl x) (bl y) := Nat.pow_le_pow_right (by decide) (Nat.le_max_left ..)
  have h4 : 2 ^ bl y ≤ 2 ^ max (bl x) (bl y) := Nat.pow_le_pow_right (by decide) (Nat.le_max_right ..)
  have := Int.natAbs_add_le x y
  rw [Nat.pow_succ]
  omega)
theorem bl_neg (x : Int) : bl (-x) = bl x := by
  unfold bl
  rw [Int.natAbs_neg]
  simp
theorem bl_sub (x y : Int) : bl (x - y) ≤ max (bl x) (bl y) + 1 := by
  have := bl_add x (-y)
  rw [bl_neg] at this
  rw [Int.sub_eq_add_neg]
  exact this
theorem bl_abs (x : Int) : bl (x.natAbs : Int) = bl x := by
  unfold bl
  rw [Int.natAbs_natCast]
  by_cases h : x = 0
  · simp [h]
  · have : (x.natAbs : Int) ≠ 0 := by omega
    rw [if_neg this, if_neg h]
theorem bl_ediv (x : Int) {y : Int} (h : 0 < y) : bl (x / y) ≤ bl x := bl_mono (by
  have h1 : (x / y).natAbs ≤ x.natAbs := by
    rcases Int.lt_or_le x 0 with hx | hx
    · have h2 : x / y < 0 := Int.ediv_neg_of_neg_of_pos hx h
      have h3 : x ≤ x / y := by
        have h5 : x ≤ x / y := by
          apply (Int.le_ediv_iff_mul_le h).mpr
          have : x * y ≤ x * 1 := Int.mul_le_mul_of_nonpos_left (by omega) (by omega)
          omega
        exact h5
      omega
    · have h2 : 0 ≤ x / y := Int.ediv_nonneg hx (by omega)
      have h3 : x / y ≤ x := Int.ediv_le_self y hx
      omega
  exact h1)
theorem bl_emod (x : Int) {y : Int} (h : 0 < y) : bl (x % y) ≤ bl y := bl_mono (by
  have h1 := Int.emod_nonneg x (b := y) (by omega)
  have h2 := Int.emod_lt_of_pos x h
  omega)
theorem bits_bl (x : Int) : Builtin.Int.intBits x ≤ bl x := bits_le (lt_bl x)
theorem mulOk_bl {i j : Int} (h : bl i + bl j ≤ 134217728) : mulOk i j = true := mulOk_of _ _ (lt_bl i) (lt_bl j) h
theorem divOk_bl {i j : Int} (h0 : 0 < j) (h : bl j ≤ 8000) : divOk i j = true := divOk_of h0 (Nat.lt_of_lt_of_le (lt_bl j) (Nat.pow_le_pow_right (by decide) h))
theorem bl_le {x : Int} (k : Nat) (h1 : -(2 ^ k : Nat) < x) (h2 : x < (2 ^ k : Nat)) : bl x ≤ k := bl_of (by omega)
theorem bl_range {x a b : Int} (h1 : a ≤ x) (h2 : x ≤ b) : bl x ≤ max (bl a) (bl b) := by
  rcases Int.lt_or_le x 0 with h | h
  · exact Nat.le_trans (bl_mono (y := a) (by omega)) (Nat.le_max_left ..)
  · exact Nat.le_trans (bl_mono (y := b) (by omega)) (Nat.le_max_right ..)
/-! ### operations that go through -/
theorem o_mul {i j : Int} (h : bl i + bl j ≤ 134217728) : mulD [.int i, .int j] = some (.int (i * j), false) := by
  show (if mulOk i j = true then some (PyData.int (i * j), false) else none) = _
  rw [if_pos (mulOk_bl h)]
theorem o_fdiv {i j : Int} (h0 : 0 < j) (h : bl j ≤ 8000) : fdivD [.int i, .int j] = some (.int (i / j), false) := by
  show (if divOk i j = true then some (PyData.int (i / j), false) else none) = _
  rw [if_pos (divOk_bl h0 h)]
theorem o_divmod {i j : Int} (h0 : 0 < j) (h : bl j ≤ 8000) : divmodD [.int i, .int j] = some (.tuple [.int (i / j), .int (i % j)], false) := by
  show (if divOk i j = true then some (PyData.tuple [.int (i / j), .int (i % j)], false) else none) = _
  rw [if_pos (divOk_bl h0 h)]
theorem o_mod {i j : Int} (h0 : 0 < j) : modD [.int i, .int j] = some (.int (i % j), false) := by
  show (if 0 < j then some (PyData.int (i % j), false) else none) = _
  rw [if_pos h0]
/-! ### parts -/
def frQ (q : Rat) : D := .tuple [.int q.num, .int (q.den : Int)]
theorem rat_low {a b : Int} (hb : 0 < b) : ((a : Rat) / (b : Rat)).num = a / (Int.gcd a b : Int) ∧ (((a : Rat) / (b : Rat)).den : Int) = b / (Int.gcd a b : Int) := by
  rw [← Rat.divInt_eq_div]
  obtain ⟨n, rfl⟩ : ∃ n : Nat, b = (n : Int) := ⟨b.toNat, by omega⟩
  have hn : n ≠ 0 := by omega
  have e : Rat.divInt a (n : Int) = Rat.normalize a n hn := by
    show mkRat a n = _
    unfold mkRat
    rw [dif_neg hn]
  rw [e, Rat.normalize_eq]
  have g : (Int.gcd a (n : Int)) = a.natAbs.gcd n := by
    unfold Int.gcd
    rw [Int.natAbs_natCast]
  rw [g]
  exact ⟨rfl, by simp⟩
theorem frQ_low {a b : Int} (hb : 0 < b) : frQ ((a : Rat) / (b : Rat)) = .tuple [.int (lowP a b).1, .int (lowP a b).2] := by
  obtain ⟨h1, h2⟩ := rat_low (a := a) hb
  unfold frQ lowP
  rw [h1, h2]
theorem rat_nd (q : Rat) : q = (q.num : Rat) / (q.den : Rat) := by
  have := Rat.num_divInt_den q
  rw [Rat.divInt_eq_div] at this
  exact this.symm
theorem den_pos (q : Rat) : (0 : Int) < (q.den : Int) := by
  have := q.den_pos
  omega
theorem int_ne {n : Int} (hn : n ≠ 0) : (n : Rat) ≠ 0 := fun z => hn (Rat.intCast_inj.mp (show (n : Rat) = ((0 : Int) : Rat) from z))
theorem den_ne (q : Rat) : (q.den : Rat) ≠ 0 := by
  rw [← Rat.intCast_natCast]
  exact int_ne (by have := q.den_pos; omega)
def bq (q : Rat) : Nat := max (bl q.num) (bl (q.den : Int))
theorem bq_num (q : Rat) : bl q.num ≤ bq q := Nat.le_max_left ..
theorem bq_den (q : Rat) : bl (q.den : Int) ≤ bq q := Nat.le_max_right ..
theorem bq_frac (a : Int) {b : Int} (hb : 0 < b) : bq ((a : Rat) / (b : Rat)) ≤ max (bl a) (bl b) := by
  obtain ⟨h1, h2⟩ := rat_low (a := a) hb
  have g := gcd_pos (a := a) hb
  unfold bq
  rw [h1, h2]
  have := bl_ediv a g
  have := bl_ediv b g
  omega
theorem bq_int (a : Int) : bq (a : Rat) ≤ max (bl a) 1 := by
  have := bq_frac a (b := 1) (by decide)
  have e : ((a : Rat) / ((1 : Int) : Rat)) = a := by
    rw [show ((1 : Int) : Rat) = 1 from rfl]
    grind
  rw [e] at this
  exact this
theorem add_nd (p q : Rat) : p + q = ((p.num * q.den + q.num * p.den : Int) : Rat) / ((p.den * q.den : Int) : Rat) := by
  have h1 : (p.den : Rat) ≠ 0 := den_ne p
  have h2 : (q.den : Rat) ≠ 0 := den_ne q
  have e1 := rat_nd p
  have e2 := rat_nd q
  rw [Rat.intCast_add, Rat.intCast_mul, Rat.intCast_mul, Rat.intCast_mul, Rat.intCast_natCast, Rat.intCast_natCast]
  generalize (p.num : Rat) = a at *
  generalize (p.den : Rat) = b at *
  generalize (q.num : Rat) = c at *
  generalize (q.den : Rat) = d at *
  subst e1 e2
  grind
theorem sub_nd (p q : Rat) : p - q = ((p.num * q.den - q.num * p.den : Int) : Rat) / ((p.den * q.den : Int) : Rat) := by
  have h1 : (p.den : Rat) ≠ 0 := den_ne p
  have h2 : (q.den : Rat) ≠ 0 := den_ne q
  have e1 := rat_nd p
  have e2 := rat_nd q
  rw [Rat.intCast_sub, Rat.intCast_mul, Rat.intCast_mul, Rat.intCast_mul, Rat.intCast_natCast, Rat.intCast_natCast]
  generalize (p.num : Rat) = a at *
  generalize (p.den : Rat) = b at *
  generalize (q.num : Rat) = c at *
  generalize (q.den : Rat) = d at *
  subst e1 e2
  grind
theorem mul_nd (p : Rat) (n : Int) : p * (n : Rat) = ((p.num * n : Int) : Rat) / ((p.den : Int) : Rat) := by
  have h1 : (p.den : Rat) ≠ 0 := den_ne p
  have e1 := rat_nd p
  rw [Rat.intCast_mul, Rat.intCast_natCast]
  generalize (p.num : Rat) = a at *
  generalize (p.den : Rat) = b at *
  subst e1
  grind
theorem div_nd (p : Rat) {n : Int} (hn : 0 < n) : p / (n : Rat) = ((p.num : Int) : Rat) / ((p.den * n : Int) : Rat) := by
  have h1 : (p.den : Rat) ≠ 0 := den_ne p
  have h2 : (n : Rat) ≠ 0 := int_ne (by omega)
  have e1 := rat_nd p
  rw [Rat.intCast_mul, Rat.intCast_natCast]
  generalize (p.num : Rat) = a at *
  generalize (p.den : Rat) = b at *
  generalize (n : Rat) = c at *
  subst e1
  grind
theorem bq_add (p q : Rat) : bq (p + q) ≤ bq p + bq q + 1 := by
  rw [add_nd]
  have h := bq_frac (p.num * q.den + q.num * p.den) (b := p.den * q.den) (Int.mul_pos (den_pos p) (den_pos q))
  have h1 := bl_add (p.num * q.den) (q.num * p.den)
  have h2 := bl_mul p.num q.den
  have h3 := bl_mul q.num p.den
  have h4 := bl_mul p.den q.den
  have := bq_num p
  have := bq_num q
  have := bq_den p
  have := bq_den q
  omega
theorem bq_sub (p q : Rat) : bq (p - q) ≤ bq p + bq q + 1 := by
  rw [sub_nd]
  have h := bq_frac (p.num * q.den - q.num * p.den) (b := p.den * q.den) (Int.mul_pos (den_pos p) (den_pos q))
  have h1 := bl_sub (p.num * q.den) (q.num * p.den)
  have h2 := bl_mul p.num q.den
  have h3 := bl_mul q.num p.den
  have h4 := bl_mul p.den q.den
  have := bq_num p
  have := bq_num q
  have := bq_den p
  have := bq_den q
  omega
theorem bq_mul (p : Rat) (n : Int) : bq (p * (n : Rat)) ≤ bq p + bl n := by
  rw [mul_nd]
  have h := bq_frac (p.num * n) (b := p.den) (den_pos p)
  have h2 := bl_mul p.num n
  have := bq_num p
  have := bq_den p
  omega
theorem bq_div (p : Rat) {n : Int} (hn : 0 < n) : bq (p / (n : Rat)) ≤ bq p + bl n := by
  rw [div_nd p hn]
  have h := bq_frac p.num (b := p.den * n) (Int.mul_pos (den_pos p) hn)
  have h4 := bl_mul p.den n
  have := bq_num p
  have := bq_den p
  omega
theorem bq_neg (p : Rat) : bq (-p) = bq p := by
  show max (bl (-p.num)) (bl (p.den : Int)) = _
  rw [bl_neg]
  rfl
theorem frQ_inj {p q : Rat} (h : frQ p = frQ q) : p = q := by
  unfold frQ at h
  injection h with h
  injection h with h1 h
  injection h with h2 _
  injection h1 with h1
  injection h2 with h2
  rw [rat_nd p, rat_nd q, h1]
  have : p.den = q.den := by omega
  rw [this]
theorem eqQ {p q : Rat} : eqD (frQ p) (frQ q) = some (decide (p = q)) := by
  unfold frQ
  rw [eqF]
  congr 1
  by_cases h : p = q
  · subst h; simp
  · rw [decide_eq_false h]
    by_cases h1 : p.num = q.num
    · have : ¬ ((p.den : Int) = q.den) := fun h2 => h (frQ_inj (by unfold frQ; rw [h1, h2]))
      rw [decide_eq_false this, Bool.and_false]
    · rw [decide_eq_false h1, Bool.false_and]
theorem at0Q {q : Rat} : itemD [frQ q, .int 0] = some (.int q.num, false) := rfl
theorem at1Q {q : Rat} : itemD [frQ q, .int 1] = some (.int q.den, false) := rfl
theorem lenQ {q : Rat} : lenD (frQ q) = some 2 := rfl
theorem nought : (.tuple [.int 0, .int 1] : D) = frQ 0 := rfl
theorem ltQ {p q : Rat} : (p.num * (q.den : Int) < q.num * (p.den : Int)) ↔ p < q := (Rat.lt_iff p q).symm
end Vm
/-! Vm 23: walks and comprehensions worked out -/
namespace Vm
open PySem PySem.Spec PyProof.Rows L2
section
variable {e : En} {i j : Nat} {d x y : D} {a b c r as it el : E} {p : Pr} {ds : List D} {f : Bool} {m : Fm} {vs : List Nat} {t : Tg} {s : S}
/-! what is walked -/
def kWk (o : Option D) (e : En) : R (List D) := lift (o.bind walkD) e
theorem x_ofv : evI (.of (.var i)) e = kWk (sD e[i]?) e := by simp only [evI, x_rdS]; rfl
theorem kWk_l : kWk (some (.list ds)) e = .ok ds e := rfl
theorem kWk_t : kWk (some (.tuple ds)) e = .ok ds e := rfl
noncomputable def kOf (x : D × Bool) (e : En) : R (List D) := lift (walkD x.1) e
theorem x_ofE (h : ∀ i, a ≠ .var i) : evI (.of a) e = (evE a e).bind kOf := by
  cases a with
  | var i => exact absurd rfl (h i)
  | _ => simp only [evI]; rfl
theorem x_ofcall : evI (.of (.call m as)) e = (evE (.call m as) e).bind kOf := x_ofE fun _ => by simp
theorem x_ofcallT : evI (.of (.callT m as)) e = (evE (.callT m as) e).bind kOf := x_ofE fun _ => by simp
theorem x_ofpr : evI (.of (.pr p as)) e = (evE (.pr p as) e).bind kOf := x_ofE fun _ => by simp
theorem x_oftup : evI (.of (.tup as)) e = (evE (.tup as) e).bind kOf := x_ofE fun _ => by simp
theorem x_oflst : evI (.of (.lst as)) e = (evE (.lst as) e).bind kOf := x_ofE fun _ => by simp
theorem x_oflc : evI (.of (.lc vs t it c el)) e = (evE (.lc vs t it c el) e).bind kOf := x_ofE fun _ => by simp
theorem x_ofcon : evI (.of (.con d)) e = (evE (.con d) e).bind kOf := x_ofE fun _ => by simp
theorem z_of : (R.ok (d, f) e).bind kOf = lift (walkD d) e := rfl
noncomputable def kR2 (b : E) (x : D × Bool) (e : En) : R (List D) := (evE b e).bind fun y e => lift ((intOf x.1).bind fun i => (intOf y.1).bind fun j => if inR i && inR j then some (rngD i (j - i).toNat) else none) e
noncomputable def kR3 (x : D × Bool) (y : D × Bool) (e : En) : R (List D) := lift ((intOf x.1).bind fun i => (intOf y.1).bind fun j => if inR i && inR j then some (rngD i (j - i).toNat) else none) e
theorem x_rng2 : evI (.rng2 a b) e = (evE a e).bind (kR2 b) := by simp only [evI]; rfl
theorem z_rng2a {q : D × Bool} : (R.ok q e).bind (kR2 b) = (evE b e).bind (kR3 q) := rfl
theorem z_rng2 {i j : Int} {f g : Bool} (h : inR i = true) (h' : inR j = true) : (R.ok (.int j, f) e).bind (kR3 (.int i, g)) = .ok (rngD i (j - i).toNat) e := by
  show lift (if inR i && inR j then some (rngD i (j - i).toNat) else none) e = _
  rw [h, h']
  rfl
noncomputable def kEn (ds : List D) (e : En) : R (List D) := lift (enumL ds) e
noncomputable def kEn2 (ds : List D) (e : En) : R (List D) := lift (enumL2 ds) e
noncomputable def kZp (ds : List D) (e : En) : R (List D) := lift (zipL ds) e
noncomputable def kZp3 (ds : List D) (e : En) : R (List D) := lift (zipL3 ds) e
theorem x_enum : evI (.enum as) e = (evB as e).bind kEn := by simp only [evI]; rfl
theorem x_enum2 : evI (.enum2 as) e = (evB as e).bind kEn2 := by simp only [evI]; rfl
theorem x_zip : evI (.zip as) e = (evB as e).bind kZp := by simp only [evI]; rfl
theorem x_zip3 : evI (.zip3 as) e = (evB as e).bind kZp3 := by simp only [evI]; rfl
theorem z_en : (R.ok [d] e).bind kEn = lift ((walkD d).map (enumD 0)) e := rfl
theorem z_en2 {k : Int} (h : inR k = true) : (R.ok [d, .int k] e).bind kEn2 = lift ((walkD d).map (enumD k)) e := by
  show lift (if inR k then (walkD d).map (enumD k) else none) e = _
  rw [if_pos h]
theorem z_zp {d' : D} : (R.ok [d, d'] e).bind kZp = lift ((walkD d).bind fun xs => (walkD d').map fun ys => zipD xs ys) e := rfl
theorem z_zp3 {d' d'' : D} : (R.ok [d, d', d''] e).bind kZp3 = lift ((walkD d).bind fun xs => (walkD d').bind fun ys => (walkD d'').map fun zs => zip3D xs ys zs) e := rfl
/-! for -/
noncomputable def kFr (t : Tg) (it : E) (s : S) (ds : List D) (e1 : En) : RS := ulRS ((srcs it).filter (canLk e1)) (frL t (evS s) ds (lkAll e1 ((srcs it).filter (canLk e1))))
theorem s_frr : evS (.frr t it s) e = (evI it e).go (kFr t it s) := by simp only [evS]; rfl
theorem w_fr : (R.ok ds e).go (kFr t it s) = ulRS ((srcs it).filter (canLk e)) (frL t (evS s) ds (lkAll e ((srcs it).filter (canLk e)))) := rfl
theorem ul_nx {is : List Nat} : ulRS is (.nx e) = .nx (ulAll e is) := rfl
theorem ul_rt {is : List Nat} : ulRS is (.rt d f e) = .rt d f e := rfl
theorem ul_exn {is : List Nat} {q : Xn} : ulRS is (.exn q e) = .exn q e := rfl
theorem ul0 : ulAll e [] = e := rfl
theorem lk0 : lkAll e [] = e := rfl
theorem ul1 {is : List Nat} : ulAll e (i :: is) = ulAll (ulS e i) is := rfl
theorem lk1 {is : List Nat} : lkAll e (i :: is) = lkAll (lkS e i) is := rfl
def qLk (o : Option Slot) (e : En) (i : Nat) : En := match o with
  | some (.ow d) => e.set i (.lk false d)
  | some (.io d) => e.set i (.lk true d)
  | _ => e
def qUl (o : Option Slot) (e : En) (i : Nat) : En := match o with
  | some (.lk false d) => e.set i (.ow d)
  | some (.lk true d) => e.set i (.io d)
  | _ => e
theorem x_lkS : lkS e i = qLk e[i]? e i := by unfold lkS qLk; rfl
theorem x_ulS : ulS e i = qUl e[i]? e i := by unfold ulS qUl; rfl
theorem qLk_ow : qLk (some (.ow d)) e i = e.set i (.lk false d) := rfl
theorem qLk_io : qLk (some (.io d)) e i = e.set i (.lk true d) := rfl
theorem qUl_ow : qUl (some (.lk false d)) e i = e.set i (.ow d) := rfl
theorem qUl_io : qUl (some (.lk true d)) e i = e.set i (.io d) := rfl
theorem srcs_ofv : srcs (.of (.var i)) = [i] := rfl
theorem srcs_of (h : ∀ i, a ≠ .var i) : srcs (.of a) = [] := by
  cases a with
  | var i => exact absurd rfl (h i)
  | _ => rfl
theorem srcs_ofcall : srcs (.of (.call m as)) = [] := rfl
theorem srcs_ofcallT : srcs (.of (.callT m as)) = [] := rfl
theorem srcs_ofpr : srcs (.of (.pr p as)) = [] := rfl
theorem srcs_oftup : srcs (.of (.tup as)) = [] := rfl
theorem srcs_oflst : srcs (.of (.lst as)) = [] := rfl
theorem srcs_oflc : srcs (.of (.lc vs t it c el)) = [] := rfl
theorem srcs_ofcon : srcs (.of (.con d)) = [] := rfl
theorem srcs_r1 : srcs (.rng1 a) = [] := rfl
theorem srcs_r2 : srcs (.rng2 a b) = [] := rfl
theorem srcs_en : srcs (.enum as) = rowVars as := rfl
theorem srcs_en2 : srcs (.enum2 as) = rowVars as := rfl
theorem srcs_zp : srcs (.zip as) = rowVars as := rfl
theorem srcs_zp3 : srcs (.zip3 as) = rowVars as := rfl
theorem rv_nil : rowVars .nil = [] := rfl
theorem rv_var : rowVars (.cons (.var i) r) = if i ∈ rowVars r then rowVars r else i :: rowVars r := rfl
theorem rv_call : rowVars (.cons (.call m as) r) = rowVars r := rfl
theorem rv_pr : rowVars (.cons (.pr p as) r) = rowVars r := rfl
theorem rv_con : rowVars (.cons (.con d) r) = rowVars r := rfl
theorem rv_lc : rowVars (.cons (.lc vs t it c el) r) = rowVars r := rfl
theorem rv_tup : rowVars (.cons (.tup as) r) = rowVars r := rfl
theorem rv_lst : rowVars (.cons (.lst as) r) = rowVars r := rfl
theorem fi0 {q : Nat → Bool} : List.filter q [] = [] := rfl
theorem fi1 {q : Nat → Bool} {is : List Nat} : List.filter q (i :: is) = if q i = true then i :: List.filter q is else List.filter q is := by
  rw [List.filter_cons]
/-! targets -/
theorem g_nm : stT (.nm i) e d = stS e i d false := by simp only [stT]
theorem g_tp : stT (.tp t) e (.tuple ds) = stM t e ds := by simp only [stT]
theorem g_nl : stM .nl e [] = some e := by simp only [stM]
def kM (r : Tg) (ds : List D) (e : En) : Option En := stM r e ds
theorem g_cn {r : Tg} : stM (.cn t r) e (d :: ds) = (stT t e d).bind (kM r ds) := by simp only [stM]; rfl
theorem w_kM {r : Tg} : (some e).bind (kM r ds) = stM r e ds := rfl
/-! a loop by what holds at each turn -/
theorem frL_any {b : En → RS} {P : List D → En → Prop} {Q : RS → Prop} (h0 : ∀ e, P [] e → Q (.nx e))
    (hs : ∀ d r e, P (d :: r) e → ∃ e1, stT t e d = some e1 ∧ ((∃ e2, (b e1 = .nx e2 ∨ b e1 = .ct e2) ∧ P r e2) ∨ (∃ e2, b e1 = .bk e2 ∧ Q (.nx e2)) ∨ ∃ d f e2, b e1 = .rt d f e2 ∧ Q (.rt d f e2))) :
    ∀ {ds : List D} {e : En}, P ds e → Q (frL t b ds e)
  | [], e, h => h0 e h
  | d :: r, e, h => by
    obtain ⟨e1, h1, h2⟩ := hs d r e h
    unfold frL
    rw [h1]
    dsimp only
    rcases h2 with ⟨e2, h2 | h2, h3⟩ | ⟨e2, h2, h3⟩ | ⟨d, f, e2, h2, h3⟩
    · rw [h2]; exact frL_any h0 hs h3
    · rw [h2]; exact frL_any h0 hs h3
    · rw [h2]; exact h3
    · rw [h2]; exact h3
/-- a loop that only goes on: by typed items and a state -/
theorem frL_go {b : En → RS} {α σ : Type} {rep : α → D} (E : σ → En) (P : List α → σ → Prop)
    (hs : ∀ x r s, P (x :: r) s → ∃ e1 s', stT t (E s) (rep x) = some e1 ∧ (b e1 = .nx (E s') ∨ b e1 = .ct (E s')) ∧ P r s') :
    ∀ {xs : List α} {s : σ}, P xs s → ∃ s', frL t b (xs.map rep) (E s) = .nx (E s') ∧ P [] s'
  | [], s, h => ⟨s, rfl, h⟩
  | x :: r, s, h => by
    obtain ⟨e1, s', h1, h2, h3⟩ := hs x r s h
    obtain ⟨s2, h4, h5⟩ := frL_go E P hs h3
    refine ⟨s2, ?_, h5⟩
    rw [List.map_cons]
    unfold frL
    rw [h1]
    dsimp only
    rcases h2 with h2 | h2
    · rw [h2]; exact h4
    · rw [h2]; exact h4
/-- a comprehension by what holds at each turn -/
theorem lcL_any {c : En → R Bool} {el : En → R (D × Bool)} {P : List D → List D → En → Prop} {Q : List D → En → Prop} (h0 : ∀ acc e, P [] acc e → Q acc e)
    (hs : ∀ d r acc e, P (d :: r) acc e → ∃ e1, stT t e d = some e1 ∧ ((∃ e2 y f e3, c e1 = .ok true e2 ∧ el e2 = .ok (y, f) e3 ∧ acc.length < sizeLine ∧ mayWipe e3 vs = true ∧ P r (acc ++ [y]) (wipeE e3 vs)) ∨
      ∃ e2, c e1 = .ok false e2 ∧ mayWipe e2 vs = true ∧ P r acc (wipeE e2 vs))) : ∀ {ds acc : List D} {e : En}, P ds acc e → ∃ ys e', lcL vs t c el ds acc e = .ok ys e' ∧ Q ys e'
  | [], acc, e, h => ⟨acc, e, rfl, h0 acc e h⟩
  | d :: r, acc, e, h => by
    obtain ⟨e1, h1, h2⟩ := hs d r acc e h
    unfold lcL
    rw [h1]
    dsimp only
    rcases h2 with ⟨e2, y, f, e3, h2, h3, h4, h5, h6⟩ | ⟨e2, h2, h3, h4⟩
    · rw [h2]
      dsimp only
      rw [h3]
      dsimp only
      rw [if_pos ⟨h4, h5⟩]
      exact lcL_any h0 hs h6
    · rw [h2]
      dsimp only
      rw [if_pos h3]
      exact lcL_any h0 hs h4
/-- a comprehension that changes nothing -/
theorem lcL_pure {c : En → R Bool} {el : En → R (D × Bool)} {α : Type} {rep g : α → D} (p : α → Bool) {e : En} : ∀ {xs : List α} {acc : List D}, (∀ x ∈ xs, ∃ e1 e2, stT t e (rep x) = some e1 ∧ c e1 = .ok (p x) e2 ∧
      (p x = true → ∃ f e3, el e2 = .ok (g x, f) e3 ∧ mayWipe e3 vs = true ∧ wipeE e3 vs = e) ∧ (p x = false → mayWipe e2 vs = true ∧ wipeE e2 vs = e)) → acc.length + xs.length ≤ sizeLine →
    lcL vs t c el (xs.map rep) acc e = .ok (acc ++ (xs.filter p).map g) e
  | [], acc, _, _ => by simp [lcL]
  | x :: xs, acc, h, hl => by
    obtain ⟨e1, e2, h1, h2, h3, h4⟩ := h x List.mem_cons_self
    have hl' : acc.length + (xs.length + 1) ≤ sizeLine := hl
    rw [List.map_cons]
    unfold lcL
    rw [h1]
    dsimp only
    rw [h2]
    cases hp : p x with
    | true =>
      obtain ⟨f, e3, h5, h6, h7⟩ := h3 hp
      dsimp only
      rw [h5]
      dsimp only
      rw [if_pos ⟨by omega, h6⟩, h7, lcL_pure p (fun x hx => h x (List.mem_cons_of_mem _ hx)) (by rw [List.length_append, List.length_singleton]; omega), List.filter_cons_of_pos hp]
      simp
    | false =>
      obtain ⟨h6, h7⟩ := h4 hp
      dsimp only
      rw [if_pos h6, h7, lcL_pure p (fun x hx => h x (List.mem_cons_of_mem _ hx)) (by omega), List.filter_cons_of_neg (by rw [hp]; simp)]
theorem lcL_all {c : En → R Bool} {el : En → R (D × Bool)} {α : Type} {rep g : α → D} {e : En} {xs : List α} (h : ∀ x ∈ xs, ∃ e1 e2 f e3, stT t e (rep x) = some e1 ∧ c e1 = .ok true e2 ∧ el e2 = .ok (g x, f) e3 ∧ mayWipe e3 vs = true ∧ wipeE e3 vs = e) (hl : xs.length ≤ sizeLine) :
    lcL vs t c el (xs.map rep) [] e = .ok (xs.map g) e := by
  have := lcL_pure (vs := vs) (t := t) (c := c) (el := el) (rep := rep) (g := g) (acc := []) (fun _ => true) (e := e) (xs := xs) (fun x hx => by
    obtain ⟨e1, e2, f, e3, h1, h2, h3, h4, h5⟩ := h x hx
    exact ⟨e1, e2, h1, h2, fun _ => ⟨f, e3, h3, h4, h5⟩, fun z => by cases z⟩) (by simpa using hl)
  rw [this, List.filter_eq_self.mpr (fun _ _ => rfl)]
  rfl
theorem enumD_map {α : Type} {k : Int} {rep : α → D} {xs : List α} : enumD k (xs.map rep) = xs.zipIdx.map fun q => .tuple [.int (k + (q.2 : Int)), rep q.1] := by
  apply List.ext_getElem?
  intro i
  simp [enumD, List.getElem?_zipIdx]
  cases xs[i]? <;> simp
theorem zipD_map {α β : Type} {r : α → D} {s : β → D} {xs : List α} {ys : List β} : zipD (xs.map r) (ys.map s) = (xs.zip ys).map fun q => .tuple [r q.1, s q.2] := by
  unfold zipD
  rw [List.zipWith_map, List.zip, List.map_zipWith]
theorem zip3D_map {α β γ : Type} {r : α → D} {s : β → D} {u : γ → D} {xs : List α} {ys : List β} {zs : List γ} : zip3D (xs.map r) (ys.map s) (zs.map u) = ((xs.zip ys).zip zs).map fun q => .tuple [r q.1.1, s q.1.2, u q.2] := by
  apply List.ext_getElem?
  intro i
  simp only [zip3D, List.zip, List.getElem?_zipWith, List.getElem?_map]
  cases xs[i]? <;> cases ys[i]? <;> cases zs[i]? <;> rfl
theorem rngD0 {n : Nat} : rngD 0 n = (List.range n).map fun (k : Nat) => PyData.int (k : Int) := by
  unfold rngD
  apply List.map_congr_left
  intro k _
  simp
end
end Vm
namespace Vm
open PySem PySem.Spec PyProof.Rows L2
section
variable {e e0 : En} {v : Nat} {vs : List Nat} {d : D} {c el it : E} {t : Tg} {ds ys : List D}
/-! comprehensions, worked out -/
def qLc (vs : List Nat) (e : En) (is : List Nat) : R (List D) → R (D × Bool)
  | .ok ys e2 => .ok (.list ys, true) (ulAll (backE e e2 vs) is)
  | _ => .bad
theorem z_lc2 : (R.ok ds e).bind (kLc vs t it c el) = if mayWipe e vs = true then qLc vs e ((srcs it).filter (canLk e)) (lcL vs t (evT c) (evE el) ds [] (wipeE (lkAll e ((srcs it).filter (canLk e))) vs)) else .bad := by
  show kLc vs t it c el ds e = _
  unfold kLc qLc
  rfl
theorem q_lc {is : List Nat} {e2 : En} : qLc vs e is (.ok ys e2) = .ok (.list ys, true) (ulAll (backE e e2 vs) is) := rfl
def qW : Option Slot → Bool
  | some .un => true
  | some (.im _) => true
  | _ => false
theorem mw0 : mayWipe e [] = true := rfl
theorem mw1 : mayWipe e (v :: vs) = (qW e[v]? && mayWipe e vs) := by
  unfold mayWipe qW
  rw [List.all_cons] <;> rfl
theorem qW_un : qW (some .un) = true := rfl
theorem qW_im : qW (some (.im d)) = true := rfl
theorem wp0 : wipeE e [] = e := rfl
theorem wp1 : wipeE e (v :: vs) = (wipeE e vs).set v .un := rfl
theorem bk0 : backE e0 e [] = e := rfl
theorem bk1 : backE e0 e (v :: vs) = (backE e0 e vs).set v (e0.getD v .un) := rfl
theorem gd0 {s x : Slot} {l : List Slot} : (s :: l).getD 0 x = s := rfl
theorem gd1 {s x : Slot} {l : List Slot} {n : Nat} : (s :: l).getD (n + 1) x = l.getD n x := rfl
end
end Vm
namespace Vm
open PySem PySem.Spec PyProof.Rows L2
section
variable {e : En} {i : Nat} {d : D} {as : E} {m : Lm} {ds : List D}
/-! methods of lists -/
noncomputable def kLm (m : Lm) (i : Nat) (ds : List D) (e : En) : R (D × Bool) := match chS e i (lmD m ds) with
    | some (d, e) => .ok (d, false) e
    | none => .bad
def qLm : Option (D × En) → R (D × Bool)
  | some (d, e) => .ok (d, false) e
  | none => .bad
theorem x_lm : evE (.lm m i as) e = if sC e[i]? = true then (evA as e).bind (kLm m i) else .bad := by
  simp only [evE, x_canLk]
  rfl
theorem z_lm : (R.ok ds e).bind (kLm m i) = qLm (sG e[i]? e i (lmD m ds)) := by
  show kLm m i ds e = _
  unfold kLm qLm
  rw [x_chS]
theorem q_lm : qLm (some (d, e)) = .ok (d, false) e := rfl
theorem pr_rev {ds : List D} : Vm.prD .rev ds = revD ds := rfl
theorem pr_lrg {ds : List D} : Vm.prD .lrg ds = lrgD ds := rfl
theorem pr_trg {ds : List D} : Vm.prD .trg ds = trgD ds := rfl
theorem mOw_q {α : Type} {xs : List D} {a : α} : mOw e i (some (xs, a)) = some (a, e.set i (.ow (.list xs))) := rfl
theorem mIo_q {α : Type} {xs : List D} {a : α} : mIo e i (some (xs, a)) = some (a, e.set i (.io (.list xs))) := rfl
theorem o_app {xs : List D} {d : D} (h : xs.length < sizeLine) : lmD .app [d] xs = some (xs ++ [d], .none) := by
  show (if xs.length < sizeLine then some (xs ++ [d], PyData.none) else none) = _
  rw [if_pos h]
theorem o_ins {xs : List D} {d : D} {i : Int} (h0 : 0 ≤ i) (h1 : i ≤ 16777216) (h : xs.length < sizeLine) : lmD .ins [.int i, d] xs = some (xs.take i.toNat ++ d :: xs.drop i.toNat, .none) := by
  show (if 0 ≤ i ∧ i < 2 ^ 63 ∧ xs.length < sizeLine then some (xs.take i.toNat ++ d :: xs.drop i.toNat, PyData.none) else none) = _
  rw [if_pos ⟨h0, by omega, h⟩]
theorem o_rev {xs : List D} : lmD .rev [] xs = some (xs.reverse, .none) := rfl
theorem o_clr {xs : List D} : lmD .clr [] xs = some ([], .none) := rfl
theorem o_lrg {n : Int} (h0 : -(2 ^ 62) ≤ n) (h : n ≤ 16777216) : lrgD [.int n] = some (.list (rngD 0 n.toNat), true) := by
  show (if -(2 ^ 62) ≤ n ∧ n ≤ 16777216 then some (PyData.list (rngD 0 n.toNat), true) else none) = _
  rw [if_pos ⟨h0, h⟩]
theorem sizeLine_big : 16777216 ≤ sizeLine := by decide
end
end Vm
namespace Vm
open PySem PySem.Spec PyProof.Rows L2
/-- a slot of a loop's own: empty, or what the last turn left there -/
def sl : Option D → Slot
  | none => .un
  | some d => .im d
section
variable {e : En} {i : Nat} {o : Option D} {s : Slot} {d : D} {ds : List D} {t : Tg}
theorem sS_sl : sS (some (sl o)) e i s = some (e.set i s) := by cases o <;> rfl
theorem qW_sl : qW (some (sl o)) = true := by cases o <;> rfl
theorem sl_some : sl (some d) = .im d := rfl
theorem sl_none : sl none = .un := rfl
theorem kWk_w (h : walkD d = some ds) : kWk (some d) e = .ok ds e := by
  show lift (walkD d) e = _
  rw [h]
  rfl
/-- a loop that folds -/
theorem frL_fold {b : En → RS} {α σ τ : Type} {rep : α → D} (E : σ → τ → En) (step : σ → α → σ) (I : List α → σ → Prop)
    (hs : ∀ x r s o, I (x :: r) s → ∃ e1 o', stT t (E s o) (rep x) = some e1 ∧ (b e1 = .nx (E (step s x) o') ∨ b e1 = .ct (E (step s x) o')) ∧ I r (step s x)) :
    ∀ {xs : List α} {s : σ} {o : τ}, I xs s → ∃ o', frL t b (xs.map rep) (E s o) = .nx (E (xs.foldl step s) o') ∧ I [] (xs.foldl step s)
  | [], s, o, h => ⟨o, rfl, h⟩
  | x :: r, s, o, h => by
    obtain ⟨e1, o', h1, h2, h3⟩ := hs x r s o h
    obtain ⟨o2, h4, h5⟩ := frL_fold E step I hs (o := o') h3
    refine ⟨o2, ?_, h5⟩
    rw [List.map_cons]
    unfold frL
    rw [h1]
    dsimp only
    rcases h2 with h2 | h2
    · rw [h2]; exact h4
    · rw [h2]; exact h4
theorem foldl_add (xs : List Rat) : ∀ s : Rat, xs.foldl (· + ·) s = s + xs.sum := by
  induction xs with
  | nil => intro s; simp; grind
  | cons x xs ih => intro s; rw [List.foldl_cons, ih, List.sum_cons]; grind
end
end Vm
namespace Vm
open PySem PySem.Spec PyProof.Rows L2
section
variable {e e1 : En} {i : Nat} {d y : D} {ds : List D} {t : Tg} {vs : List Nat} {c el : E} {s : S} {f : Bool}
/-! one turn, as a function -/
noncomputable def kT3 (vs : List Nat) (q : D × Bool) (e : En) : R (Option D) := if mayWipe e vs = true then .ok (some q.1) (wipeE e vs) else .bad
noncomputable def kT2 (vs : List Nat) (el : E) (b : Bool) (e : En) : R (Option D) := if b = true then (evE el e).bind (kT3 vs) else if mayWipe e vs = true then .ok none (wipeE e vs) else .bad
noncomputable def qT1 (vs : List Nat) (c el : E) : Option En → R (Option D)
  | some e1 => (evT c e1).bind (kT2 vs el)
  | none => .bad
noncomputable def lcT (vs : List Nat) (t : Tg) (c el : E) (d : D) (e : En) : R (Option D) := qT1 vs c el (stT t e d)
theorem x_lcT : lcT vs t c el d e = qT1 vs c el (stT t e d) := rfl
theorem qT1_some : qT1 vs c el (some e1) = (evT c e1).bind (kT2 vs el) := rfl
theorem z_T2 {b : Bool} : (R.ok b e).bind (kT2 vs el) = if b = true then (evE el e).bind (kT3 vs) else if mayWipe e vs = true then .ok none (wipeE e vs) else .bad := rfl
theorem z_T3 : (R.ok (y, f) e).bind (kT3 vs) = if mayWipe e vs = true then .ok (some y) (wipeE e vs) else .bad := rfl
def obD : Option D → List D
  | some y => [y]
  | none => []
theorem lcL_step {r acc : List D} {e' : En} {o : Option D} (h : lcT vs t c el d e = .ok o e') (hl : acc.length < sizeLine) : lcL vs t (evT c) (evE el) (d :: r) acc e = lcL vs t (evT c) (evE el) r (acc ++ obD o) e' := by
  rw [x_lcT] at h
  rw [show lcL vs t (evT c) (evE el) (d :: r) acc e = (match stT t e d with
    | none => .bad
    | some e1 => match evT c e1 with
      | .ok true e2 => (match evE el e2 with
        | .ok (y, _) e3 => if acc.length < sizeLine ∧ mayWipe e3 vs then lcL vs t (evT c) (evE el) r (acc ++ [y]) (wipeE e3 vs) else .bad
        | _ => .bad)
      | .ok false e2 => if mayWipe e2 vs then lcL vs t (evT c) (evE el) r acc (wipeE e2 vs) else .bad
      | _ => .bad) from rfl]
  cases h1 : stT t e d with
  | none => rw [h1] at h; cases h
  | some e1 =>
    rw [h1, qT1_some] at h
    dsimp only
    cases h2 : evT c e1 with
    | bad => rw [h2] at h; cases h
    | exn x e2 => rw [h2] at h; cases h
    | ok b e2 =>
      rw [h2, z_T2] at h
      cases b with
      | false =>
        dsimp only
        rw [if_neg Bool.false_ne_true] at h
        split at h
        · rename_i hw
          cases h
          rw [if_pos hw]
          simp [obD]
        · cases h
      | true =>
        dsimp only
        rw [if_pos rfl] at h
        cases h3 : evE el e2 with
        | bad => rw [h3] at h; cases h
        | exn x e3 => rw [h3] at h; cases h
        | ok q e3 =>
          obtain ⟨y, f⟩ := q
          rw [h3, z_T3] at h
          dsimp only
          split at h
          · rename_i hw
            cases h
            rw [if_pos ⟨hl, hw⟩]
            rfl
          · cases h
/-- a comprehension that changes nothing -/
theorem lcL_p {α : Type} {rep g : α → D} (p : α → Bool) {e : En} : ∀ {xs : List α} {acc : List D}, (∀ x ∈ xs, lcT vs t c el (rep x) e = .ok (if p x = true then some (g x) else none) e) → acc.length + xs.length ≤ sizeLine →
    lcL vs t (evT c) (evE el) (xs.map rep) acc e = .ok (acc ++ (xs.filter p).map g) e
  | [], acc, _, _ => by simp [lcL]
  | x :: xs, acc, h, hl => by
    have hl' : acc.length + (xs.length + 1) ≤ sizeLine := hl
    rw [List.map_cons, lcL_step (h x List.mem_cons_self) (by omega)]
    have le : (obD (if p x = true then some (g x) else none)).length ≤ 1 := by split <;> simp [obD]
    rw [lcL_p p (fun x hx => h x (List.mem_cons_of_mem _ hx)) (by rw [List.length_append]; omega)]
    cases hp : p x with
    | true => rw [List.filter_cons_of_pos hp, if_pos rfl]; simp [obD]
    | false => rw [List.filter_cons_of_neg (by rw [hp]; simp), if_neg Bool.false_ne_true]; simp [obD]
theorem lcL_m {α : Type} {rep g : α → D} {e : En} {xs : List α} (h : ∀ x ∈ xs, lcT vs t c el (rep x) e = .ok (some (g x)) e) (hl : xs.length ≤ sizeLine) :
    lcL vs t (evT c) (evE el) (xs.map rep) [] e = .ok (xs.map g) e := by
  rw [lcL_p (fun _ => true) (g := g) (fun x hx => by rw [h x hx, if_pos rfl]) (by simpa using hl), List.filter_eq_self.mpr (fun _ _ => rfl)]
  rfl
/-- a comprehension with a state -/
theorem lcL_st {α σ : Type} {rep : α → D} (E : σ → En) (P : List α → List D → σ → Prop) (hs : ∀ x r acc s, P (x :: r) acc s → ∃ o s', lcT vs t c el (rep x) (E s) = .ok o (E s') ∧ acc.length < sizeLine ∧ P r (acc ++ obD o) s') :
    ∀ {xs : List α} {acc : List D} {s : σ}, P xs acc s → ∃ ys s', lcL vs t (evT c) (evE el) (xs.map rep) acc (E s) = .ok ys (E s') ∧ P [] ys s'
  | [], acc, s, h => ⟨acc, s, rfl, h⟩
  | x :: r, acc, s, h => by
    obtain ⟨o, s', h1, h2, h3⟩ := hs x r acc s h
    obtain ⟨ys, s2, h4, h5⟩ := lcL_st E P hs h3
    exact ⟨ys, s2, by rw [List.map_cons, lcL_step h1 h2]; exact h4, h5⟩
noncomputable def qF1 (s : S) : Option En → RS
  | some e1 => evS s e1
  | none => .bad
noncomputable def frT (t : Tg) (s : S) (d : D) (e : En) : RS := qF1 s (stT t e d)
theorem x_frT : frT t s d e = qF1 s (stT t e d) := rfl
theorem qF1_some : qF1 s (some e1) = evS s e1 := rfl
theorem frL_nx {r : List D} {e' : En} (h : frT t s d e = .nx e' ∨ frT t s d e = .ct e') : frL t (evS s) (d :: r) e = frL t (evS s) r e' := by
  unfold frT at h
  rw [show frL t (evS s) (d :: r) e = (match stT t e d with
    | none => .bad
    | some e1 => match evS s e1 with
      | .nx e2 => frL t (evS s) r e2
      | .ct e2 => frL t (evS s) r e2
      | .bk e2 => .nx e2
      | q => q) from rfl]
  cases h1 : stT t e d with
  | none => rw [h1] at h; rcases h with h | h <;> cases h
  | some e1 =>
    rw [h1, qF1_some] at h
    dsimp only
    rcases h with h | h <;> rw [h]
theorem frL_rt {r : List D} {e' : En} {v : D} {f : Bool} (h : frT t s d e = .rt v f e') : frL t (evS s) (d :: r) e = .rt v f e' := by
  unfold frT at h
  rw [show frL t (evS s) (d :: r) e = (match stT t e d with
    | none => .bad
    | some e1 => match evS s e1 with
      | .nx e2 => frL t (evS s) r e2
      | .ct e2 => frL t (evS s) r e2
      | .bk e2 => .nx e2
      | q => q) from rfl]
  cases h1 : stT t e d with
  | none => rw [h1] at h; cases h
  | some e1 =>
    rw [h1, qF1_some] at h
    dsimp only
    rw [h]
/-- a loop that folds -/
theorem frL_f {α σ τ : Type} {rep : α → D} (E : σ → τ → En) (step : σ → α → σ) (I : List α → σ → Prop)
    (hs : ∀ x r a o, I (x :: r) a → (∃ o', frT t s (rep x) (E a o) = .nx (E (step a x) o') ∨ frT t s (rep x) (E a o) = .ct (E (step a x) o')) ∧ I r (step a x)) :
    ∀ {xs : List α} {a : σ} {o : τ}, I xs a → ∃ o', frL t (evS s) (xs.map rep) (E a o) = .nx (E (xs.foldl step a) o') ∧ I [] (xs.foldl step a)
  | [], a, o, h => ⟨o, rfl, h⟩
  | x :: r, a, o, h => by
    obtain ⟨⟨o', h1⟩, h3⟩ := hs x r a o h
    obtain ⟨o2, h4, h5⟩ := frL_f E step I hs (o := o') h3
    exact ⟨o2, by rw [List.map_cons, frL_nx h1]; exact h4, h5⟩
/-- a loop with a state -/
theorem frL_st {α σ : Type} {rep : α → D} (E : σ → En) (P : List α → σ → Prop) (hs : ∀ x r a, P (x :: r) a → ∃ a', (frT t s (rep x) (E a) = .nx (E a') ∨ frT t s (rep x) (E a) = .ct (E a')) ∧ P r a') :
    ∀ {xs : List α} {a : σ}, P xs a → ∃ a', frL t (evS s) (xs.map rep) (E a) = .nx (E a') ∧ P [] a'
  | [], a, h => ⟨a, rfl, h⟩
  | x :: r, a, h => by
    obtain ⟨a', h1, h3⟩ := hs x r a h
    obtain ⟨a2, h4, h5⟩ := frL_st E P hs h3
    exact ⟨a2, by rw [List.map_cons, frL_nx h1]; exact h4, h5⟩
/-- a loop that may return -/
theorem frL_q {α σ : Type} {rep : α → D} (E : σ → En) (P : List α → σ → Prop) (Q : RS → Prop) (h0 : ∀ a, P [] a → Q (.nx (E a)))
    (hs : ∀ x r a, P (x :: r) a → (∃ a', (frT t s (rep x) (E a) = .nx (E a') ∨ frT t s (rep x) (E a) = .ct (E a')) ∧ P r a') ∨ ∃ v f e', frT t s (rep x) (E a) = .rt v f e' ∧ Q (.rt v f e')) :
    ∀ {xs : List α} {a : σ}, P xs a → Q (frL t (evS s) (xs.map rep) (E a))
  | [], a, h => h0 a h
  | x :: r, a, h => by
    rw [List.map_cons]
    rcases hs x r a h with ⟨a', h1, h3⟩ | ⟨v, f, e', h1, h2⟩
    · rw [frL_nx h1]
      exact frL_q E P Q h0 hs h3
    · rw [frL_rt h1]
      exact h2
end
end Vm
namespace Vm
theorem x_kM {r : Tg} {ds : List D} {e : En} : kM r ds e = stM r e ds := rfl
end Vm
namespace Vm
theorem walk_l {xs : List D} : walkD (.list xs) = some xs := rfl
theorem walk_t {xs : List D} : walkD (.tuple xs) = some xs := rfl
end Vm
namespace Vm
theorem len_l {xs : List D} : lenD (.list xs) = some xs.length := rfl
theorem len_t {xs : List D} : lenD (.tuple xs) = some xs.length := rfl
end Vm
namespace Vm
open PySem PySem.Spec PyProof.Rows L2
theorem add_ii {i j : Int} : addD [.int i, .int j] = some (.int (i + j), false) := rfl
theorem o_catL {xs ys : List D} (h : xs.length + ys.length ≤ sizeLine) : addD [.list xs, .list ys] = some (.list (xs ++ ys), true) := by
  show (if xs.length + ys.length ≤ sizeLine then some (PyData.list (xs ++ ys), true) else none) = _
  rw [if_pos h]
theorem o_catT {xs ys : List D} (h : xs.length + ys.length ≤ sizeLine) : addD [.tuple xs, .tuple ys] = some (.tuple (xs ++ ys), false) := by
  show (if xs.length + ys.length ≤ sizeLine then some (PyData.tuple (xs ++ ys), false) else none) = _
  rw [if_pos h]
end Vm
namespace Vm
open PySem PySem.Spec PyProof.Rows L2
theorem w_unpQ {q : Rat} {f : Bool} {e : En} {ts : List T} : (R.ok (frQ q, f) e).go (kUnp ts) = if 2 = ts.length then stTs ts [.int q.num, .int (q.den : Int)] e else .bad := rfl
end Vm
/-! Vm 24: repr, equality of data -/
namespace Vm
open PySem PySem.Spec PyProof.Rows L2
/-- may be shown and compared: of some depth and bulk -/
structure Rp (n m : Nat) (d : D) : Prop where
  sh : d.showable = true
  cl : d.canLay0 = true
  lv : d.leavesShort 600 = true
  dp : d.depth ≤ n
  bk : d.bulk ≤ m
theorem Rp.mono {n m n' m' : Nat} {d : D} (h : Rp n m d) (hn : n ≤ n') (hm : m ≤ m') : Rp n' m' d := ⟨h.sh, h.cl, h.lv, Nat.le_trans h.dp hn, Nat.le_trans h.bk hm⟩
theorem Rp.int {i : Int} (h : bl i ≤ 1900) : Rp 0 0 (.int i) := by
  have hp : i.natAbs < 2 ^ 1900 := Nat.lt_of_lt_of_le (lt_bl i) (Nat.pow_le_pow_right (by decide) h)
  refine ⟨?_, by simp [PyData.canLay0], ?_, by simp [PyData.depth], by simp [PyData.bulk]⟩
  · simp only [PyData.showable]
    apply decide_eq_true
    by_cases z : i.natAbs = 0
    · rw [z]; decide
    · exact Nat.lt_of_lt_of_le ((Nat.log2_lt z).mpr hp) (by decide)
  · simp only [PyData.leavesShort]
    apply decide_eq_true
    have t : (2 : Nat) ^ 1900 ≤ 10 ^ 599 := by decide +kernel
    have := shown_len (a := i) (k := 599) (by decide) (Nat.lt_of_lt_of_le hp t)
    omega
theorem Rp.bool {b : Bool} : Rp 0 0 (.bool b) := ⟨by simp [PyData.showable], by simp [PyData.canLay0], by simp [PyData.leavesShort], by simp [PyData.depth], by simp [PyData.bulk]⟩
theorem Rp.none : Rp 0 0 .none := ⟨by simp [PyData.showable], by simp [PyData.canLay0], by simp [PyData.leavesShort], by simp [PyData.depth], by simp [PyData.bulk]⟩
theorem rpAll {n m : Nat} : ∀ {xs : List D}, (∀ x ∈ xs, Rp n m x) → PyData.showableAll xs = true ∧ PyData.canLayAll0 xs = true ∧ PyData.leavesShortAll 600 xs = true ∧ PyData.depthAll xs ≤ n ∧ PyData.bulkAll xs ≤ (m + 1) * xs.length
  | [], _ => by simp [PyData.showableAll, PyData.canLayAll0, PyData.leavesShortAll, PyData.depthAll, PyData.bulkAll]
  | x :: xs, h => by
    obtain ⟨h1, h2, h3, h4, h5⟩ := rpAll fun x hx => h x (List.mem_cons_of_mem _ hx)
    obtain ⟨g1, g2, g3, g4, g5⟩ := h x List.mem_cons_self
    refine ⟨?_, ?_, ?_, ?_, ?_⟩
    · rw [PyData.showableAll, g1, h1]; rfl
    · rw [PyData.canLayAll0, g2, h2]; rfl
    · rw [PyData.leavesShortAll, g3, h3]; rfl
    · rw [PyData.depthAll]; omega
    · rw [PyData.bulkAll, List.length_cons, Nat.mul_succ]; omega
theorem Rp.tuple {n m k : Nat} {xs : List D} (h : ∀ x ∈ xs, Rp n m x) (hk : xs.length ≤ k) : Rp (n + 1) ((m + 1) * k) (.tuple xs) := by
  obtain ⟨h1, h2, h3, h4, h5⟩ := rpAll h
  exact ⟨by rw [PyData.showable]; exact h1, by rw [PyData.canLay0]; exact h2, by rw [PyData.leavesShort]; exact h3, by rw [PyData.depth]; omega, by rw [PyData.bulk]; exact Nat.le_trans h5 (Nat.mul_le_mul_left _ hk)⟩
theorem Rp.list {n m k : Nat} {xs : List D} (h : ∀ x ∈ xs, Rp n m x) (hk : xs.length ≤ k) : Rp (n + 1) ((m + 1) * k) (.list xs) := by
  obtain ⟨h1, h2, h3, h4, h5⟩ := rpAll h
  exact ⟨by rw [PyData.showable]; exact h1, by rw [PyData.canLay0]; exact h2, by rw [PyData.leavesShort]; exact h3, by rw [PyData.depth]; omega, by rw [PyData.bulk]; exact Nat.le_trans h5 (Nat.mul_le_mul_left _ hk)⟩
theorem Rp.frQ {q : Rat} (h : bq q ≤ 1900) : Rp 1 2 (frQ q) := by
  have := Rp.tuple (n := 0) (m := 0) (k := 2) (xs := [.int q.num, .int q.den]) (fun x hx => by
    have h1 := bq_num q
    have h2 := bq_den q
    simp only [List.mem_cons, List.not_mem_nil, or_false] at hx
    rcases hx with rfl | rfl
    · exact .int (by omega)
    · exact .int (by omega)) (by simp)
  exact this
theorem Rp.repr {n m : Nat} {d : D} (h : Rp n m d) (hn : n ≤ 64) (hm : m ≤ 20000) : reprD [d] = some (.str d.shown, false) := by
  have sp : SeqAt.shaped d = true := by
    unfold SeqAt.shaped
    rw [h.cl, decide_eq_true (Nat.le_trans h.dp hn)]
    rfl
  have len := PyData.shown_le_bulk 600 (by decide) d h.lv
  have fit : d.shown.length ≤ sizeLine := by
    have h1 : (600 + 2) * d.bulk ≤ (600 + 2) * 20000 := Nat.mul_le_mul_left _ (Nat.le_trans h.bk hm)
    have h2 : (600 + 2) * 20000 + 600 ≤ sizeLine := by decide
    omega
  show (if (d.showable && SeqAt.shaped d && decide (d.shown.length ≤ sizeLine)) = true then _ else _) = _
  rw [h.sh, sp, decide_eq_true fit]
  rfl
theorem Rp.shaped {n m : Nat} {d : D} (h : Rp n m d) (hn : n ≤ 64) : SeqAt.shaped d = true := by
  unfold SeqAt.shaped
  rw [h.cl, decide_eq_true (Nat.le_trans h.dp hn)]
  rfl
theorem eqSS {x y : Str} : eqD (.str x) (.str y) = some (decide (x = y)) := rfl
theorem eq_same {n m : Nat} {d : D} (h : Rp n m d) (hn : n ≤ 64) : eqD d d = some true := by
  unfold eqD
  split
  · simp
  · rw [h.shaped hn, SeqAt.eqv_refl _ h.cl]
    rfl
/-! equality of data without truths -/
mutual
def noB : D → Bool
  | .bool _ => false
  | .list xs => noBs xs
  | .tuple xs => noBs xs
  | .dict _ => false
  | _ => true
def noBs : List D → Bool
  | [] => true
  | x :: xs => noB x && noBs xs
end
mutual
theorem eqv_noB : ∀ {d e : D}, noB d = true → noB e = true → PyData.eqv d e = true → d = e
  | .none, e, _, h, q => by cases e <;> first | rfl | (simp [PyData.eqv] at q) | (simp [noB] at h)
  | .bool _, _, h, _, _ => by simp [noB] at h
  | .int i, e, _, h, q => by
    cases e <;> first | (simp [noB] at h; done) | (simp [PyData.eqv] at q; done) | (simp [PyData.eqv] at q; rw [q])
  | .str x, e, _, h, q => by
    cases e <;> first | (simp [noB] at h; done) | (simp [PyData.eqv] at q; done) | (simp [PyData.eqv] at q; rw [q])
  | .list xs, e, h0, h, q => by
    cases e with
    | list ys =>
      simp only [PyData.eqv] at q
      rw [eqv_noBs (by simpa [noB] using h0) (by simpa [noB] using h) q]
    | _ => first | (simp [PyData.eqv] at q; done) | (simp [noB] at h)
  | .tuple xs, e, h0, h, q => by
    cases e with
    | tuple ys =>
      simp only [PyData.eqv] at q
      rw [eqv_noBs (by simpa [noB] using h0) (by simpa [noB] using h) q]
    | _ => first | (simp [PyData.eqv] at q; done) | (simp [noB] at h)
  | .dict _, _, h, _, _ => by simp [noB] at h
theorem eqv_noBs : ∀ {xs ys : List D}, noBs xs = true → noBs ys = true → PyData.eqvAll xs ys = true → xs = ys
  | [], [], _, _, _ => rfl
  | [], _ :: _, _, _, q => by simp [PyData.eqvAll] at q
  | _ :: _, [], _, _, q => by simp [PyData.eqvAll] at q
  | x :: xs, y :: ys, h0, h, q => by
    simp only [PyData.eqvAll, Bool.and_eq_true] at q
    simp only [noBs, Bool.and_eq_true] at h0 h
    rw [eqv_noB h0.1 h.1 q.1, eqv_noBs h0.2 h.2 q.2]
end
theorem eqD_dec {n m n' m' : Nat} {d e : D} (h : Rp n m d) (h' : Rp n' m' e) (hn : n ≤ 64) (hn' : n' ≤ 64) (b : noB d = true) (b' : noB e = true) : eqD d e = some (@decide (d = e) (Classical.propDecidable _)) := by
  by_cases z : d = e
  · subst z
    rw [eq_same h hn]
    simp
  · have r : (@decide (d = e) (Classical.propDecidable _)) = false := by simp [z]
    rw [r]
    unfold eqD
    split
    · rename_i x y
      have : ¬ x = y := fun w => z (by rw [w])
      simp [this]
    · rw [h.shaped hn, h'.shaped hn']
      have : PyData.eqv d e = false := by
        cases w : PyData.eqv d e with
        | false => rfl
        | true => exact absurd (eqv_noB b b' w) z
      rw [this]
      rfl
theorem noBs_map {α : Type} {f : α → D} : ∀ {xs : List α}, (∀ x ∈ xs, noB (f x) = true) → noBs (xs.map f) = true
  | [], _ => by simp [noBs]
  | x :: xs, h => by
    rw [List.map_cons, noBs, h x List.mem_cons_self, noBs_map fun x hx => h x (List.mem_cons_of_mem _ hx)]
    rfl
theorem noB_frQ {q : Rat} : noB (frQ q) = true := by simp [frQ, noB, noBs]
end Vm
namespace Vm
open PySem PySem.Spec PyProof.Rows L2
theorem it_l {xs : List D} {k : Nat} {d : D} (h : xs[k]? = some d) : itemD [.list xs, .int (k : Int)] = some (d, false) := by
  obtain ⟨hk, h⟩ := List.getElem?_eq_some_iff.mp h
  show (atI xs (k : Int)).map _ = _
  unfold atI ixN
  rw [if_pos (by omega), if_pos (by omega)]
  show ((xs[(k : Int).toNat]?).map _) = _
  rw [Int.toNat_natCast, List.getElem?_eq_getElem hk, h]
  rfl
theorem it_t {xs : List D} {k : Nat} {d : D} (h : xs[k]? = some d) : itemD [.tuple xs, .int (k : Int)] = some (d, false) := it_l h
section
variable {l : List D} {a b c d e f g h : D}
theorem it0 : itemD [.list (a :: l), .int 0] = some (a, false) := it_l (k := 0) rfl
theorem it1 : itemD [.list (a :: b :: l), .int 1] = some (b, false) := it_l (k := 1) rfl
theorem it2 : itemD [.list (a :: b :: c :: l), .int 2] = some (c, false) := it_l (k := 2) rfl
theorem it3 : itemD [.list (a :: b :: c :: d :: l), .int 3] = some (d, false) := it_l (k := 3) rfl
theorem it4 : itemD [.list (a :: b :: c :: d :: e :: l), .int 4] = some (e, false) := it_l (k := 4) rfl
theorem it5 : itemD [.list (a :: b :: c :: d :: e :: f :: l), .int 5] = some (f, false) := it_l (k := 5) rfl
theorem it6 : itemD [.list (a :: b :: c :: d :: e :: f :: g :: l), .int 6] = some (g, false) := it_l (k := 6) rfl
theorem ta0 : itemD [.tuple (a :: l), .int 0] = some (a, false) := it_t (k := 0) rfl
theorem ta1 : itemD [.tuple (a :: b :: l), .int 1] = some (b, false) := it_t (k := 1) rfl
theorem ta2 : itemD [.tuple (a :: b :: c :: l), .int 2] = some (c, false) := it_t (k := 2) rfl
end
/-- an item of a list of numbers -/
theorem it_pick {xs : List Int} {i : Int} (h0 : 0 ≤ i) (h1 : i < (xs.length : Int)) : ∃ v ∈ xs, itemD [.list (xs.map PyData.int), .int i] = some (.int v, false) := by
  obtain ⟨k, rfl⟩ : ∃ k : Nat, i = (k : Int) := ⟨i.toNat, by omega⟩
  have hk : k < xs.length := by omega
  exact ⟨xs[k], List.getElem_mem hk, it_l (by rw [List.getElem?_map, List.getElem?_eq_getElem hk]; rfl)⟩
theorem cutD_map {α : Type} {f : α → D} {xs : List α} {lo hi : Option Int} : cutD (xs.map f) lo hi = ((xs.drop (HT.sIx xs.length 0 lo)).take (HT.sIx xs.length xs.length hi - HT.sIx xs.length 0 lo)).map f := by
  unfold cutD
  rw [List.length_map, List.map_take, List.map_drop]
theorem cut_a {x : D} {i : Int} : cutsD true false [x, .int i] = slcD x (some i) none := rfl
theorem cut_b {x : D} {i : Int} : cutsD false true [x, .int i] = slcD x none (some i) := rfl
theorem slc_l {xs : List D} {lo hi : Option Int} : slcD (.list xs) lo hi = some (.list (cutD xs lo hi), true) := rfl
theorem slc_t {xs : List D} {lo hi : Option Int} : slcD (.tuple xs) lo hi = some (.tuple (cutD xs lo hi), false) := rfl
theorem eq_nil {n m : Nat} {xs : List D} (h : Rp n m (.list xs)) (hn : n ≤ 64) : eqD (.list xs) (.list []) = some xs.isEmpty := by
  have s1 := h.shaped hn
  have s2 : SeqAt.shaped (.list []) = true := by decide
  show (if (SeqAt.shaped (.list xs) && SeqAt.shaped (.list [])) = true then some (PyData.eqv (.list xs) (.list [])) else none) = _
  rw [s1, s2]
  cases xs with
  | nil => rfl
  | cons x xs => simp [PyData.eqv, PyData.eqvAll]
theorem intsOf_map : ∀ l : List Int, intsOf (l.map PyData.int) = some l
  | [] => rfl
  | x :: l => by
    show (intsOf (l.map PyData.int)).map _ = _
    rw [intsOf_map l]
    rfl
theorem o_sorted {l : List Int} : sortedD [.list (l.map PyData.int)] = some (.list ((sortI l).map PyData.int), true) := by
  show (intsOf (l.map PyData.int)).map _ = _
  rw [intsOf_map]
  rfl
theorem sort_range {l : List Int} {n : Nat} (h : l.Perm ((List.range n).map fun (k : Nat) => (k : Int))) : sortI l = (List.range n).map fun (k : Nat) => (k : Int) := by
  refine sorted_same ((sortI_perm l).trans h) (sortI_sorted l) ?_
  rw [List.pairwise_map]
  exact (List.pairwise_lt_range (n := n)).imp fun h => by omega
theorem isi_int {t : Ty} {i : Int} : isiD t [.int i] = some (.bool (match t with | .int => true | _ => false), false) := by cases t <;> rfl
end Vm
namespace Vm
open PySem PySem.Spec PyProof.Rows L2
theorem eqL2 {d e : D} : eqL [d, e] = eqD d e := rfl
theorem noneL1 {d : D} : noneL [d] = some (isNoD d) := rfl
theorem isBL1 {b c : Bool} : isBL b [.bool c] = some (decide (c = b)) := rfl
theorem inL_l {x : D} {ys : List D} : inL [x, .list ys] = inD x ys := rfl
theorem inL_t {x : D} {ys : List D} : inL [x, .tuple ys] = inT x ys := rfl
theorem isNo_n : isNoD .none = true := rfl
theorem isNo_i {i : Int} : isNoD (.int i) = false := rfl
theorem isNo_t {xs : List D} : isNoD (.tuple xs) = false := rfl
theorem isNo_q {q : Rat} : isNoD (frQ q) = false := rfl
end Vm
/-! L1: parts -/
namespace Lb
open PySem PySem.Spec PyProof.Rows L2 Vm
/- common: 0 one, 1 other -/
noncomputable def wc_common_0 : E := .pr (.cmp .gt) (.cons (.var 1) (.cons (.con (.int 0)) (.nil)))
noncomputable def wb_common_0 : S := .par 0 1 (.var 1) (.pr .mod (.cons (.var 0) (.cons (.var 1) (.nil))))
noncomputable def b_common : S := .seq (.whl wc_common_0 wb_common_0) (.ret (.var 0))
noncomputable def m_common : Fm := ⟨[false, false], runF [false, false] 2 b_common⟩
theorem io_common : m_common.io = [false, false] := rfl
theorem step_common (a b : Nat) : ∀ n, b < n → ∃ k, whN (evT wc_common_0) (evS wb_common_0) k [.im (.int a), .im (.int b)] = .nx [.im (.int (Nat.gcd a b : Nat)), .im (.int 0)] := by
  intro n
  induction n generalizing a b with
  | zero => intro h; omega
  | succ n ih =>
    intro hb
    by_cases h : 0 < b
    · obtain ⟨k, hk⟩ := ih b (a % b) (by have := Nat.mod_lt a h; omega)
      refine ⟨k + 1, ?_⟩
      have hz : (0 : Int) < (b : Int) := by omega
      have em : ((a : Int) % (b : Int)) = ((a % b : Nat) : Int) := (Int.natCast_emod a b).symm
      rw [Nat.gcd_comm b (a % b), ← Nat.gcd_rec, Nat.gcd_comm] at hk
      rw [← hk]
      refine whN_t (e1 := [.im (.int a), .im (.int b)]) ?_ ?_
      · simp only [wc_common_0, hz, x_runF, q_nx, q_rt, rep0, rep1, x_var, qV_im, qV_ow, x_rdS, sD_im, sD_ow, sD_io, sD_lk, x_canLk, sC_ow, sC_io, sC_im, sC_lk, sC_un, x_stSf, x_stSt, sS_un, sS_im, sS_ow, x_chS, sG_ow, sG_io, mOw_some, mIo_some, x_con, x_tup, x_lst, z_tup, z_lst, x_pr, z_pr, x_not, z_not, x_and, x_or, z_and, z_or, x_ite, z_ite, x_call, z_call, q_ok, lift2_some, x_callT, z_callT, q_okT, x_Anil, x_Bnil, x_Cnil, x_Acons, z_A, z_B, z_C, z_cons, x_Bvar, tB_some, z_var, x_Bpr, x_Bcon, x_Btup, x_Blst, x_Bcall, x_BcallT, x_Bnot, x_Bite, x_Blc, x_Cval, x_Cvar, tC_true, z_varC, t_not, t_and, t_or, t_cmp, t_var, t_call, t_isi, t_len, t_con, t_item, t_all, t_any, y_t, y_n, y_a, y_o, y_c, s_skip, s_seq, w_nx, s_set, w_set, s_put, w_put, w_put2, s_unp, w_unp, w_unpQ, w_ts0, w_tsn, w_tsi, w_ti, w_ts, s_par, w_par, w_par2, w_par3, w_par4, s_ex, w_ex, s_iff, w_if, s_whl, s_retv, q_rim, q_row, s_retpr, s_rettup, s_retlst, s_retcon, s_retcall, s_retnot, s_retand, s_retor, s_retite, s_retlc, w_ret, startE, bind_rt, bind_sexn, bind_bk, bind_ct, lift_some, go1_some, ob_some, om_some, Vm.cmpD, ordD, putI, outsE, contS, add_ii, subD, negD, absD, maxD, minD, lensD, len_l, len_t, truD, boolOf, intOf, ioIx, wb, isiD, isTy, toIntD, toListD, toTupleD, itemsOf, List.length_cons, List.length_nil, Int.reduceToNat, it0, it1, it2, it3, it4, it5, it6, ta0, ta1, ta2, eqL2, noneL1, isBL1, inL_l, inL_t, isNo_n, isNo_i, isNo_t, isNo_q, eqI, eqQ, eqSS, eq_self, decide_eq_true_eq, cut_a, cut_b, slc_l, slc_t, List.nil_append, List.cons_append, List.append_nil, List.getElem?_cons_zero, List.getElem?_cons_succ, List.set_cons_zero, List.set_cons_succ, List.set_nil, Option.isSome_some, if_true, if_false, reduceIte, reduceCtorEq, Nat.reduceSub, Nat.reduceAdd, Nat.reduceLT, decide_true, decide_false, Bool.not_true, Bool.not_false, Bool.false_eq_true, Nat.reduceEqDiff, List.nodup_nil, List.nodup_cons, List.not_mem_nil, not_false_eq_true, true_and, and_true, and_self, x_lc, z_lc2, q_lc, mw0, mw1, qW_un, qW_im, wp0, wp1, bk0, bk1, gd0, gd1, x_ofv, kWk_l, kWk_t, x_ofcall, x_ofcallT, x_ofpr, x_oftup, x_oflst, x_oflc, x_ofcon, z_of, walk_l, walk_t, x_rng1, x_rng2, z_rng2a, x_enum, x_enum2, x_zip, x_zip3, z_en, z_zp, z_zp3, s_frr, w_fr, ul_nx, ul_rt, ul0, lk0, ul1, lk1, x_lkS, x_ulS, qLk_ow, qLk_io, qUl_ow, qUl_io, srcs_ofv, srcs_ofcall, srcs_ofcallT, srcs_ofpr, srcs_oftup, srcs_oflst, srcs_oflc, srcs_ofcon, srcs_r1, srcs_r2, srcs_en, srcs_en2, srcs_zp, srcs_zp3, rv_nil, rv_var, rv_call, rv_pr, rv_con, rv_lc, rv_tup, rv_lst, fi0, fi1, g_nm, g_tp, g_nl, g_cn, w_kM, x_kM, x_lm, mOw_q, mIo_q, o_rev, o_clr, x_lcT, qT1_some, z_T2, z_T3, x_frT, qF1_some, sS_sl, qW_sl, sl_some, z_lm, q_lm, Bool.and_true, Bool.true_and, Bool.and_false, Bool.false_and, Bool.or_true, Bool.true_or, Bool.or_false, Bool.false_or, revD, pr_add, pr_sub, pr_mul, pr_fdiv, pr_mod, pr_pow, pr_neg, pr_item, pr_len, pr_abs, pr_max, pr_min, pr_toInt, pr_toList, pr_toTuple, pr_sum, pr_sorted, pr_repr, pr_all, pr_any, pr_divmod, pr_isi, pr_cmp, pr_cut, pr_rev, pr_lrg, pr_trg, sz0, sz1, sz2, sz3, sz4, sz5, sz6, sz7, sz8, sz9, sz10, sz11, sz12]
      · simp only [wb_common_0, o_mod hz, em, x_runF, q_nx, q_rt, rep0, rep1, x_var, qV_im, qV_ow, x_rdS, sD_im, sD_ow, sD_io, sD_lk, x_canLk, sC_ow, sC_io, sC_im, sC_lk, sC_un, x_stSf, x_stSt, sS_un, sS_im, sS_ow, x_chS, sG_ow, sG_io, mOw_some, mIo_some, x_con, x_tup, x_lst, z_tup, z_lst, x_pr, z_pr, x_not, z_not, x_and, x_or, z_and, z_or, x_ite, z_ite, x_call, z_call, q_ok, lift2_some, x_callT, z_callT, q_okT, x_Anil, x_Bnil, x_Cnil, x_Acons, z_A, z_B, z_C, z_cons, x_Bvar, tB_some, z_var, x_Bpr, x_Bcon, x_Btup, x_Blst, x_Bcall, x_BcallT, x_Bnot, x_Bite, x_Blc, x_Cval, x_Cvar, tC_true, z_varC, t_not, t_and, t_or, t_cmp, t_var, t_call, t_isi, t_len, t_con, t_item, t_all, t_any, y_t, y_n, y_a, y_o, y_c, s_skip, s_seq, w_nx, s_set, w_set, s_put, w_put, w_put2, s_unp, w_unp, w_unpQ, w_ts0, w_tsn, w_tsi, w_ti, w_ts, s_par, w_par, w_par2, w_par3, w_par4, s_ex, w_ex, s_iff, w_if, s_whl, s_retv, q_rim, q_row, s_retpr, s_rettup, s_retlst, s_retcon, s_retcall, s_retnot, s_retand, s_retor, s_retite, s_retlc, w_ret, startE, bind_rt, bind_sexn, bind_bk, bind_ct, lift_some, go1_some, ob_some, om_some, Vm.cmpD, ordD, putI, outsE, contS, add_ii, subD, negD, absD, maxD, minD, lensD, len_l, len_t, truD, boolOf, intOf, ioIx, wb, isiD, isTy, toIntD, toListD, toTupleD, itemsOf, List.length_cons, List.length_nil, Int.reduceToNat, it0, it1, it2, it3, it4, it5, it6, ta0, ta1, ta2, eqL2, noneL1, isBL1, inL_l, inL_t, isNo_n, isNo_i, isNo_t, isNo_q, eqI, eqQ, eqSS, eq_self, decide_eq_true_eq, cut_a, cut_b, slc_l, slc_t, List.nil_append, List.cons_append, List.append_nil, List.getElem?_cons_zero, List.getElem?_cons_succ, List.set_cons_zero, List.set_cons_succ, List.set_nil, Option.isSome_some, if_true, if_false, reduceIte, reduceCtorEq, Nat.reduceSub, Nat.reduceAdd, Nat.reduceLT, decide_true, decide_false, Bool.not_true, Bool.not_false, Bool.false_eq_true, Nat.reduceEqDiff, List.nodup_nil, List.nodup_cons, List.not_mem_nil, not_false_eq_true, true_and, and_true, and_self, x_lc, z_lc2, q_lc, mw0, mw1, qW_un, qW_im, wp0, wp1, bk0, bk1, gd0, gd1, x_ofv, kWk_l, kWk_t, x_ofcall, x_ofcallT, x_ofpr, x_oftup, x_oflst, x_oflc, x_ofcon, z_of, walk_l, walk_t, x_rng1, x_rng2, z_rng2a, x_enum, x_enum2, x_zip, x_zip3, z_en, z_zp, z_zp3, s_frr, w_fr, ul_nx, ul_rt, ul0, lk0, ul1, lk1, x_lkS, x_ulS, qLk_ow, qLk_io, qUl_ow, qUl_io, srcs_ofv, srcs_ofcall, srcs_ofcallT, srcs_ofpr, srcs_oftup, srcs_oflst, srcs_oflc, srcs_ofcon, srcs_r1, srcs_r2, srcs_en, srcs_en2, srcs_zp, srcs_zp3, rv_nil, rv_var, rv_call, rv_pr, rv_con, rv_lc, rv_tup, rv_lst, fi0, fi1, g_nm, g_tp, g_nl, g_cn, w_kM, x_kM, x_lm, mOw_q, mIo_q, o_rev, o_clr, x_lcT, qT1_some, z_T2, z_T3, x_frT, qF1_some, sS_sl, qW_sl, sl_some, z_lm, q_lm, Bool.and_true, Bool.true_and, Bool.and_false, Bool.false_and, Bool.or_true, Bool.true_or, Bool.or_false, Bool.false_or, revD, pr_add, pr_sub, pr_mul, pr_fdiv, pr_mod, pr_pow, pr_neg, pr_item, pr_len, pr_abs, pr_max, pr_min, pr_toInt, pr_toList, pr_toTuple, pr_sum, pr_sorted, pr_repr, pr_all, pr_any, pr_divmod, pr_isi, pr_cmp, pr_cut, pr_rev, pr_lrg, pr_trg, sz0, sz1, sz2, sz3, sz4, sz5, sz6, sz7, sz8, sz9, sz10, sz11, sz12]
    · have e : b = 0 := by omega
      subst e
      refine ⟨1, ?_⟩
      refine (whN_f (e1 := [.im (.int a), .im (.int (0 : Nat))]) ?_).trans ?_
      · simp only [wc_common_0, show ¬ ((0 : Int) < ((0 : Nat) : Int)) from by decide, x_runF, q_nx, q_rt, rep0, rep1, x_var, qV_im, qV_ow, x_rdS, sD_im, sD_ow, sD_io, sD_lk, x_canLk, sC_ow, sC_io, sC_im, sC_lk, sC_un, x_stSf, x_stSt, sS_un, sS_im, sS_ow, x_chS, sG_ow, sG_io, mOw_some, mIo_some, x_con, x_tup, x_lst, z_tup, z_lst, x_pr, z_pr, x_not, z_not, x_and, x_or, z_and, z_or, x_ite, z_ite, x_call, z_call, q_ok, lift2_some, x_callT, z_callT, q_okT, x_Anil, x_Bnil, x_Cnil, x_Acons, z_A, z_B, z_C, z_cons, x_Bvar, tB_some, z_var, x_Bpr, x_Bcon, x_Btup, x_Blst, x_Bcall, x_BcallT, x_Bnot, x_Bite, x_Blc, x_Cval, x_Cvar, tC_true, z_varC, t_not, t_and, t_or, t_cmp, t_var, t_call, t_isi, t_len, t_con, t_item, t_all, t_any, y_t, y_n, y_a, y_o, y_c, s_skip, s_seq, w_nx, s_set, w_set, s_put, w_put, w_put2, s_unp, w_unp, w_unpQ, w_ts0, w_tsn, w_tsi, w_ti, w_ts, s_par, w_par, w_par2, w_par3, w_par4, s_ex, w_ex, s_iff, w_if, s_whl, s_retv, q_rim, q_row, s_retpr, s_rettup, s_retlst, s_retcon, s_retcall, s_retnot, s_retand, s_retor, s_retite, s_retlc, w_ret, startE, bind_rt, bind_sexn, bind_bk, bind_ct, lift_some, go1_some, ob_some, om_some, Vm.cmpD, ordD, putI, outsE, contS, add_ii, subD, negD, absD, maxD, minD, lensD, len_l, len_t, truD, boolOf, intOf, ioIx, wb, isiD, isTy, toIntD, toListD, toTupleD, itemsOf, List.length_cons, List.length_nil, Int.reduceToNat, it0, it1, it2, it3, it4, it5, it6, ta0, ta1, ta2, eqL2, noneL1, isBL1, inL_l, inL_t, isNo_n, isNo_i, isNo_t, isNo_q, eqI, eqQ, eqSS, eq_self, decide_eq_true_eq, cut_a, cut_b, slc_l, slc_t, List.nil_append, List.cons_append, List.append_nil, List.getElem?_cons_zero, List.getElem?_cons_succ, List.set_cons_zero, List.set_cons_succ, List.set_nil, Option.isSome_some, if_true, if_false, reduceIte, reduceCtorEq, Nat.reduceSub, Nat.reduceAdd, Nat.reduceLT, decide_true, decide_false, Bool.not_true, Bool.not_false, Bool.false_eq_true, Nat.reduceEqDiff, List.nodup_nil, List.nodup_cons, List.not_mem_nil, not_false_eq_true, true_and, and_true, and_self, x_lc, z_lc2, q_lc, mw0, mw1, qW_un, qW_im, wp0, wp1, bk0, bk1, gd0, gd1, x_ofv, kWk_l, kWk_t, x_ofcall, x_ofcallT, x_ofpr, x_oftup, x_oflst, x_oflc, x_ofcon, z_of, walk_l, walk_t, x_rng1, x_rng2, z_rng2a, x_enum, x_enum2, x_zip, x_zip3, z_en, z_zp, z_zp3, s_frr, w_fr, ul_nx, ul_rt, ul0, lk0, ul1, lk1, x_lkS, x_ulS, qLk_ow, qLk_io, qUl_ow, qUl_io, srcs_ofv, srcs_ofcall, srcs_ofcallT, srcs_ofpr, srcs_oftup, srcs_oflst, srcs_oflc, srcs_ofcon, srcs_r1, srcs_r2, srcs_en, srcs_en2, srcs_zp, srcs_zp3, rv_nil, rv_var, rv_call, rv_pr, rv_con, rv_lc, rv_tup, rv_lst, fi0, fi1, g_nm, g_tp, g_nl, g_cn, w_kM, x_kM, x_lm, mOw_q, mIo_q, o_rev, o_clr, x_lcT, qT1_some, z_T2, z_T3, x_frT, qF1_some, sS_sl, qW_sl, sl_some, z_lm, q_lm, Bool.and_true, Bool.true_and, Bool.and_false, Bool.false_and, Bool.or_true, Bool.true_or, Bool.or_false, Bool.false_or, revD, pr_add, pr_sub, pr_mul, pr_fdiv, pr_mod, pr_pow, pr_neg, pr_item, pr_len, pr_abs, pr_max, pr_min, pr_toInt, pr_toList, pr_toTuple, pr_sum, pr_sorted, pr_repr, pr_all, pr_any, pr_divmod, pr_isi, pr_cmp, pr_cut, pr_rev, pr_lrg, pr_trg, sz0, sz1, sz2, sz3, sz4, sz5, sz6, sz7, sz8, sz9, sz10, sz11, sz12]
      · simp
theorem R_common (a b : Nat) : m_common.run [.int a, .int b] = .ok (.int (Nat.gcd a b : Nat)) false [] := by
  obtain ⟨k, hk⟩ := step_common a b (b + 1) (by omega)
  have := whL_eq k hk (by simp)
  simp only [m_common, b_common, this, x_runF, q_nx, q_rt, rep0, rep1, x_var, qV_im, qV_ow, x_rdS, sD_im, sD_ow, sD_io, sD_lk, x_canLk, sC_ow, sC_io, sC_im, sC_lk, sC_un, x_stSf, x_stSt, sS_un, sS_im, sS_ow, x_chS, sG_ow, sG_io, mOw_some, mIo_some, x_con, x_tup, x_lst, z_tup, z_lst, x_pr, z_pr, x_not, z_not, x_and, x_or, z_and, z_or, x_ite, z_ite, x_call, z_call, q_ok, lift2_some, x_callT, z_callT, q_okT, x_Anil, x_Bnil, x_Cnil, x_Acons, z_A, z_B, z_C, z_cons, x_Bvar, tB_some, z_var, x_Bpr, x_Bcon, x_Btup, x_Blst, x_Bcall, x_BcallT, x_Bnot, x_Bite, x_Blc, x_Cval, x_Cvar, tC_true, z_varC, t_not, t_and, t_or, t_cmp, t_var, t_call, t_isi, t_len, t_con, t_item, t_all, t_any, y_t, y_n, y_a, y_o, y_c, s_skip, s_seq, w_nx, s_set, w_set, s_put, w_put, w_put2, s_unp, w_unp, w_unpQ, w_ts0, w_tsn, w_tsi, w_ti, w_ts, s_par, w_par, w_par2, w_par3, w_par4, s_ex, w_ex, s_iff, w_if, s_whl, s_retv, q_rim, q_row, s_retpr, s_rettup, s_retlst, s_retcon, s_retcall, s_retnot, s_retand, s_retor, s_retite, s_retlc, w_ret, startE, bind_rt, bind_sexn, bind_bk, bind_ct, lift_some, go1_some, ob_some, om_some, Vm.cmpD, ordD, putI, outsE, contS, add_ii, subD, negD, absD, maxD, minD, lensD, len_l, len_t, truD, boolOf, intOf, ioIx, wb, isiD, isTy, toIntD, toListD, toTupleD, itemsOf, List.length_cons, List.length_nil, Int.reduceToNat, it0, it1, it2, it3, it4, it5, it6, ta0, ta1, ta2, eqL2, noneL1, isBL1, inL_l, inL_t, isNo_n, isNo_i, isNo_t, isNo_q, eqI, eqQ, eqSS, eq_self, decide_eq_true_eq, cut_a, cut_b, slc_l, slc_t, List.nil_append, List.cons_append, List.append_nil, List.getElem?_cons_zero, List.getElem?_cons_succ, List.set_cons_zero, List.set_cons_succ, List.set_nil, Option.isSome_some, if_true, if_false, reduceIte, reduceCtorEq, Nat.reduceSub, Nat.reduceAdd, Nat.reduceLT, decide_true, decide_false, Bool.not_true, Bool.not_false, Bool.false_eq_true, Nat.reduceEqDiff, List.nodup_nil, List.nodup_cons, List.not_mem_nil, not_false_eq_true, true_and, and_true, and_self, x_lc, z_lc2, q_lc, mw0, mw1, qW_un, qW_im, wp0, wp1, bk0, bk1, gd0, gd1, x_ofv, kWk_l, kWk_t, x_ofcall, x_ofcallT, x_ofpr, x_oftup, x_oflst, x_oflc, x_ofcon, z_of, walk_l, walk_t, x_rng1, x_rng2, z_rng2a, x_enum, x_enum2, x_zip, x_zip3, z_en, z_zp, z_zp3, s_frr, w_fr, ul_nx, ul_rt, ul0, lk0, ul1, lk1, x_lkS, x_ulS, qLk_ow, qLk_io, qUl_ow, qUl_io, srcs_ofv, srcs_ofcall, srcs_ofcallT, srcs_ofpr, srcs_oftup, srcs_oflst, srcs_oflc, srcs_ofcon, srcs_r1, srcs_r2, srcs_en, srcs_en2, srcs_zp, srcs_zp3, rv_nil, rv_var, rv_call, rv_pr, rv_con, rv_lc, rv_tup, rv_lst, fi0, fi1, g_nm, g_tp, g_nl, g_cn, w_kM, x_kM, x_lm, mOw_q, mIo_q, o_rev, o_clr, x_lcT, qT1_some, z_T2, z_T3, x_frT, qF1_some, sS_sl, qW_sl, sl_some, z_lm, q_lm, Bool.and_true, Bool.true_and, Bool.and_false, Bool.false_and, Bool.or_true, Bool.true_or, Bool.or_false, Bool.false_or, revD, pr_add, pr_sub, pr_mul, pr_fdiv, pr_mod, pr_pow, pr_neg, pr_item, pr_len, pr_abs, pr_max, pr_min, pr_toInt, pr_toList, pr_toTuple, pr_sum, pr_sorted, pr_repr, pr_all, pr_any, pr_divmod, pr_isi, pr_cmp, pr_cut, pr_rev, pr_lrg, pr_trg, sz0, sz1, sz2, sz3, sz4, sz5, sz6, sz7, sz8, sz9, sz10, sz11, sz12]
theorem abs_nat (a : Int) : (if a < 0 then -a else a) = (a.natAbs : Int) := by split <;> omega
theorem gcd_nat (a : Int) (b : Int) : ((Nat.gcd a.natAbs b.natAbs : Nat) : Int) = (Int.gcd a b : Int) := rfl
theorem gcd_bl (a : Int) {b : Int} (hb : 0 < b) : bl (Int.gcd a b : Int) ≤ bl b := bl_mono (by
  have : (Int.gcd a b : Int) ≤ b := Int.le_of_dvd hb (Int.gcd_dvd_right ..)
  omega)
/- lowest: 0 above, 1 below, 2 share -/
noncomputable def b_lowest : S := .seq (.set 2 (.call Lb.m_common (.cons (.pr .abs (.cons (.var 0) (.nil))) (.cons (.var 1) (.nil))))) (.ret (.tup (.cons (.pr .fdiv (.cons (.var 0) (.cons (.var 2) (.nil)))) (.cons (.pr .fdiv (.cons (.var 1) (.cons (.var 2) (.nil)))) (.nil)))))
noncomputable def m_lowest : Fm := ⟨[false, false], runF [false, false] 3 b_lowest⟩
theorem io_lowest : m_lowest.io = [false, false] := rfl
theorem R_lowest {a b : Int} (hb : 0 < b) (hz : bl b ≤ 8000) : m_lowest.run [.int a, .int b] = .ok (frQ ((a : Rat) / (b : Rat))) false [] := by
  have hb3 : b = (b.natAbs : Int) := by omega
  have hc := R_common a.natAbs b.natAbs
  rw [← hb3, gcd_nat a b] at hc
  have g := gcd_pos (a := a) hb
  have gl := gcd_bl a hb
  rw [frQ_low hb]
  simp only [m_lowest, b_lowest, io_common, abs_nat, hc, o_fdiv g (Nat.le_trans gl hz), x_runF, q_nx, q_rt, rep0, rep1, x_var, qV_im, qV_ow, x_rdS, sD_im, sD_ow, sD_io, sD_lk, x_canLk, sC_ow, sC_io, sC_im, sC_lk, sC_un, x_stSf, x_stSt, sS_un, sS_im, sS_ow, x_chS, sG_ow, sG_io, mOw_some, mIo_some, x_con, x_tup, x_lst, z_tup, z_lst, x_pr, z_pr, x_not, z_not, x_and, x_or, z_and, z_or, x_ite, z_ite, x_call, z_call, q_ok, lift2_some, x_callT, z_callT, q_okT, x_Anil, x_Bnil, x_Cnil, x_Acons, z_A, z_B, z_C, z_cons, x_Bvar, tB_some, z_var, x_Bpr, x_Bcon, x_Btup, x_Blst, x_Bcall, x_BcallT, x_Bnot, x_Bite, x_Blc, x_Cval, x_Cvar, tC_true, z_varC, t_not, t_and, t_or, t_cmp, t_var, t_call, t_isi, t_len, t_con, t_item, t_all, t_any, y_t, y_n, y_a, y_o, y_c, s_skip, s_seq, w_nx, s_set, w_set, s_put, w_put, w_put2, s_unp, w_unp, w_unpQ, w_ts0, w_tsn, w_tsi, w_ti, w_ts, s_par, w_par, w_par2, w_par3, w_par4, s_ex, w_ex, s_iff, w_if, s_whl, s_retv, q_rim, q_row, s_retpr, s_rettup, s_retlst, s_retcon, s_retcall, s_retnot, s_retand, s_retor, s_retite, s_retlc, w_ret, startE, bind_rt, bind_sexn, bind_bk, bind_ct, lift_some, go1_some, ob_some, om_some, Vm.cmpD, ordD, putI, outsE, contS, add_ii, subD, negD, absD, maxD, minD, lensD, len_l, len_t, truD, boolOf, intOf, ioIx, wb, isiD, isTy, toIntD, toListD, toTupleD, itemsOf, List.length_cons, List.length_nil, Int.reduceToNat, it0, it1, it2, it3, it4, it5, it6, ta0, ta1, ta2, eqL2, noneL1, isBL1, inL_l, inL_t, isNo_n, isNo_i, isNo_t, isNo_q, eqI, eqQ, eqSS, eq_self, decide_eq_true_eq, cut_a, cut_b, slc_l, slc_t, List.nil_append, List.cons_append, List.append_nil, List.getElem?_cons_zero, List.getElem?_cons_succ, List.set_cons_zero, List.set_cons_succ, List.set_nil, Option.isSome_some, if_true, if_false, reduceIte, reduceCtorEq, Nat.reduceSub, Nat.reduceAdd, Nat.reduceLT, decide_true, decide_false, Bool.not_true, Bool.not_false, Bool.false_eq_true, Nat.reduceEqDiff, List.nodup_nil, List.nodup_cons, List.not_mem_nil, not_false_eq_true, true_and, and_true, and_self, x_lc, z_lc2, q_lc, mw0, mw1, qW_un, qW_im, wp0, wp1, bk0, bk1, gd0, gd1, x_ofv, kWk_l, kWk_t, x_ofcall, x_ofcallT, x_ofpr, x_oftup, x_oflst, x_oflc, x_ofcon, z_of, walk_l, walk_t, x_rng1, x_rng2, z_rng2a, x_enum, x_enum2, x_zip, x_zip3, z_en, z_zp, z_zp3, s_frr, w_fr, ul_nx, ul_rt, ul0, lk0, ul1, lk1, x_lkS, x_ulS, qLk_ow, qLk_io, qUl_ow, qUl_io, srcs_ofv, srcs_ofcall, srcs_ofcallT, srcs_ofpr, srcs_oftup, srcs_oflst, srcs_oflc, srcs_ofcon, srcs_r1, srcs_r2, srcs_en, srcs_en2, srcs_zp, srcs_zp3, rv_nil, rv_var, rv_call, rv_pr, rv_con, rv_lc, rv_tup, rv_lst, fi0, fi1, g_nm, g_tp, g_nl, g_cn, w_kM, x_kM, x_lm, mOw_q, mIo_q, o_rev, o_clr, x_lcT, qT1_some, z_T2, z_T3, x_frT, qF1_some, sS_sl, qW_sl, sl_some, z_lm, q_lm, Bool.and_true, Bool.true_and, Bool.and_false, Bool.false_and, Bool.or_true, Bool.true_or, Bool.or_false, Bool.false_or, revD, pr_add, pr_sub, pr_mul, pr_fdiv, pr_mod, pr_pow, pr_neg, pr_item, pr_len, pr_abs, pr_max, pr_min, pr_toInt, pr_toList, pr_toTuple, pr_sum, pr_sorted, pr_repr, pr_all, pr_any, pr_divmod, pr_isi, pr_cmp, pr_cut, pr_rev, pr_lrg, pr_trg, sz0, sz1, sz2, sz3, sz4, sz5, sz6, sz7, sz8, sz9, sz10, sz11, sz12]
  rfl
/- plus: 0 one, 1 other -/
noncomputable def b_plus : S := .ret (.call Lb.m_lowest (.cons (.pr .add (.cons (.pr .mul (.cons (.pr .item (.cons (.var 0) (.cons (.con (.int 0)) (.nil)))) (.cons (.pr .item (.cons (.var 1) (.cons (.con (.int 1)) (.nil)))) (.nil)))) (.cons (.pr .mul (.cons (.pr .item (.cons (.var 1) (.cons (.con (.int 0)) (.nil)))) (.cons (.pr .item (.cons (.var 0) (.cons (.con (.int 1)) (.nil)))) (.nil)))) (.nil)))) (.cons (.pr .mul (.cons (.pr .item (.cons (.var 0) (.cons (.con (.int 1)) (.nil)))) (.cons (.pr .item (.cons (.var 1) (.cons (.con (.int 1)) (.nil)))) (.nil)))) (.nil))))
noncomputable def m_plus : Fm := ⟨[false, false], runF [false, false] 2 b_plus⟩
theorem io_plus : m_plus.io = [false, false] := rfl
/- minus: 0 one, 1 other -/
noncomputable def b_minus : S := .ret (.call Lb.m_lowest (.cons (.pr .sub (.cons (.pr .mul (.cons (.pr .item (.cons (.var 0) (.cons (.con (.int 0)) (.nil)))) (.cons (.pr .item (.cons (.var 1) (.cons (.con (.int 1)) (.nil)))) (.nil)))) (.cons (.pr .mul (.cons (.pr .item (.cons (.var 1) (.cons (.con (.int 0)) (.nil)))) (.cons (.pr .item (.cons (.var 0) (.cons (.con (.int 1)) (.nil)))) (.nil)))) (.nil)))) (.cons (.pr .mul (.cons (.pr .item (.cons (.var 0) (.cons (.con (.int 1)) (.nil)))) (.cons (.pr .item (.cons (.var 1) (.cons (.con (.int 1)) (.nil)))) (.nil)))) (.nil))))
noncomputable def m_minus : Fm := ⟨[false, false], runF [false, false] 2 b_minus⟩
theorem io_minus : m_minus.io = [false, false] := rfl
/- times: 0 one, 1 many -/
noncomputable def b_times : S := .ret (.call Lb.m_lowest (.cons (.pr .mul (.cons (.pr .item (.cons (.var 0) (.cons (.con (.int 0)) (.nil)))) (.cons (.var 1) (.nil)))) (.cons (.pr .item (.cons (.var 0) (.cons (.con (.int 1)) (.nil)))) (.nil))))
noncomputable def m_times : Fm := ⟨[false, false], runF [false, false] 2 b_times⟩
theorem io_times : m_times.io = [false, false] := rfl
/- is_less: 0 one, 1 other -/
noncomputable def b_is_less : S := .ret (.pr (.cmp .lt) (.cons (.pr .mul (.cons (.pr .item (.cons (.var 0) (.cons (.con (.int 0)) (.nil)))) (.cons (.pr .item (.cons (.var 1) (.cons (.con (.int 1)) (.nil)))) (.nil)))) (.cons (.pr .mul (.cons (.pr .item (.cons (.var 1) (.cons (.con (.int 0)) (.nil)))) (.cons (.pr .item (.cons (.var 0) (.cons (.con (.int 1)) (.nil)))) (.nil)))) (.nil))))
noncomputable def m_is_less : Fm := ⟨[false, false], runF [false, false] 2 b_is_less⟩
theorem io_is_less : m_is_less.io = [false, false] := rfl
/- size: 0 one -/
noncomputable def b_size : S := .ret (.tup (.cons (.pr .abs (.cons (.pr .item (.cons (.var 0) (.cons (.con (.int 0)) (.nil)))) (.nil))) (.cons (.pr .item (.cons (.var 0) (.cons (.con (.int 1)) (.nil)))) (.nil))))
noncomputable def m_size : Fm := ⟨[false], runF [false] 1 b_size⟩
theorem io_size : m_size.io = [false] := rfl
theorem R_plus {p q : Rat} (h : bq p + bq q ≤ 8000) : m_plus.run [frQ p, frQ q] = .ok (frQ (p + q)) false [] := by
  have h1 := bq_num p
  have h2 := bq_num q
  have h3 := bq_den p
  have h4 := bq_den q
  have h5 := bl_mul p.den q.den
  have hl := R_lowest (a := p.num * q.den + q.num * p.den) (b := p.den * q.den) (Int.mul_pos (den_pos p) (den_pos q)) (by omega)
  rw [← add_nd] at hl
  simp only [m_plus, b_plus, io_lowest, at0Q, at1Q, o_mul (i := p.num) (j := q.den) (by omega), o_mul (i := q.num) (j := p.den) (by omega), o_mul (i := p.den) (j := q.den) (by omega), hl, x_runF, q_nx, q_rt, rep0, rep1, x_var, qV_im, qV_ow, x_rdS, sD_im, sD_ow, sD_io, sD_lk, x_canLk, sC_ow, sC_io, sC_im, sC_lk, sC_un, x_stSf, x_stSt, sS_un, sS_im, sS_ow, x_chS, sG_ow, sG_io, mOw_some, mIo_some, x_con, x_tup, x_lst, z_tup, z_lst, x_pr, z_pr, x_not, z_not, x_and, x_or, z_and, z_or, x_ite, z_ite, x_call, z_call, q_ok, lift2_some, x_callT, z_callT, q_okT, x_Anil, x_Bnil, x_Cnil, x_Acons, z_A, z_B, z_C, z_cons, x_Bvar, tB_some, z_var, x_Bpr, x_Bcon, x_Btup, x_Blst, x_Bcall, x_BcallT, x_Bnot, x_Bite, x_Blc, x_Cval, x_Cvar, tC_true, z_varC, t_not, t_and, t_or, t_cmp, t_var, t_call, t_isi, t_len, t_con, t_item, t_all, t_any, y_t, y_n, y_a, y_o, y_c, s_skip, s_seq, w_nx, s_set, w_set, s_put, w_put, w_put2, s_unp, w_unp, w_unpQ, w_ts0, w_tsn, w_tsi, w_ti, w_ts, s_par, w_par, w_par2, w_par3, w_par4, s_ex, w_ex, s_iff, w_if, s_whl, s_retv, q_rim, q_row, s_retpr, s_rettup, s_retlst, s_retcon, s_retcall, s_retnot, s_retand, s_retor, s_retite, s_retlc, w_ret, startE, bind_rt, bind_sexn, bind_bk, bind_ct, lift_some, go1_some, ob_some, om_some, Vm.cmpD, ordD, putI, outsE, contS, add_ii, subD, negD, absD, maxD, minD, lensD, len_l, len_t, truD, boolOf, intOf, ioIx, wb, isiD, isTy, toIntD, toListD, toTupleD, itemsOf, List.length_cons, List.length_nil, Int.reduceToNat, it0, it1, it2, it3, it4, it5, it6, ta0, ta1, ta2, eqL2, noneL1, isBL1, inL_l, inL_t, isNo_n, isNo_i, isNo_t, isNo_q, eqI, eqQ, eqSS, eq_self, decide_eq_true_eq, cut_a, cut_b, slc_l, slc_t, List.nil_append, List.cons_append, List.append_nil, List.getElem?_cons_zero, List.getElem?_cons_succ, List.set_cons_zero, List.set_cons_succ, List.set_nil, Option.isSome_some, if_true, if_false, reduceIte, reduceCtorEq, Nat.reduceSub, Nat.reduceAdd, Nat.reduceLT, decide_true, decide_false, Bool.not_true, Bool.not_false, Bool.false_eq_true, Nat.reduceEqDiff, List.nodup_nil, List.nodup_cons, List.not_mem_nil, not_false_eq_true, true_and, and_true, and_self, x_lc, z_lc2, q_lc, mw0, mw1, qW_un, qW_im, wp0, wp1, bk0, bk1, gd0, gd1, x_ofv, kWk_l, kWk_t, x_ofcall, x_ofcallT, x_ofpr, x_oftup, x_oflst, x_oflc, x_ofcon, z_of, walk_l, walk_t, x_rng1, x_rng2, z_rng2a, x_enum, x_enum2, x_zip, x_zip3, z_en, z_zp, z_zp3, s_frr, w_fr, ul_nx, ul_rt, ul0, lk0, ul1, lk1, x_lkS, x_ulS, qLk_ow, qLk_io, qUl_ow, qUl_io, srcs_ofv, srcs_ofcall, srcs_ofcallT, srcs_ofpr, srcs_oftup, srcs_oflst, srcs_oflc, srcs_ofcon, srcs_r1, srcs_r2, srcs_en, srcs_en2, srcs_zp, srcs_zp3, rv_nil, rv_var, rv_call, rv_pr, rv_con, rv_lc, rv_tup, rv_lst, fi0, fi1, g_nm, g_tp, g_nl, g_cn, w_kM, x_kM, x_lm, mOw_q, mIo_q, o_rev, o_clr, x_lcT, qT1_some, z_T2, z_T3, x_frT, qF1_some, sS_sl, qW_sl, sl_some, z_lm, q_lm, Bool.and_true, Bool.true_and, Bool.and_false, Bool.false_and, Bool.or_true, Bool.true_or, Bool.or_false, Bool.false_or, revD, pr_add, pr_sub, pr_mul, pr_fdiv, pr_mod, pr_pow, pr_neg, pr_item, pr_len, pr_abs, pr_max, pr_min, pr_toInt, pr_toList, pr_toTuple, pr_sum, pr_sorted, pr_repr, pr_all, pr_any, pr_divmod, pr_isi, pr_cmp, pr_cut, pr_rev, pr_lrg, pr_trg, sz0, sz1, sz2, sz3, sz4, sz5, sz6, sz7, sz8, sz9, sz10, sz11, sz12]
theorem R_minus {p q : Rat} (h : bq p + bq q ≤ 8000) : m_minus.run [frQ p, frQ q] = .ok (frQ (p - q)) false [] := by
  have h1 := bq_num p
  have h2 := bq_num q
  have h3 := bq_den p
  have h4 := bq_den q
  have h5 := bl_mul p.den q.den
  have hl := R_lowest (a := p.num * q.den - q.num * p.den) (b := p.den * q.den) (Int.mul_pos (den_pos p) (den_pos q)) (by omega)
  rw [← sub_nd] at hl
  simp only [m_minus, b_minus, io_lowest, at0Q, at1Q, o_mul (i := p.num) (j := q.den) (by omega), o_mul (i := q.num) (j := p.den) (by omega), o_mul (i := p.den) (j := q.den) (by omega), hl, x_runF, q_nx, q_rt, rep0, rep1, x_var, qV_im, qV_ow, x_rdS, sD_im, sD_ow, sD_io, sD_lk, x_canLk, sC_ow, sC_io, sC_im, sC_lk, sC_un, x_stSf, x_stSt, sS_un, sS_im, sS_ow, x_chS, sG_ow, sG_io, mOw_some, mIo_some, x_con, x_tup, x_lst, z_tup, z_lst, x_pr, z_pr, x_not, z_not, x_and, x_or, z_and, z_or, x_ite, z_ite, x_call, z_call, q_ok, lift2_some, x_callT, z_callT, q_okT, x_Anil, x_Bnil, x_Cnil, x_Acons, z_A, z_B, z_C, z_cons, x_Bvar, tB_some, z_var, x_Bpr, x_Bcon, x_Btup, x_Blst, x_Bcall, x_BcallT, x_Bnot, x_Bite, x_Blc, x_Cval, x_Cvar, tC_true, z_varC, t_not, t_and, t_or, t_cmp, t_var, t_call, t_isi, t_len, t_con, t_item, t_all, t_any, y_t, y_n, y_a, y_o, y_c, s_skip, s_seq, w_nx, s_set, w_set, s_put, w_put, w_put2, s_unp, w_unp, w_unpQ, w_ts0, w_tsn, w_tsi, w_ti, w_ts, s_par, w_par, w_par2, w_par3, w_par4, s_ex, w_ex, s_iff, w_if, s_whl, s_retv, q_rim, q_row, s_retpr, s_rettup, s_retlst, s_retcon, s_retcall, s_retnot, s_retand, s_retor, s_retite, s_retlc, w_ret, startE, bind_rt, bind_sexn, bind_bk, bind_ct, lift_some, go1_some, ob_some, om_some, Vm.cmpD, ordD, putI, outsE, contS, add_ii, subD, negD, absD, maxD, minD, lensD, len_l, len_t, truD, boolOf, intOf, ioIx, wb, isiD, isTy, toIntD, toListD, toTupleD, itemsOf, List.length_cons, List.length_nil, Int.reduceToNat, it0, it1, it2, it3, it4, it5, it6, ta0, ta1, ta2, eqL2, noneL1, isBL1, inL_l, inL_t, isNo_n, isNo_i, isNo_t, isNo_q, eqI, eqQ, eqSS, eq_self, decide_eq_true_eq, cut_a, cut_b, slc_l, slc_t, List.nil_append, List.cons_append, List.append_nil, List.getElem?_cons_zero, List.getElem?_cons_succ, List.set_cons_zero, List.set_cons_succ, List.set_nil, Option.isSome_some, if_true, if_false, reduceIte, reduceCtorEq, Nat.reduceSub, Nat.reduceAdd, Nat.reduceLT, decide_true, decide_false, Bool.not_true, Bool.not_false, Bool.false_eq_true, Nat.reduceEqDiff, List.nodup_nil, List.nodup_cons, List.not_mem_nil, not_false_eq_true, true_and, and_true, and_self, x_lc, z_lc2, q_lc, mw0, mw1, qW_un, qW_im, wp0, wp1, bk0, bk1, gd0, gd1, x_ofv, kWk_l, kWk_t, x_ofcall, x_ofcallT, x_ofpr, x_oftup, x_oflst, x_oflc, x_ofcon, z_of, walk_l, walk_t, x_rng1, x_rng2, z_rng2a, x_enum, x_enum2, x_zip, x_zip3, z_en, z_zp, z_zp3, s_frr, w_fr, ul_nx, ul_rt, ul0, lk0, ul1, lk1, x_lkS, x_ulS, qLk_ow, qLk_io, qUl_ow, qUl_io, srcs_ofv, srcs_ofcall, srcs_ofcallT, srcs_ofpr, srcs_oftup, srcs_oflst, srcs_oflc, srcs_ofcon, srcs_r1, srcs_r2, srcs_en, srcs_en2, srcs_zp, srcs_zp3, rv_nil, rv_var, rv_call, rv_pr, rv_con, rv_lc, rv_tup, rv_lst, fi0, fi1, g_nm, g_tp, g_nl, g_cn, w_kM, x_kM, x_lm, mOw_q, mIo_q, o_rev, o_clr, x_lcT, qT1_some, z_T2, z_T3, x_frT, qF1_some, sS_sl, qW_sl, sl_some, z_lm, q_lm, Bool.and_true, Bool.true_and, Bool.and_false, Bool.false_and, Bool.or_true, Bool.true_or, Bool.or_false, Bool.false_or, revD, pr_add, pr_sub, pr_mul, pr_fdiv, pr_mod, pr_pow, pr_neg, pr_item, pr_len, pr_abs, pr_max, pr_min, pr_toInt, pr_toList, pr_toTuple, pr_sum, pr_sorted, pr_repr, pr_all, pr_any, pr_divmod, pr_isi, pr_cmp, pr_cut, pr_rev, pr_lrg, pr_trg, sz0, sz1, sz2, sz3, sz4, sz5, sz6, sz7, sz8, sz9, sz10, sz11, sz12]
theorem R_times {p : Rat} {n : Int} (h : bq p + bl n ≤ 8000) : m_times.run [frQ p, .int n] = .ok (frQ (p * (n : Rat))) false [] := by
  have h1 := bq_num p
  have h3 := bq_den p
  have hl := R_lowest (a := p.num * n) (b := p.den) (den_pos p) (by omega)
  rw [← mul_nd] at hl
  simp only [m_times, b_times, io_lowest, at0Q, at1Q, o_mul (i := p.num) (j := n) (by omega), hl, x_runF, q_nx, q_rt, rep0, rep1, x_var, qV_im, qV_ow, x_rdS, sD_im, sD_ow, sD_io, sD_lk, x_canLk, sC_ow, sC_io, sC_im, sC_lk, sC_un, x_stSf, x_stSt, sS_un, sS_im, sS_ow, x_chS, sG_ow, sG_io, mOw_some, mIo_some, x_con, x_tup, x_lst, z_tup, z_lst, x_pr, z_pr, x_not, z_not, x_and, x_or, z_and, z_or, x_ite, z_ite, x_call, z_call, q_ok, lift2_some, x_callT, z_callT, q_okT, x_Anil, x_Bnil, x_Cnil, x_Acons, z_A, z_B, z_C, z_cons, x_Bvar, tB_some, z_var, x_Bpr, x_Bcon, x_Btup, x_Blst, x_Bcall, x_BcallT, x_Bnot, x_Bite, x_Blc, x_Cval, x_Cvar, tC_true, z_varC, t_not, t_and, t_or, t_cmp, t_var, t_call, t_isi, t_len, t_con, t_item, t_all, t_any, y_t, y_n, y_a, y_o, y_c, s_skip, s_seq, w_nx, s_set, w_set, s_put, w_put, w_put2, s_unp, w_unp, w_unpQ, w_ts0, w_tsn, w_tsi, w_ti, w_ts, s_par, w_par, w_par2, w_par3, w_par4, s_ex, w_ex, s_iff, w_if, s_whl, s_retv, q_rim, q_row, s_retpr, s_rettup, s_retlst, s_retcon, s_retcall, s_retnot, s_retand, s_retor, s_retite, s_retlc, w_ret, startE, bind_rt, bind_sexn, bind_bk, bind_ct, lift_some, go1_some, ob_some, om_some, Vm.cmpD, ordD, putI, outsE, contS, add_ii, subD, negD, absD, maxD, minD, lensD, len_l, len_t, truD, boolOf, intOf, ioIx, wb, isiD, isTy, toIntD, toListD, toTupleD, itemsOf, List.length_cons, List.length_nil, Int.reduceToNat, it0, it1, it2, it3, it4, it5, it6, ta0, ta1, ta2, eqL2, noneL1, isBL1, inL_l, inL_t, isNo_n, isNo_i, isNo_t, isNo_q, eqI, eqQ, eqSS, eq_self, decide_eq_true_eq, cut_a, cut_b, slc_l, slc_t, List.nil_append, List.cons_append, List.append_nil, List.getElem?_cons_zero, List.getElem?_cons_succ, List.set_cons_zero, List.set_cons_succ, List.set_nil, Option.isSome_some, if_true, if_false, reduceIte, reduceCtorEq, Nat.reduceSub, Nat.reduceAdd, Nat.reduceLT, decide_true, decide_false, Bool.not_true, Bool.not_false, Bool.false_eq_true, Nat.reduceEqDiff, List.nodup_nil, List.nodup_cons, List.not_mem_nil, not_false_eq_true, true_and, and_true, and_self, x_lc, z_lc2, q_lc, mw0, mw1, qW_un, qW_im, wp0, wp1, bk0, bk1, gd0, gd1, x_ofv, kWk_l, kWk_t, x_ofcall, x_ofcallT, x_ofpr, x_oftup, x_oflst, x_oflc, x_ofcon, z_of, walk_l, walk_t, x_rng1, x_rng2, z_rng2a, x_enum, x_enum2, x_zip, x_zip3, z_en, z_zp, z_zp3, s_frr, w_fr, ul_nx, ul_rt, ul0, lk0, ul1, lk1, x_lkS, x_ulS, qLk_ow, qLk_io, qUl_ow, qUl_io, srcs_ofv, srcs_ofcall, srcs_ofcallT, srcs_ofpr, srcs_oftup, srcs_oflst, srcs_oflc, srcs_ofcon, srcs_r1, srcs_r2, srcs_en, srcs_en2, srcs_zp, srcs_zp3, rv_nil, rv_var, rv_call, rv_pr, rv_con, rv_lc, rv_tup, rv_lst, fi0, fi1, g_nm, g_tp, g_nl, g_cn, w_kM, x_kM, x_lm, mOw_q, mIo_q, o_rev, o_clr, x_lcT, qT1_some, z_T2, z_T3, x_frT, qF1_some, sS_sl, qW_sl, sl_some, z_lm, q_lm, Bool.and_true, Bool.true_and, Bool.and_false, Bool.false_and, Bool.or_true, Bool.true_or, Bool.or_false, Bool.false_or, revD, pr_add, pr_sub, pr_mul, pr_fdiv, pr_mod, pr_pow, pr_neg, pr_item, pr_len, pr_abs, pr_max, pr_min, pr_toInt, pr_toList, pr_toTuple, pr_sum, pr_sorted, pr_repr, pr_all, pr_any, pr_divmod, pr_isi, pr_cmp, pr_cut, pr_rev, pr_lrg, pr_trg, sz0, sz1, sz2, sz3, sz4, sz5, sz6, sz7, sz8, sz9, sz10, sz11, sz12]
theorem R_is_less {p q : Rat} (h : bq p + bq q ≤ 134217728) : m_is_less.run [frQ p, frQ q] = .ok (.bool (decide (p < q))) false [] := by
  have h1 := bq_num p
  have h2 := bq_num q
  have h3 := bq_den p
  have h4 := bq_den q
  simp only [m_is_less, b_is_less, at0Q, at1Q, o_mul (i := p.num) (j := q.den) (by omega), o_mul (i := q.num) (j := p.den) (by omega), ltQ, x_runF, q_nx, q_rt, rep0, rep1, x_var, qV_im, qV_ow, x_rdS, sD_im, sD_ow, sD_io, sD_lk, x_canLk, sC_ow, sC_io, sC_im, sC_lk, sC_un, x_stSf, x_stSt, sS_un, sS_im, sS_ow, x_chS, sG_ow, sG_io, mOw_some, mIo_some, x_con, x_tup, x_lst, z_tup, z_lst, x_pr, z_pr, x_not, z_not, x_and, x_or, z_and, z_or, x_ite, z_ite, x_call, z_call, q_ok, lift2_some, x_callT, z_callT, q_okT, x_Anil, x_Bnil, x_Cnil, x_Acons, z_A, z_B, z_C, z_cons, x_Bvar, tB_some, z_var, x_Bpr, x_Bcon, x_Btup, x_Blst, x_Bcall, x_BcallT, x_Bnot, x_Bite, x_Blc, x_Cval, x_Cvar, tC_true, z_varC, t_not, t_and, t_or, t_cmp, t_var, t_call, t_isi, t_len, t_con, t_item, t_all, t_any, y_t, y_n, y_a, y_o, y_c, s_skip, s_seq, w_nx, s_set, w_set, s_put, w_put, w_put2, s_unp, w_unp, w_unpQ, w_ts0, w_tsn, w_tsi, w_ti, w_ts, s_par, w_par, w_par2, w_par3, w_par4, s_ex, w_ex, s_iff, w_if, s_whl, s_retv, q_rim, q_row, s_retpr, s_rettup, s_retlst, s_retcon, s_retcall, s_retnot, s_retand, s_retor, s_retite, s_retlc, w_ret, startE, bind_rt, bind_sexn, bind_bk, bind_ct, lift_some, go1_some, ob_some, om_some, Vm.cmpD, ordD, putI, outsE, contS, add_ii, subD, negD, absD, maxD, minD, lensD, len_l, len_t, truD, boolOf, intOf, ioIx, wb, isiD, isTy, toIntD, toListD, toTupleD, itemsOf, List.length_cons, List.length_nil, Int.reduceToNat, it0, it1, it2, it3, it4, it5, it6, ta0, ta1, ta2, eqL2, noneL1, isBL1, inL_l, inL_t, isNo_n, isNo_i, isNo_t, isNo_q, eqI, eqQ, eqSS, eq_self, decide_eq_true_eq, cut_a, cut_b, slc_l, slc_t, List.nil_append, List.cons_append, List.append_nil, List.getElem?_cons_zero, List.getElem?_cons_succ, List.set_cons_zero, List.set_cons_succ, List.set_nil, Option.isSome_some, if_true, if_false, reduceIte, reduceCtorEq, Nat.reduceSub, Nat.reduceAdd, Nat.reduceLT, decide_true, decide_false, Bool.not_true, Bool.not_false, Bool.false_eq_true, Nat.reduceEqDiff, List.nodup_nil, List.nodup_cons, List.not_mem_nil, not_false_eq_true, true_and, and_true, and_self, x_lc, z_lc2, q_lc, mw0, mw1, qW_un, qW_im, wp0, wp1, bk0, bk1, gd0, gd1, x_ofv, kWk_l, kWk_t, x_ofcall, x_ofcallT, x_ofpr, x_oftup, x_oflst, x_oflc, x_ofcon, z_of, walk_l, walk_t, x_rng1, x_rng2, z_rng2a, x_enum, x_enum2, x_zip, x_zip3, z_en, z_zp, z_zp3, s_frr, w_fr, ul_nx, ul_rt, ul0, lk0, ul1, lk1, x_lkS, x_ulS, qLk_ow, qLk_io, qUl_ow, qUl_io, srcs_ofv, srcs_ofcall, srcs_ofcallT, srcs_ofpr, srcs_oftup, srcs_oflst, srcs_oflc, srcs_ofcon, srcs_r1, srcs_r2, srcs_en, srcs_en2, srcs_zp, srcs_zp3, rv_nil, rv_var, rv_call, rv_pr, rv_con, rv_lc, rv_tup, rv_lst, fi0, fi1, g_nm, g_tp, g_nl, g_cn, w_kM, x_kM, x_lm, mOw_q, mIo_q, o_rev, o_clr, x_lcT, qT1_some, z_T2, z_T3, x_frT, qF1_some, sS_sl, qW_sl, sl_some, z_lm, q_lm, Bool.and_true, Bool.true_and, Bool.and_false, Bool.false_and, Bool.or_true, Bool.true_or, Bool.or_false, Bool.false_or, revD, pr_add, pr_sub, pr_mul, pr_fdiv, pr_mod, pr_pow, pr_neg, pr_item, pr_len, pr_abs, pr_max, pr_min, pr_toInt, pr_toList, pr_toTuple, pr_sum, pr_sorted, pr_repr, pr_all, pr_any, pr_divmod, pr_isi, pr_cmp, pr_cut, pr_rev, pr_lrg, pr_trg, sz0, sz1, sz2, sz3, sz4, sz5, sz6, sz7, sz8, sz9, sz10, sz11, sz12]
theorem num_neg {q : Rat} : q.num < 0 ↔ q < 0 := by
  rw [← ltQ]
  simp
theorem abs_frQ (q : Rat) : (PyData.tuple [.int (q.num.natAbs : Int), .int q.den] : D) = frQ (if q < 0 then -q else q) := by
  by_cases h : q < 0
  · rw [if_pos h]
    have : q.num < 0 := num_neg.mpr h
    unfold frQ
    rw [show ((q.num.natAbs : Nat) : Int) = -q.num by omega]
    rfl
  · rw [if_neg h]
    have : ¬ q.num < 0 := fun z => h (num_neg.mp z)
    unfold frQ
    rw [show ((q.num.natAbs : Nat) : Int) = q.num by omega]
theorem R_size {q : Rat} : m_size.run [frQ q] = .ok (frQ (if q < 0 then -q else q)) false [] := by
  rw [← abs_frQ]
  simp only [m_size, b_size, at0Q, at1Q, abs_nat, x_runF, q_nx, q_rt, rep0, rep1, x_var, qV_im, qV_ow, x_rdS, sD_im, sD_ow, sD_io, sD_lk, x_canLk, sC_ow, sC_io, sC_im, sC_lk, sC_un, x_stSf, x_stSt, sS_un, sS_im, sS_ow, x_chS, sG_ow, sG_io, mOw_some, mIo_some, x_con, x_tup, x_lst, z_tup, z_lst, x_pr, z_pr, x_not, z_not, x_and, x_or, z_and, z_or, x_ite, z_ite, x_call, z_call, q_ok, lift2_some, x_callT, z_callT, q_okT, x_Anil, x_Bnil, x_Cnil, x_Acons, z_A, z_B, z_C, z_cons, x_Bvar, tB_some, z_var, x_Bpr, x_Bcon, x_Btup, x_Blst, x_Bcall, x_BcallT, x_Bnot, x_Bite, x_Blc, x_Cval, x_Cvar, tC_true, z_varC, t_not, t_and, t_or, t_cmp, t_var, t_call, t_isi, t_len, t_con, t_item, t_all, t_any, y_t, y_n, y_a, y_o, y_c, s_skip, s_seq, w_nx, s_set, w_set, s_put, w_put, w_put2, s_unp, w_unp, w_unpQ, w_ts0, w_tsn, w_tsi, w_ti, w_ts, s_par, w_par, w_par2, w_par3, w_par4, s_ex, w_ex, s_iff, w_if, s_whl, s_retv, q_rim, q_row, s_retpr, s_rettup, s_retlst, s_retcon, s_retcall, s_retnot, s_retand, s_retor, s_retite, s_retlc, w_ret, startE, bind_rt, bind_sexn, bind_bk, bind_ct, lift_some, go1_some, ob_some, om_some, Vm.cmpD, ordD, putI, outsE, contS, add_ii, subD, negD, absD, maxD, minD, lensD, len_l, len_t, truD, boolOf, intOf, ioIx, wb, isiD, isTy, toIntD, toListD, toTupleD, itemsOf, List.length_cons, List.length_nil, Int.reduceToNat, it0, it1, it2, it3, it4, it5, it6, ta0, ta1, ta2, eqL2, noneL1, isBL1, inL_l, inL_t, isNo_n, isNo_i, isNo_t, isNo_q, eqI, eqQ, eqSS, eq_self, decide_eq_true_eq, cut_a, cut_b, slc_l, slc_t, List.nil_append, List.cons_append, List.append_nil, List.getElem?_cons_zero, List.getElem?_cons_succ, List.set_cons_zero, List.set_cons_succ, List.set_nil, Option.isSome_some, if_true, if_false, reduceIte, reduceCtorEq, Nat.reduceSub, Nat.reduceAdd, Nat.reduceLT, decide_true, decide_false, Bool.not_true, Bool.not_false, Bool.false_eq_true, Nat.reduceEqDiff, List.nodup_nil, List.nodup_cons, List.not_mem_nil, not_false_eq_true, true_and, and_true, and_self, x_lc, z_lc2, q_lc, mw0, mw1, qW_un, qW_im, wp0, wp1, bk0, bk1, gd0, gd1, x_ofv, kWk_l, kWk_t, x_ofcall, x_ofcallT, x_ofpr, x_oftup, x_oflst, x_oflc, x_ofcon, z_of, walk_l, walk_t, x_rng1, x_rng2, z_rng2a, x_enum, x_enum2, x_zip, x_zip3, z_en, z_zp, z_zp3, s_frr, w_fr, ul_nx, ul_rt, ul0, lk0, ul1, lk1, x_lkS, x_ulS, qLk_ow, qLk_io, qUl_ow, qUl_io, srcs_ofv, srcs_ofcall, srcs_ofcallT, srcs_ofpr, srcs_oftup, srcs_oflst, srcs_oflc, srcs_ofcon, srcs_r1, srcs_r2, srcs_en, srcs_en2, srcs_zp, srcs_zp3, rv_nil, rv_var, rv_call, rv_pr, rv_con, rv_lc, rv_tup, rv_lst, fi0, fi1, g_nm, g_tp, g_nl, g_cn, w_kM, x_kM, x_lm, mOw_q, mIo_q, o_rev, o_clr, x_lcT, qT1_some, z_T2, z_T3, x_frT, qF1_some, sS_sl, qW_sl, sl_some, z_lm, q_lm, Bool.and_true, Bool.true_and, Bool.and_false, Bool.false_and, Bool.or_true, Bool.true_or, Bool.or_false, Bool.false_or, revD, pr_add, pr_sub, pr_mul, pr_fdiv, pr_mod, pr_pow, pr_neg, pr_item, pr_len, pr_abs, pr_max, pr_min, pr_toInt, pr_toList, pr_toTuple, pr_sum, pr_sorted, pr_repr, pr_all, pr_any, pr_divmod, pr_isi, pr_cmp, pr_cut, pr_rev, pr_lrg, pr_trg, sz0, sz1, sz2, sz3, sz4, sz5, sz6, sz7, sz8, sz9, sz10, sz11, sz12]
end Lb
/-! L2: the laws' own draws and sums -/
namespace Lb
open PySem PySem.Spec PyProof.Rows L2 Vm
structure Pot where
  a : Int
  b : Int
  ha : 0 ≤ a
  hb : 0 ≤ b
  hb2 : b ≤ 4294967296
def PD (p : Pot) : D := .list [.int p.a, .int p.b]
theorem at0 {a b : D} : itemD [.list [a, b], .int 0] = some (a, false) := rfl
theorem at1 {a b : D} : itemD [.list [a, b], .int 1] = some (b, false) := rfl
theorem ix0 : ixN 2 0 = some 0 := by rfl
theorem ix1 : ixN 2 1 = some 1 := by rfl
theorem o_pow {i j : Int} (h : powOk i j = true) : powD [.int i, .int j] = some (.int (i ^ j.toNat), false) := by
  show (if powOk i j then some (PyData.int (i ^ j.toNat), false) else none) = _
  rw [if_pos h]
/- _law_digit: 0 _law_pot_here, 1 _law_many, 2 _law_digit_here -/
noncomputable def b__law_digit : S := .seq (.iff (.pr (.cmp .gt) (.cons (.pr .item (.cons (.var 0) (.cons (.con (.int 0)) (.nil)))) (.cons (.con (.int 0)) (.nil)))) (.seq (.unp [.ix 0 (.con (.int 0)), .nm 2] (.pr .divmod (.cons (.pr .item (.cons (.var 0) (.cons (.con (.int 0)) (.nil)))) (.cons (.var 1) (.nil))))) (.ret (.var 2))) (.skip)) (.seq (.put 0 (.con (.int 1)) (.pr .mod (.cons (.pr .add (.cons (.pr .mul (.cons (.pr .item (.cons (.var 0) (.cons (.con (.int 1)) (.nil)))) (.cons (.con (.int 45763)) (.nil)))) (.cons (.con (.int 10061)) (.nil)))) (.cons (.con (.int 2147483563)) (.nil))))) (.ret (.pr .mod (.cons (.pr .fdiv (.cons (.pr .mod (.cons (.pr .mul (.cons (.pr .item (.cons (.var 0) (.cons (.con (.int 1)) (.nil)))) (.cons (.pr .item (.cons (.var 0) (.cons (.con (.int 1)) (.nil)))) (.nil)))) (.cons (.con (.int 2147483477)) (.nil)))) (.cons (.con (.int 7)) (.nil)))) (.cons (.var 1) (.nil))))))
noncomputable def m__law_digit : Fm := ⟨[true, false], runF [true, false] 3 b__law_digit⟩
theorem io__law_digit : m__law_digit.io = [true, false] := rfl
theorem R_digit (p : Pot) {n : Int} (hn : 0 < n) (hz : bl n ≤ 8000) : ∃ d p', m__law_digit.run [PD p, .int n] = .ok (.int d) false [PD p'] ∧ 0 ≤ d ∧ d < n := by
  obtain ⟨a, b, ha, hb, hb2⟩ := p
  have bb : bl b ≤ 40 := bl_le 40 (by omega) (by omega)
  have bc : bl ((b * 45763 + 10061) % 2147483563) ≤ 40 := bl_le 40 (by omega) (by omega)
  have b1 : bl 45763 ≤ 40 := bl_le 40 (by decide) (by decide)
  have b7 : bl 7 ≤ 40 := bl_le 40 (by decide) (by decide)
  by_cases h : 0 < a
  · refine ⟨a % n, ⟨a / n, b, Int.ediv_nonneg ha (by omega), hb, hb2⟩, ?_, Int.emod_nonneg _ (by omega), Int.emod_lt_of_pos _ hn⟩
    simp only [PD, m__law_digit, b__law_digit, h, at0, at1, ix0, ix1, o_divmod hn hz, x_runF, q_nx, q_rt, rep0, rep1, x_var, qV_im, qV_ow, x_rdS, sD_im, sD_ow, sD_io, sD_lk, x_canLk, sC_ow, sC_io, sC_im, sC_lk, sC_un, x_stSf, x_stSt, sS_un, sS_im, sS_ow, x_chS, sG_ow, sG_io, mOw_some, mIo_some, x_con, x_tup, x_lst, z_tup, z_lst, x_pr, z_pr, x_not, z_not, x_and, x_or, z_and, z_or, x_ite, z_ite, x_call, z_call, q_ok, lift2_some, x_callT, z_callT, q_okT, x_Anil, x_Bnil, x_Cnil, x_Acons, z_A, z_B, z_C, z_cons, x_Bvar, tB_some, z_var, x_Bpr, x_Bcon, x_Btup, x_Blst, x_Bcall, x_BcallT, x_Bnot, x_Bite, x_Blc, x_Cval, x_Cvar, tC_true, z_varC, t_not, t_and, t_or, t_cmp, t_var, t_call, t_isi, t_len, t_con, t_item, t_all, t_any, y_t, y_n, y_a, y_o, y_c, s_skip, s_seq, w_nx, s_set, w_set, s_put, w_put, w_put2, s_unp, w_unp, w_unpQ, w_ts0, w_tsn, w_tsi, w_ti, w_ts, s_par, w_par, w_par2, w_par3, w_par4, s_ex, w_ex, s_iff, w_if, s_whl, s_retv, q_rim, q_row, s_retpr, s_rettup, s_retlst, s_retcon, s_retcall, s_retnot, s_retand, s_retor, s_retite, s_retlc, w_ret, startE, bind_rt, bind_sexn, bind_bk, bind_ct, lift_some, go1_some, ob_some, om_some, Vm.cmpD, ordD, putI, outsE, contS, add_ii, subD, negD, absD, maxD, minD, lensD, len_l, len_t, truD, boolOf, intOf, ioIx, wb, isiD, isTy, toIntD, toListD, toTupleD, itemsOf, List.length_cons, List.length_nil, Int.reduceToNat, it0, it1, it2, it3, it4, it5, it6, ta0, ta1, ta2, eqL2, noneL1, isBL1, inL_l, inL_t, isNo_n, isNo_i, isNo_t, isNo_q, eqI, eqQ, eqSS, eq_self, decide_eq_true_eq, cut_a, cut_b, slc_l, slc_t, List.nil_append, List.cons_append, List.append_nil, List.getElem?_cons_zero, List.getElem?_cons_succ, List.set_cons_zero, List.set_cons_succ, List.set_nil, Option.isSome_some, if_true, if_false, reduceIte, reduceCtorEq, Nat.reduceSub, Nat.reduceAdd, Nat.reduceLT, decide_true, decide_false, Bool.not_true, Bool.not_false, Bool.false_eq_true, Nat.reduceEqDiff, List.nodup_nil, List.nodup_cons, List.not_mem_nil, not_false_eq_true, true_and, and_true, and_self, x_lc, z_lc2, q_lc, mw0, mw1, qW_un, qW_im, wp0, wp1, bk0, bk1, gd0, gd1, x_ofv, kWk_l, kWk_t, x_ofcall, x_ofcallT, x_ofpr, x_oftup, x_oflst, x_oflc, x_ofcon, z_of, walk_l, walk_t, x_rng1, x_rng2, z_rng2a, x_enum, x_enum2, x_zip, x_zip3, z_en, z_zp, z_zp3, s_frr, w_fr, ul_nx, ul_rt, ul0, lk0, ul1, lk1, x_lkS, x_ulS, qLk_ow, qLk_io, qUl_ow, qUl_io, srcs_ofv, srcs_ofcall, srcs_ofcallT, srcs_ofpr, srcs_oftup, srcs_oflst, srcs_oflc, srcs_ofcon, srcs_r1, srcs_r2, srcs_en, srcs_en2, srcs_zp, srcs_zp3, rv_nil, rv_var, rv_call, rv_pr, rv_con, rv_lc, rv_tup, rv_lst, fi0, fi1, g_nm, g_tp, g_nl, g_cn, w_kM, x_kM, x_lm, mOw_q, mIo_q, o_rev, o_clr, x_lcT, qT1_some, z_T2, z_T3, x_frT, qF1_some, sS_sl, qW_sl, sl_some, z_lm, q_lm, Bool.and_true, Bool.true_and, Bool.and_false, Bool.false_and, Bool.or_true, Bool.true_or, Bool.or_false, Bool.false_or, revD, pr_add, pr_sub, pr_mul, pr_fdiv, pr_mod, pr_pow, pr_neg, pr_item, pr_len, pr_abs, pr_max, pr_min, pr_toInt, pr_toList, pr_toTuple, pr_sum, pr_sorted, pr_repr, pr_all, pr_any, pr_divmod, pr_isi, pr_cmp, pr_cut, pr_rev, pr_lrg, pr_trg, sz0, sz1, sz2, sz3, sz4, sz5, sz6, sz7, sz8, sz9, sz10, sz11, sz12]
  · refine ⟨(b * 45763 + 10061) % 2147483563 * ((b * 45763 + 10061) % 2147483563) % 2147483477 / 7 % n, ⟨a, (b * 45763 + 10061) % 2147483563, ha, by omega, by omega⟩, ?_, Int.emod_nonneg _ (by omega), Int.emod_lt_of_pos _ hn⟩
    simp only [PD, m__law_digit, b__law_digit, h, at0, at1, ix0, ix1, o_mul (i := b) (j := 45763) (by omega), o_mod (j := 2147483563) (by decide), o_mul (i := (b * 45763 + 10061) % 2147483563) (j := (b * 45763 + 10061) % 2147483563) (by omega), o_mod (j := 2147483477) (by decide), o_fdiv (j := 7) (by decide) (by omega), o_mod hn, x_runF, q_nx, q_rt, rep0, rep1, x_var, qV_im, qV_ow, x_rdS, sD_im, sD_ow, sD_io, sD_lk, x_canLk, sC_ow, sC_io, sC_im, sC_lk, sC_un, x_stSf, x_stSt, sS_un, sS_im, sS_ow, x_chS, sG_ow, sG_io, mOw_some, mIo_some, x_con, x_tup, x_lst, z_tup, z_lst, x_pr, z_pr, x_not, z_not, x_and, x_or, z_and, z_or, x_ite, z_ite, x_call, z_call, q_ok, lift2_some, x_callT, z_callT, q_okT, x_Anil, x_Bnil, x_Cnil, x_Acons, z_A, z_B, z_C, z_cons, x_Bvar, tB_some, z_var, x_Bpr, x_Bcon, x_Btup, x_Blst, x_Bcall, x_BcallT, x_Bnot, x_Bite, x_Blc, x_Cval, x_Cvar, tC_true, z_varC, t_not, t_and, t_or, t_cmp, t_var, t_call, t_isi, t_len, t_con, t_item, t_all, t_any, y_t, y_n, y_a, y_o, y_c, s_skip, s_seq, w_nx, s_set, w_set, s_put, w_put, w_put2, s_unp, w_unp, w_unpQ, w_ts0, w_tsn, w_tsi, w_ti, w_ts, s_par, w_par, w_par2, w_par3, w_par4, s_ex, w_ex, s_iff, w_if, s_whl, s_retv, q_rim, q_row, s_retpr, s_rettup, s_retlst, s_retcon, s_retcall, s_retnot, s_retand, s_retor, s_retite, s_retlc, w_ret, startE, bind_rt, bind_sexn, bind_bk, bind_ct, lift_some, go1_some, ob_some, om_some, Vm.cmpD, ordD, putI, outsE, contS, add_ii, subD, negD, absD, maxD, minD, lensD, len_l, len_t, truD, boolOf, intOf, ioIx, wb, isiD, isTy, toIntD, toListD, toTupleD, itemsOf, List.length_cons, List.length_nil, Int.reduceToNat, it0, it1, it2, it3, it4, it5, it6, ta0, ta1, ta2, eqL2, noneL1, isBL1, inL_l, inL_t, isNo_n, isNo_i, isNo_t, isNo_q, eqI, eqQ, eqSS, eq_self, decide_eq_true_eq, cut_a, cut_b, slc_l, slc_t, List.nil_append, List.cons_append, List.append_nil, List.getElem?_cons_zero, List.getElem?_cons_succ, List.set_cons_zero, List.set_cons_succ, List.set_nil, Option.isSome_some, if_true, if_false, reduceIte, reduceCtorEq, Nat.reduceSub, Nat.reduceAdd, Nat.reduceLT, decide_true, decide_false, Bool.not_true, Bool.not_false, Bool.false_eq_true, Nat.reduceEqDiff, List.nodup_nil, List.nodup_cons, List.not_mem_nil, not_false_eq_true, true_and, and_true, and_self, x_lc, z_lc2, q_lc, mw0, mw1, qW_un, qW_im, wp0, wp1, bk0, bk1, gd0, gd1, x_ofv, kWk_l, kWk_t, x_ofcall, x_ofcallT, x_ofpr, x_oftup, x_oflst, x_oflc, x_ofcon, z_of, walk_l, walk_t, x_rng1, x_rng2, z_rng2a, x_enum, x_enum2, x_zip, x_zip3, z_en, z_zp, z_zp3, s_frr, w_fr, ul_nx, ul_rt, ul0, lk0, ul1, lk1, x_lkS, x_ulS, qLk_ow, qLk_io, qUl_ow, qUl_io, srcs_ofv, srcs_ofcall, srcs_ofcallT, srcs_ofpr, srcs_oftup, srcs_oflst, srcs_oflc, srcs_ofcon, srcs_r1, srcs_r2, srcs_en, srcs_en2, srcs_zp, srcs_zp3, rv_nil, rv_var, rv_call, rv_pr, rv_con, rv_lc, rv_tup, rv_lst, fi0, fi1, g_nm, g_tp, g_nl, g_cn, w_kM, x_kM, x_lm, mOw_q, mIo_q, o_rev, o_clr, x_lcT, qT1_some, z_T2, z_T3, x_frT, qF1_some, sS_sl, qW_sl, sl_some, z_lm, q_lm, Bool.and_true, Bool.true_and, Bool.and_false, Bool.false_and, Bool.or_true, Bool.true_or, Bool.or_false, Bool.false_or, revD, pr_add, pr_sub, pr_mul, pr_fdiv, pr_mod, pr_pow, pr_neg, pr_item, pr_len, pr_abs, pr_max, pr_min, pr_toInt, pr_toList, pr_toTuple, pr_sum, pr_sorted, pr_repr, pr_all, pr_any, pr_divmod, pr_isi, pr_cmp, pr_cut, pr_rev, pr_lrg, pr_trg, sz0, sz1, sz2, sz3, sz4, sz5, sz6, sz7, sz8, sz9, sz10, sz11, sz12]
/- _law_pot: 0 _law_script, 1 _law_k, 2 _law_cell -/
noncomputable def b__law_pot : S := .seq (.set 2 (.con (.int 0))) (.seq (.iff (.pr (.cmp .lt) (.cons (.var 1) (.cons (.pr .len (.cons (.var 0) (.nil))) (.nil)))) (.set 2 (.pr .abs (.cons (.pr .item (.cons (.var 0) (.cons (.var 1) (.nil)))) (.nil)))) (.skip)) (.ret (.lst (.cons (.pr .max (.cons (.con (.int 0)) (.cons (.pr .sub (.cons (.var 2) (.cons (.pr .pow (.cons (.con (.int 10)) (.cons (.con (.int 18)) (.nil)))) (.nil)))) (.nil)))) (.cons (.pr .add (.cons (.pr .mod (.cons (.pr .pow (.cons (.pr .add (.cons (.pr .add (.cons (.pr .mod (.cons (.var 2) (.cons (.con (.int 2147483423)) (.nil)))) (.cons (.pr .mul (.cons (.con (.int 89)) (.cons (.var 1) (.nil)))) (.nil)))) (.cons (.con (.int 7)) (.nil)))) (.cons (.con (.int 2)) (.nil)))) (.cons (.con (.int 2147483399)) (.nil)))) (.cons (.con (.int 1)) (.nil)))) (.nil))))))
noncomputable def m__law_pot : Fm := ⟨[false, false], runF [false, false] 3 b__law_pot⟩
theorem io__law_pot : m__law_pot.io = [false, false] := rfl
theorem R_pot {ns : List Int} {k : Nat} (hk : k ≤ 64) : ∃ p, m__law_pot.run [.list (ns.map PyData.int), .int k] = .ok (PD p) true [] := by
  have b1 : bl 89 ≤ 40 := bl_le 40 (by decide) (by decide)
  have b2 : bl (k : Int) ≤ 40 := bl_le 40 (by omega) (by omega)
  have p2 : ∀ c : Int, powOk (c % 2147483423 + 89 * k + 7) 2 = true := fun c => by
    unfold powOk
    have h1 : (c % 2147483423 + 89 * (k : Int) + 7).natAbs < 2 ^ 64 := by omega
    simp [h1]
  have pot : ∀ c : Int, ∃ p : Pot, (PyData.list [.int (if c - 10 ^ 18 > 0 then c - 10 ^ 18 else 0), .int ((c % 2147483423 + 89 * k + 7) ^ 2 % 2147483399 + 1)] : D) = PD p := fun c => by
    have h0 : 0 ≤ (if c - 10 ^ 18 > 0 then c - 10 ^ 18 else 0) := by split <;> omega
    have h1 := Int.emod_nonneg ((c % 2147483423 + 89 * (k : Int) + 7) ^ 2) (b := 2147483399) (by decide)
    have h2 := Int.emod_lt_of_pos ((c % 2147483423 + 89 * (k : Int) + 7) ^ 2) (b := 2147483399) (by decide)
    exact ⟨⟨_, _, h0, by omega, by omega⟩, rfl⟩
  have n18 : Int.toNat 18 = 18 := rfl
  have n2 : Int.toNat 2 = 2 := rfl
  by_cases h : k < ns.length
  · have at_ := atI_ints h
    have hl : ((k : Int) < (ns.length : Int)) := by omega
    obtain ⟨p, hp⟩ := pot (if ns.getD k 0 < 0 then -(ns.getD k 0) else ns.getD k 0)
    refine ⟨p, ?_⟩
    simp only [m__law_pot, b__law_pot, itemD, List.length_map, hl, at_, o_pow (i := 10) (j := 18) (by decide), o_pow (p2 _), o_mul (i := 89) (j := (k : Int)) (by omega), o_mod (j := 2147483423) (by decide), o_mod (j := 2147483399) (by decide), n18, n2, hp, x_runF, q_nx, q_rt, rep0, rep1, x_var, qV_im, qV_ow, x_rdS, sD_im, sD_ow, sD_io, sD_lk, x_canLk, sC_ow, sC_io, sC_im, sC_lk, sC_un, x_stSf, x_stSt, sS_un, sS_im, sS_ow, x_chS, sG_ow, sG_io, mOw_some, mIo_some, x_con, x_tup, x_lst, z_tup, z_lst, x_pr, z_pr, x_not, z_not, x_and, x_or, z_and, z_or, x_ite, z_ite, x_call, z_call, q_ok, lift2_some, x_callT, z_callT, q_okT, x_Anil, x_Bnil, x_Cnil, x_Acons, z_A, z_B, z_C, z_cons, x_Bvar, tB_some, z_var, x_Bpr, x_Bcon, x_Btup, x_Blst, x_Bcall, x_BcallT, x_Bnot, x_Bite, x_Blc, x_Cval, x_Cvar, tC_true, z_varC, t_not, t_and, t_or, t_cmp, t_var, t_call, t_isi, t_len, t_con, t_item, t_all, t_any, y_t, y_n, y_a, y_o, y_c, s_skip, s_seq, w_nx, s_set, w_set, s_put, w_put, w_put2, s_unp, w_unp, w_unpQ, w_ts0, w_tsn, w_tsi, w_ti, w_ts, s_par, w_par, w_par2, w_par3, w_par4, s_ex, w_ex, s_iff, w_if, s_whl, s_retv, q_rim, q_row, s_retpr, s_rettup, s_retlst, s_retcon, s_retcall, s_retnot, s_retand, s_retor, s_retite, s_retlc, w_ret, startE, bind_rt, bind_sexn, bind_bk, bind_ct, lift_some, go1_some, ob_some, om_some, Vm.cmpD, ordD, putI, outsE, contS, add_ii, subD, negD, absD, maxD, minD, lensD, len_l, len_t, truD, boolOf, intOf, ioIx, wb, isiD, isTy, toIntD, toListD, toTupleD, itemsOf, List.length_cons, List.length_nil, Int.reduceToNat, it0, it1, it2, it3, it4, it5, it6, ta0, ta1, ta2, eqL2, noneL1, isBL1, inL_l, inL_t, isNo_n, isNo_i, isNo_t, isNo_q, eqI, eqQ, eqSS, eq_self, decide_eq_true_eq, cut_a, cut_b, slc_l, slc_t, List.nil_append, List.cons_append, List.append_nil, List.getElem?_cons_zero, List.getElem?_cons_succ, List.set_cons_zero, List.set_cons_succ, List.set_nil, Option.isSome_some, if_true, if_false, reduceIte, reduceCtorEq, Nat.reduceSub, Nat.reduceAdd, Nat.reduceLT, decide_true, decide_false, Bool.not_true, Bool.not_false, Bool.false_eq_true, Nat.reduceEqDiff, List.nodup_nil, List.nodup_cons, List.not_mem_nil, not_false_eq_true, true_and, and_true, and_self, x_lc, z_lc2, q_lc, mw0, mw1, qW_un, qW_im, wp0, wp1, bk0, bk1, gd0, gd1, x_ofv, kWk_l, kWk_t, x_ofcall, x_ofcallT, x_ofpr, x_oftup, x_oflst, x_oflc, x_ofcon, z_of, walk_l, walk_t, x_rng1, x_rng2, z_rng2a, x_enum, x_enum2, x_zip, x_zip3, z_en, z_zp, z_zp3, s_frr, w_fr, ul_nx, ul_rt, ul0, lk0, ul1, lk1, x_lkS, x_ulS, qLk_ow, qLk_io, qUl_ow, qUl_io, srcs_ofv, srcs_ofcall, srcs_ofcallT, srcs_ofpr, srcs_oftup, srcs_oflst, srcs_oflc, srcs_ofcon, srcs_r1, srcs_r2, srcs_en, srcs_en2, srcs_zp, srcs_zp3, rv_nil, rv_var, rv_call, rv_pr, rv_con, rv_lc, rv_tup, rv_lst, fi0, fi1, g_nm, g_tp, g_nl, g_cn, w_kM, x_kM, x_lm, mOw_q, mIo_q, o_rev, o_clr, x_lcT, qT1_some, z_T2, z_T3, x_frT, qF1_some, sS_sl, qW_sl, sl_some, z_lm, q_lm, Bool.and_true, Bool.true_and, Bool.and_false, Bool.false_and, Bool.or_true, Bool.true_or, Bool.or_false, Bool.false_or, revD, pr_add, pr_sub, pr_mul, pr_fdiv, pr_mod, pr_pow, pr_neg, pr_item, pr_len, pr_abs, pr_max, pr_min, pr_toInt, pr_toList, pr_toTuple, pr_sum, pr_sorted, pr_repr, pr_all, pr_any, pr_divmod, pr_isi, pr_cmp, pr_cut, pr_rev, pr_lrg, pr_trg, sz0, sz1, sz2, sz3, sz4, sz5, sz6, sz7, sz8, sz9, sz10, sz11, sz12]
  · have hl : ¬ ((k : Int) < (ns.length : Int)) := by omega
    obtain ⟨p, hp⟩ := pot 0
    refine ⟨p, ?_⟩
    simp only [m__law_pot, b__law_pot, List.length_map, hl, o_pow (i := 10) (j := 18) (by decide), o_pow (p2 _), o_mul (i := 89) (j := (k : Int)) (by omega), o_mod (j := 2147483423) (by decide), o_mod (j := 2147483399) (by decide), n18, n2, hp, x_runF, q_nx, q_rt, rep0, rep1, x_var, qV_im, qV_ow, x_rdS, sD_im, sD_ow, sD_io, sD_lk, x_canLk, sC_ow, sC_io, sC_im, sC_lk, sC_un, x_stSf, x_stSt, sS_un, sS_im, sS_ow, x_chS, sG_ow, sG_io, mOw_some, mIo_some, x_con, x_tup, x_lst, z_tup, z_lst, x_pr, z_pr, x_not, z_not, x_and, x_or, z_and, z_or, x_ite, z_ite, x_call, z_call, q_ok, lift2_some, x_callT, z_callT, q_okT, x_Anil, x_Bnil, x_Cnil, x_Acons, z_A, z_B, z_C, z_cons, x_Bvar, tB_some, z_var, x_Bpr, x_Bcon, x_Btup, x_Blst, x_Bcall, x_BcallT, x_Bnot, x_Bite, x_Blc, x_Cval, x_Cvar, tC_true, z_varC, t_not, t_and, t_or, t_cmp, t_var, t_call, t_isi, t_len, t_con, t_item, t_all, t_any, y_t, y_n, y_a, y_o, y_c, s_skip, s_seq, w_nx, s_set, w_set, s_put, w_put, w_put2, s_unp, w_unp, w_unpQ, w_ts0, w_tsn, w_tsi, w_ti, w_ts, s_par, w_par, w_par2, w_par3, w_par4, s_ex, w_ex, s_iff, w_if, s_whl, s_retv, q_rim, q_row, s_retpr, s_rettup, s_retlst, s_retcon, s_retcall, s_retnot, s_retand, s_retor, s_retite, s_retlc, w_ret, startE, bind_rt, bind_sexn, bind_bk, bind_ct, lift_some, go1_some, ob_some, om_some, Vm.cmpD, ordD, putI, outsE, contS, add_ii, subD, negD, absD, maxD, minD, lensD, len_l, len_t, truD, boolOf, intOf, ioIx, wb, isiD, isTy, toIntD, toListD, toTupleD, itemsOf, List.length_cons, List.length_nil, Int.reduceToNat, it0, it1, it2, it3, it4, it5, it6, ta0, ta1, ta2, eqL2, noneL1, isBL1, inL_l, inL_t, isNo_n, isNo_i, isNo_t, isNo_q, eqI, eqQ, eqSS, eq_self, decide_eq_true_eq, cut_a, cut_b, slc_l, slc_t, List.nil_append, List.cons_append, List.append_nil, List.getElem?_cons_zero, List.getElem?_cons_succ, List.set_cons_zero, List.set_cons_succ, List.set_nil, Option.isSome_some, if_true, if_false, reduceIte, reduceCtorEq, Nat.reduceSub, Nat.reduceAdd, Nat.reduceLT, decide_true, decide_false, Bool.not_true, Bool.not_false, Bool.false_eq_true, Nat.reduceEqDiff, List.nodup_nil, List.nodup_cons, List.not_mem_nil, not_false_eq_true, true_and, and_true, and_self, x_lc, z_lc2, q_lc, mw0, mw1, qW_un, qW_im, wp0, wp1, bk0, bk1, gd0, gd1, x_ofv, kWk_l, kWk_t, x_ofcall, x_ofcallT, x_ofpr, x_oftup, x_oflst, x_oflc, x_ofcon, z_of, walk_l, walk_t, x_rng1, x_rng2, z_rng2a, x_enum, x_enum2, x_zip, x_zip3, z_en, z_zp, z_zp3, s_frr, w_fr, ul_nx, ul_rt, ul0, lk0, ul1, lk1, x_lkS, x_ulS, qLk_ow, qLk_io, qUl_ow, qUl_io, srcs_ofv, srcs_ofcall, srcs_ofcallT, srcs_ofpr, srcs_oftup, srcs_oflst, srcs_oflc, srcs_ofcon, srcs_r1, srcs_r2, srcs_en, srcs_en2, srcs_zp, srcs_zp3, rv_nil, rv_var, rv_call, rv_pr, rv_con, rv_lc, rv_tup, rv_lst, fi0, fi1, g_nm, g_tp, g_nl, g_cn, w_kM, x_kM, x_lm, mOw_q, mIo_q, o_rev, o_clr, x_lcT, qT1_some, z_T2, z_T3, x_frT, qF1_some, sS_sl, qW_sl, sl_some, z_lm, q_lm, Bool.and_true, Bool.true_and, Bool.and_false, Bool.false_and, Bool.or_true, Bool.true_or, Bool.or_false, Bool.false_or, revD, pr_add, pr_sub, pr_mul, pr_fdiv, pr_mod, pr_pow, pr_neg, pr_item, pr_len, pr_abs, pr_max, pr_min, pr_toInt, pr_toList, pr_toTuple, pr_sum, pr_sorted, pr_repr, pr_all, pr_any, pr_divmod, pr_isi, pr_cmp, pr_cut, pr_rev, pr_lrg, pr_trg, sz0, sz1, sz2, sz3, sz4, sz5, sz6, sz7, sz8, sz9, sz10, sz11, sz12]
/- _law_low: 0 _law_above, 1 _law_below, 2 _law_one_here, 3 _law_other -/
noncomputable def wc__law_low_0 : E := .pr (.cmp .gt) (.cons (.var 3) (.cons (.con (.int 0)) (.nil)))
noncomputable def wb__law_low_0 : S := .par 2 3 (.var 3) (.pr .mod (.cons (.var 2) (.cons (.var 3) (.nil))))
noncomputable def b__law_low : S := .seq (.par 2 3 (.pr .abs (.cons (.var 0) (.nil))) (.var 1)) (.seq (.whl wc__law_low_0 wb__law_low_0) (.ret (.tup (.cons (.pr .fdiv (.cons (.var 0) (.cons (.var 2) (.nil)))) (.cons (.pr .fdiv (.cons (.var 1) (.cons (.var 2) (.nil)))) (.nil))))))
noncomputable def m__law_low : Fm := ⟨[false, false], runF [false, false] 4 b__law_low⟩
theorem io__law_low : m__law_low.io = [false, false] := rfl
theorem step_low (x y : D) (a b : Nat) : ∀ n, b < n → ∃ k, whN (evT wc__law_low_0) (evS wb__law_low_0) k [.im x, .im y, .im (.int a), .im (.int b)] = .nx [.im x, .im y, .im (.int (Nat.gcd a b : Nat)), .im (.int 0)] := by
  intro n
  induction n generalizing a b with
  | zero => intro h; omega
  | succ n ih =>
    intro hb
    by_cases h : 0 < b
    · obtain ⟨k, hk⟩ := ih b (a % b) (by have := Nat.mod_lt a h; omega)
      refine ⟨k + 1, ?_⟩
      have hz : (0 : Int) < (b : Int) := by omega
      have em : ((a : Int) % (b : Int)) = ((a % b : Nat) : Int) := (Int.natCast_emod a b).symm
      rw [Nat.gcd_comm b (a % b), ← Nat.gcd_rec, Nat.gcd_comm] at hk
      rw [← hk]
      refine whN_t (e1 := [.im x, .im y, .im (.int a), .im (.int b)]) ?_ ?_
      · simp only [wc__law_low_0, hz, x_runF, q_nx, q_rt, rep0, rep1, x_var, qV_im, qV_ow, x_rdS, sD_im, sD_ow, sD_io, sD_lk, x_canLk, sC_ow, sC_io, sC_im, sC_lk, sC_un, x_stSf, x_stSt, sS_un, sS_im, sS_ow, x_chS, sG_ow, sG_io, mOw_some, mIo_some, x_con, x_tup, x_lst, z_tup, z_lst, x_pr, z_pr, x_not, z_not, x_and, x_or, z_and, z_or, x_ite, z_ite, x_call, z_call, q_ok, lift2_some, x_callT, z_callT, q_okT, x_Anil, x_Bnil, x_Cnil, x_Acons, z_A, z_B, z_C, z_cons, x_Bvar, tB_some, z_var, x_Bpr, x_Bcon, x_Btup, x_Blst, x_Bcall, x_BcallT, x_Bnot, x_Bite, x_Blc, x_Cval, x_Cvar, tC_true, z_varC, t_not, t_and, t_or, t_cmp, t_var, t_call, t_isi, t_len, t_con, t_item, t_all, t_any, y_t, y_n, y_a, y_o, y_c, s_skip, s_seq, w_nx, s_set, w_set, s_put, w_put, w_put2, s_unp, w_unp, w_unpQ, w_ts0, w_tsn, w_tsi, w_ti, w_ts, s_par, w_par, w_par2, w_par3, w_par4, s_ex, w_ex, s_iff, w_if, s_whl, s_retv, q_rim, q_row, s_retpr, s_rettup, s_retlst, s_retcon, s_retcall, s_retnot, s_retand, s_retor, s_retite, s_retlc, w_ret, startE, bind_rt, bind_sexn, bind_bk, bind_ct, lift_some, go1_some, ob_some, om_some, Vm.cmpD, ordD, putI, outsE, contS, add_ii, subD, negD, absD, maxD, minD, lensD, len_l, len_t, truD, boolOf, intOf, ioIx, wb, isiD, isTy, toIntD, toListD, toTupleD, itemsOf, List.length_cons, List.length_nil, Int.reduceToNat, it0, it1, it2, it3, it4, it5, it6, ta0, ta1, ta2, eqL2, noneL1, isBL1, inL_l, inL_t, isNo_n, isNo_i, isNo_t, isNo_q, eqI, eqQ, eqSS, eq_self, decide_eq_true_eq, cut_a, cut_b, slc_l, slc_t, List.nil_append, List.cons_append, List.append_nil, List.getElem?_cons_zero, List.getElem?_cons_succ, List.set_cons_zero, List.set_cons_succ, List.set_nil, Option.isSome_some, if_true, if_false, reduceIte, reduceCtorEq, Nat.reduceSub, Nat.reduceAdd, Nat.reduceLT, decide_true, decide_false, Bool.not_true, Bool.not_false, Bool.false_eq_true, Nat.reduceEqDiff, List.nodup_nil, List.nodup_cons, List.not_mem_nil, not_false_eq_true, true_and, and_true, and_self, x_lc, z_lc2, q_lc, mw0, mw1, qW_un, qW_im, wp0, wp1, bk0, bk1, gd0, gd1, x_ofv, kWk_l, kWk_t, x_ofcall, x_ofcallT, x_ofpr, x_oftup, x_oflst, x_oflc, x_ofcon, z_of, walk_l, walk_t, x_rng1, x_rng2, z_rng2a, x_enum, x_enum2, x_zip, x_zip3, z_en, z_zp, z_zp3, s_frr, w_fr, ul_nx, ul_rt, ul0, lk0, ul1, lk1, x_lkS, x_ulS, qLk_ow, qLk_io, qUl_ow, qUl_io, srcs_ofv, srcs_ofcall, srcs_ofcallT, srcs_ofpr, srcs_oftup, srcs_oflst, srcs_oflc, srcs_ofcon, srcs_r1, srcs_r2, srcs_en, srcs_en2, srcs_zp, srcs_zp3, rv_nil, rv_var, rv_call, rv_pr, rv_con, rv_lc, rv_tup, rv_lst, fi0, fi1, g_nm, g_tp, g_nl, g_cn, w_kM, x_kM, x_lm, mOw_q, mIo_q, o_rev, o_clr, x_lcT, qT1_some, z_T2, z_T3, x_frT, qF1_some, sS_sl, qW_sl, sl_some, z_lm, q_lm, Bool.and_true, Bool.true_and, Bool.and_false, Bool.false_and, Bool.or_true, Bool.true_or, Bool.or_false, Bool.false_or, revD, pr_add, pr_sub, pr_mul, pr_fdiv, pr_mod, pr_pow, pr_neg, pr_item, pr_len, pr_abs, pr_max, pr_min, pr_toInt, pr_toList, pr_toTuple, pr_sum, pr_sorted, pr_repr, pr_all, pr_any, pr_divmod, pr_isi, pr_cmp, pr_cut, pr_rev, pr_lrg, pr_trg, sz0, sz1, sz2, sz3, sz4, sz5, sz6, sz7, sz8, sz9, sz10, sz11, sz12]
      · simp only [wb__law_low_0, o_mod hz, em, x_runF, q_nx, q_rt, rep0, rep1, x_var, qV_im, qV_ow, x_rdS, sD_im, sD_ow, sD_io, sD_lk, x_canLk, sC_ow, sC_io, sC_im, sC_lk, sC_un, x_stSf, x_stSt, sS_un, sS_im, sS_ow, x_chS, sG_ow, sG_io, mOw_some, mIo_some, x_con, x_tup, x_lst, z_tup, z_lst, x_pr, z_pr, x_not, z_not, x_and, x_or, z_and, z_or, x_ite, z_ite, x_call, z_call, q_ok, lift2_some, x_callT, z_callT, q_okT, x_Anil, x_Bnil, x_Cnil, x_Acons, z_A, z_B, z_C, z_cons, x_Bvar, tB_some, z_var, x_Bpr, x_Bcon, x_Btup, x_Blst, x_Bcall, x_BcallT, x_Bnot, x_Bite, x_Blc, x_Cval, x_Cvar, tC_true, z_varC, t_not, t_and, t_or, t_cmp, t_var, t_call, t_isi, t_len, t_con, t_item, t_all, t_any, y_t, y_n, y_a, y_o, y_c, s_skip, s_seq, w_nx, s_set, w_set, s_put, w_put, w_put2, s_unp, w_unp, w_unpQ, w_ts0, w_tsn, w_tsi, w_ti, w_ts, s_par, w_par, w_par2, w_par3, w_par4, s_ex, w_ex, s_iff, w_if, s_whl, s_retv, q_rim, q_row, s_retpr, s_rettup, s_retlst, s_retcon, s_retcall, s_retnot, s_retand, s_retor, s_retite, s_retlc, w_ret, startE, bind_rt, bind_sexn, bind_bk, bind_ct, lift_some, go1_some, ob_some, om_some, Vm.cmpD, ordD, putI, outsE, contS, add_ii, subD, negD, absD, maxD, minD, lensD, len_l, len_t, truD, boolOf, intOf, ioIx, wb, isiD, isTy, toIntD, toListD, toTupleD, itemsOf, List.length_cons, List.length_nil, Int.reduceToNat, it0, it1, it2, it3, it4, it5, it6, ta0, ta1, ta2, eqL2, noneL1, isBL1, inL_l, inL_t, isNo_n, isNo_i, isNo_t, isNo_q, eqI, eqQ, eqSS, eq_self, decide_eq_true_eq, cut_a, cut_b, slc_l, slc_t, List.nil_append, List.cons_append, List.append_nil, List.getElem?_cons_zero, List.getElem?_cons_succ, List.set_cons_zero, List.set_cons_succ, List.set_nil, Option.isSome_some, if_true, if_false, reduceIte, reduceCtorEq, Nat.reduceSub, Nat.reduceAdd, Nat.reduceLT, decide_true, decide_false, Bool.not_true, Bool.not_false, Bool.false_eq_true, Nat.reduceEqDiff, List.nodup_nil, List.nodup_cons, List.not_mem_nil, not_false_eq_true, true_and, and_true, and_self, x_lc, z_lc2, q_lc, mw0, mw1, qW_un, qW_im, wp0, wp1, bk0, bk1, gd0, gd1, x_ofv, kWk_l, kWk_t, x_ofcall, x_ofcallT, x_ofpr, x_oftup, x_oflst, x_oflc, x_ofcon, z_of, walk_l, walk_t, x_rng1, x_rng2, z_rng2a, x_enum, x_enum2, x_zip, x_zip3, z_en, z_zp, z_zp3, s_frr, w_fr, ul_nx, ul_rt, ul0, lk0, ul1, lk1, x_lkS, x_ulS, qLk_ow, qLk_io, qUl_ow, qUl_io, srcs_ofv, srcs_ofcall, srcs_ofcallT, srcs_ofpr, srcs_oftup, srcs_oflst, srcs_oflc, srcs_ofcon, srcs_r1, srcs_r2, srcs_en, srcs_en2, srcs_zp, srcs_zp3, rv_nil, rv_var, rv_call, rv_pr, rv_con, rv_lc, rv_tup, rv_lst, fi0, fi1, g_nm, g_tp, g_nl, g_cn, w_kM, x_kM, x_lm, mOw_q, mIo_q, o_rev, o_clr, x_lcT, qT1_some, z_T2, z_T3, x_frT, qF1_some, sS_sl, qW_sl, sl_some, z_lm, q_lm, Bool.and_true, Bool.true_and, Bool.and_false, Bool.false_and, Bool.or_true, Bool.true_or, Bool.or_false, Bool.false_or, revD, pr_add, pr_sub, pr_mul, pr_fdiv, pr_mod, pr_pow, pr_neg, pr_item, pr_len, pr_abs, pr_max, pr_min, pr_toInt, pr_toList, pr_toTuple, pr_sum, pr_sorted, pr_repr, pr_all, pr_any, pr_divmod, pr_isi, pr_cmp, pr_cut, pr_rev, pr_lrg, pr_trg, sz0, sz1, sz2, sz3, sz4, sz5, sz6, sz7, sz8, sz9, sz10, sz11, sz12]
    · have e : b = 0 := by omega
      subst e
      refine ⟨1, ?_⟩
      refine (whN_f (e1 := [.im x, .im y, .im (.int a), .im (.int (0 : Nat))]) ?_).trans ?_
      · simp only [wc__law_low_0, show ¬ ((0 : Int) < ((0 : Nat) : Int)) from by decide, x_runF, q_nx, q_rt, rep0, rep1, x_var, qV_im, qV_ow, x_rdS, sD_im, sD_ow, sD_io, sD_lk, x_canLk, sC_ow, sC_io, sC_im, sC_lk, sC_un, x_stSf, x_stSt, sS_un, sS_im, sS_ow, x_chS, sG_ow, sG_io, mOw_some, mIo_some, x_con, x_tup, x_lst, z_tup, z_lst, x_pr, z_pr, x_not, z_not, x_and, x_or, z_and, z_or, x_ite, z_ite, x_call, z_call, q_ok, lift2_some, x_callT, z_callT, q_okT, x_Anil, x_Bnil, x_Cnil, x_Acons, z_A, z_B, z_C, z_cons, x_Bvar, tB_some, z_var, x_Bpr, x_Bcon, x_Btup, x_Blst, x_Bcall, x_BcallT, x_Bnot, x_Bite, x_Blc, x_Cval, x_Cvar, tC_true, z_varC, t_not, t_and, t_or, t_cmp, t_var, t_call, t_isi, t_len, t_con, t_item, t_all, t_any, y_t, y_n, y_a, y_o, y_c, s_skip, s_seq, w_nx, s_set, w_set, s_put, w_put, w_put2, s_unp, w_unp, w_unpQ, w_ts0, w_tsn, w_tsi, w_ti, w_ts, s_par, w_par, w_par2, w_par3, w_par4, s_ex, w_ex, s_iff, w_if, s_whl, s_retv, q_rim, q_row, s_retpr, s_rettup, s_retlst, s_retcon, s_retcall, s_retnot, s_retand, s_retor, s_retite, s_retlc, w_ret, startE, bind_rt, bind_sexn, bind_bk, bind_ct, lift_some, go1_some, ob_some, om_some, Vm.cmpD, ordD, putI, outsE, contS, add_ii, subD, negD, absD, maxD, minD, lensD, len_l, len_t, truD, boolOf, intOf, ioIx, wb, isiD, isTy, toIntD, toListD, toTupleD, itemsOf, List.length_cons, List.length_nil, Int.reduceToNat, it0, it1, it2, it3, it4, it5, it6, ta0, ta1, ta2, eqL2, noneL1, isBL1, inL_l, inL_t, isNo_n, isNo_i, isNo_t, isNo_q, eqI, eqQ, eqSS, eq_self, decide_eq_true_eq, cut_a, cut_b, slc_l, slc_t, List.nil_append, List.cons_append, List.append_nil, List.getElem?_cons_zero, List.getElem?_cons_succ, List.set_cons_zero, List.set_cons_succ, List.set_nil, Option.isSome_some, if_true, if_false, reduceIte, reduceCtorEq, Nat.reduceSub, Nat.reduceAdd, Nat.reduceLT, decide_true, decide_false, Bool.not_true, Bool.not_false, Bool.false_eq_true, Nat.reduceEqDiff, List.nodup_nil, List.nodup_cons, List.not_mem_nil, not_false_eq_true, true_and, and_true, and_self, x_lc, z_lc2, q_lc, mw0, mw1, qW_un, qW_im, wp0, wp1, bk0, bk1, gd0, gd1, x_ofv, kWk_l, kWk_t, x_ofcall, x_ofcallT, x_ofpr, x_oftup, x_oflst, x_oflc, x_ofcon, z_of, walk_l, walk_t, x_rng1, x_rng2, z_rng2a, x_enum, x_enum2, x_zip, x_zip3, z_en, z_zp, z_zp3, s_frr, w_fr, ul_nx, ul_rt, ul0, lk0, ul1, lk1, x_lkS, x_ulS, qLk_ow, qLk_io, qUl_ow, qUl_io, srcs_ofv, srcs_ofcall, srcs_ofcallT, srcs_ofpr, srcs_oftup, srcs_oflst, srcs_oflc, srcs_ofcon, srcs_r1, srcs_r2, srcs_en, srcs_en2, srcs_zp, srcs_zp3, rv_nil, rv_var, rv_call, rv_pr, rv_con, rv_lc, rv_tup, rv_lst, fi0, fi1, g_nm, g_tp, g_nl, g_cn, w_kM, x_kM, x_lm, mOw_q, mIo_q, o_rev, o_clr, x_lcT, qT1_some, z_T2, z_T3, x_frT, qF1_some, sS_sl, qW_sl, sl_some, z_lm, q_lm, Bool.and_true, Bool.true_and, Bool.and_false, Bool.false_and, Bool.or_true, Bool.true_or, Bool.or_false, Bool.false_or, revD, pr_add, pr_sub, pr_mul, pr_fdiv, pr_mod, pr_pow, pr_neg, pr_item, pr_len, pr_abs, pr_max, pr_min, pr_toInt, pr_toList, pr_toTuple, pr_sum, pr_sorted, pr_repr, pr_all, pr_any, pr_divmod, pr_isi, pr_cmp, pr_cut, pr_rev, pr_lrg, pr_trg, sz0, sz1, sz2, sz3, sz4, sz5, sz6, sz7, sz8, sz9, sz10, sz11, sz12]
      · simp
theorem R_low {a b : Int} (hb : 0 < b) (hz : bl b ≤ 8000) : m__law_low.run [.int a, .int b] = .ok (frQ ((a : Rat) / (b : Rat))) false [] := by
  have hb3 : b = (b.natAbs : Int) := by omega
  obtain ⟨k, hk⟩ := step_low (.int a) (.int b) a.natAbs b.natAbs (b.natAbs + 1) (by omega)
  rw [← hb3, gcd_nat a b] at hk
  have hc := whL_eq k hk (by simp)
  have g := gcd_pos (a := a) hb
  have gl := gcd_bl a hb
  rw [frQ_low hb]
  simp only [m__law_low, b__law_low, abs_nat, hc, o_fdiv g (Nat.le_trans gl hz), x_runF, q_nx, q_rt, rep0, rep1, x_var, qV_im, qV_ow, x_rdS, sD_im, sD_ow, sD_io, sD_lk, x_canLk, sC_ow, sC_io, sC_im, sC_lk, sC_un, x_stSf, x_stSt, sS_un, sS_im, sS_ow, x_chS, sG_ow, sG_io, mOw_some, mIo_some, x_con, x_tup, x_lst, z_tup, z_lst, x_pr, z_pr, x_not, z_not, x_and, x_or, z_and, z_or, x_ite, z_ite, x_call, z_call, q_ok, lift2_some, x_callT, z_callT, q_okT, x_Anil, x_Bnil, x_Cnil, x_Acons, z_A, z_B, z_C, z_cons, x_Bvar, tB_some, z_var, x_Bpr, x_Bcon, x_Btup, x_Blst, x_Bcall, x_BcallT, x_Bnot, x_Bite, x_Blc, x_Cval, x_Cvar, tC_true, z_varC, t_not, t_and, t_or, t_cmp, t_var, t_call, t_isi, t_len, t_con, t_item, t_all, t_any, y_t, y_n, y_a, y_o, y_c, s_skip, s_seq, w_nx, s_set, w_set, s_put, w_put, w_put2, s_unp, w_unp, w_unpQ, w_ts0, w_tsn, w_tsi, w_ti, w_ts, s_par, w_par, w_par2, w_par3, w_par4, s_ex, w_ex, s_iff, w_if, s_whl, s_retv, q_rim, q_row, s_retpr, s_rettup, s_retlst, s_retcon, s_retcall, s_retnot, s_retand, s_retor, s_retite, s_retlc, w_ret, startE, bind_rt, bind_sexn, bind_bk, bind_ct, lift_some, go1_some, ob_some, om_some, Vm.cmpD, ordD, putI, outsE, contS, add_ii, subD, negD, absD, maxD, minD, lensD, len_l, len_t, truD, boolOf, intOf, ioIx, wb, isiD, isTy, toIntD, toListD, toTupleD, itemsOf, List.length_cons, List.length_nil, Int.reduceToNat, it0, it1, it2, it3, it4, it5, it6, ta0, ta1, ta2, eqL2, noneL1, isBL1, inL_l, inL_t, isNo_n, isNo_i, isNo_t, isNo_q, eqI, eqQ, eqSS, eq_self, decide_eq_true_eq, cut_a, cut_b, slc_l, slc_t, List.nil_append, List.cons_append, List.append_nil, List.getElem?_cons_zero, List.getElem?_cons_succ, List.set_cons_zero, List.set_cons_succ, List.set_nil, Option.isSome_some, if_true, if_false, reduceIte, reduceCtorEq, Nat.reduceSub, Nat.reduceAdd, Nat.reduceLT, decide_true, decide_false, Bool.not_true, Bool.not_false, Bool.false_eq_true, Nat.reduceEqDiff, List.nodup_nil, List.nodup_cons, List.not_mem_nil, not_false_eq_true, true_and, and_true, and_self, x_lc, z_lc2, q_lc, mw0, mw1, qW_un, qW_im, wp0, wp1, bk0, bk1, gd0, gd1, x_ofv, kWk_l, kWk_t, x_ofcall, x_ofcallT, x_ofpr, x_oftup, x_oflst, x_oflc, x_ofcon, z_of, walk_l, walk_t, x_rng1, x_rng2, z_rng2a, x_enum, x_enum2, x_zip, x_zip3, z_en, z_zp, z_zp3, s_frr, w_fr, ul_nx, ul_rt, ul0, lk0, ul1, lk1, x_lkS, x_ulS, qLk_ow, qLk_io, qUl_ow, qUl_io, srcs_ofv, srcs_ofcall, srcs_ofcallT, srcs_ofpr, srcs_oftup, srcs_oflst, srcs_oflc, srcs_ofcon, srcs_r1, srcs_r2, srcs_en, srcs_en2, srcs_zp, srcs_zp3, rv_nil, rv_var, rv_call, rv_pr, rv_con, rv_lc, rv_tup, rv_lst, fi0, fi1, g_nm, g_tp, g_nl, g_cn, w_kM, x_kM, x_lm, mOw_q, mIo_q, o_rev, o_clr, x_lcT, qT1_some, z_T2, z_T3, x_frT, qF1_some, sS_sl, qW_sl, sl_some, z_lm, q_lm, Bool.and_true, Bool.true_and, Bool.and_false, Bool.false_and, Bool.or_true, Bool.true_or, Bool.or_false, Bool.false_or, revD, pr_add, pr_sub, pr_mul, pr_fdiv, pr_mod, pr_pow, pr_neg, pr_item, pr_len, pr_abs, pr_max, pr_min, pr_toInt, pr_toList, pr_toTuple, pr_sum, pr_sorted, pr_repr, pr_all, pr_any, pr_divmod, pr_isi, pr_cmp, pr_cut, pr_rev, pr_lrg, pr_trg, sz0, sz1, sz2, sz3, sz4, sz5, sz6, sz7, sz8, sz9, sz10, sz11, sz12]
  rfl
/- _law_plus: 0 _law_one_here, 1 _law_other -/
noncomputable def b__law_plus : S := .ret (.call Lb.m__law_low (.cons (.pr .add (.cons (.pr .mul (.cons (.pr .item (.cons (.var 0) (.cons (.con (.int 0)) (.nil)))) (.cons (.pr .item (.cons (.var 1) (.cons (.con (.int 1)) (.nil)))) (.nil)))) (.cons (.pr .mul (.cons (.pr .item (.cons (.var 1) (.cons (.con (.int 0)) (.nil)))) (.cons (.pr .item (.cons (.var 0) (.cons (.con (.int 1)) (.nil)))) (.nil)))) (.nil)))) (.cons (.pr .mul (.cons (.pr .item (.cons (.var 0) (.cons (.con (.int 1)) (.nil)))) (.cons (.pr .item (.cons (.var 1) (.cons (.con (.int 1)) (.nil)))) (.nil)))) (.nil))))
noncomputable def m__law_plus : Fm := ⟨[false, false], runF [false, false] 2 b__law_plus⟩
theorem io__law_plus : m__law_plus.io = [false, false] := rfl
theorem Q_plus {p q : Rat} (h : bq p + bq q ≤ 8000) : m__law_plus.run [frQ p, frQ q] = .ok (frQ (p + q)) false [] := by
  have h1 := bq_num p
  have h2 := bq_num q
  have h3 := bq_den p
  have h4 := bq_den q
  have h5 := bl_mul p.den q.den
  have hl := R_low (a := p.num * q.den + q.num * p.den) (b := p.den * q.den) (Int.mul_pos (den_pos p) (den_pos q)) (by omega)
  rw [← add_nd] at hl
  simp only [m__law_plus, b__law_plus, io__law_low, at0Q, at1Q, o_mul (i := p.num) (j := q.den) (by omega), o_mul (i := q.num) (j := p.den) (by omega), o_mul (i := p.den) (j := q.den) (by omega), hl, x_runF, q_nx, q_rt, rep0, rep1, x_var, qV_im, qV_ow, x_rdS, sD_im, sD_ow, sD_io, sD_lk, x_canLk, sC_ow, sC_io, sC_im, sC_lk, sC_un, x_stSf, x_stSt, sS_un, sS_im, sS_ow, x_chS, sG_ow, sG_io, mOw_some, mIo_some, x_con, x_tup, x_lst, z_tup, z_lst, x_pr, z_pr, x_not, z_not, x_and, x_or, z_and, z_or, x_ite, z_ite, x_call, z_call, q_ok, lift2_some, x_callT, z_callT, q_okT, x_Anil, x_Bnil, x_Cnil, x_Acons, z_A, z_B, z_C, z_cons, x_Bvar, tB_some, z_var, x_Bpr, x_Bcon, x_Btup, x_Blst, x_Bcall, x_BcallT, x_Bnot, x_Bite, x_Blc, x_Cval, x_Cvar, tC_true, z_varC, t_not, t_and, t_or, t_cmp, t_var, t_call, t_isi, t_len, t_con, t_item, t_all, t_any, y_t, y_n, y_a, y_o, y_c, s_skip, s_seq, w_nx, s_set, w_set, s_put, w_put, w_put2, s_unp, w_unp, w_unpQ, w_ts0, w_tsn, w_tsi, w_ti, w_ts, s_par, w_par, w_par2, w_par3, w_par4, s_ex, w_ex, s_iff, w_if, s_whl, s_retv, q_rim, q_row, s_retpr, s_rettup, s_retlst, s_retcon, s_retcall, s_retnot, s_retand, s_retor, s_retite, s_retlc, w_ret, startE, bind_rt, bind_sexn, bind_bk, bind_ct, lift_some, go1_some, ob_some, om_some, Vm.cmpD, ordD, putI, outsE, contS, add_ii, subD, negD, absD, maxD, minD, lensD, len_l, len_t, truD, boolOf, intOf, ioIx, wb, isiD, isTy, toIntD, toListD, toTupleD, itemsOf, List.length_cons, List.length_nil, Int.reduceToNat, it0, it1, it2, it3, it4, it5, it6, ta0, ta1, ta2, eqL2, noneL1, isBL1, inL_l, inL_t, isNo_n, isNo_i, isNo_t, isNo_q, eqI, eqQ, eqSS, eq_self, decide_eq_true_eq, cut_a, cut_b, slc_l, slc_t, List.nil_append, List.cons_append, List.append_nil, List.getElem?_cons_zero, List.getElem?_cons_succ, List.set_cons_zero, List.set_cons_succ, List.set_nil, Option.isSome_some, if_true, if_false, reduceIte, reduceCtorEq, Nat.reduceSub, Nat.reduceAdd, Nat.reduceLT, decide_true, decide_false, Bool.not_true, Bool.not_false, Bool.false_eq_true, Nat.reduceEqDiff, List.nodup_nil, List.nodup_cons, List.not_mem_nil, not_false_eq_true, true_and, and_true, and_self, x_lc, z_lc2, q_lc, mw0, mw1, qW_un, qW_im, wp0, wp1, bk0, bk1, gd0, gd1, x_ofv, kWk_l, kWk_t, x_ofcall, x_ofcallT, x_ofpr, x_oftup, x_oflst, x_oflc, x_ofcon, z_of, walk_l, walk_t, x_rng1, x_rng2, z_rng2a, x_enum, x_enum2, x_zip, x_zip3, z_en, z_zp, z_zp3, s_frr, w_fr, ul_nx, ul_rt, ul0, lk0, ul1, lk1, x_lkS, x_ulS, qLk_ow, qLk_io, qUl_ow, qUl_io, srcs_ofv, srcs_ofcall, srcs_ofcallT, srcs_ofpr, srcs_oftup, srcs_oflst, srcs_oflc, srcs_ofcon, srcs_r1, srcs_r2, srcs_en, srcs_en2, srcs_zp, srcs_zp3, rv_nil, rv_var, rv_call, rv_pr, rv_con, rv_lc, rv_tup, rv_lst, fi0, fi1, g_nm, g_tp, g_nl, g_cn, w_kM, x_kM, x_lm, mOw_q, mIo_q, o_rev, o_clr, x_lcT, qT1_some, z_T2, z_T3, x_frT, qF1_some, sS_sl, qW_sl, sl_some, z_lm, q_lm, Bool.and_true, Bool.true_and, Bool.and_false, Bool.false_and, Bool.or_true, Bool.true_or, Bool.or_false, Bool.false_or, revD, pr_add, pr_sub, pr_mul, pr_fdiv, pr_mod, pr_pow, pr_neg, pr_item, pr_len, pr_abs, pr_max, pr_min, pr_toInt, pr_toList, pr_toTuple, pr_sum, pr_sorted, pr_repr, pr_all, pr_any, pr_divmod, pr_isi, pr_cmp, pr_cut, pr_rev, pr_lrg, pr_trg, sz0, sz1, sz2, sz3, sz4, sz5, sz6, sz7, sz8, sz9, sz10, sz11, sz12]
/- _law_most: 0 _law_weight_here, 1 _law_many, 2 _law_k -/
noncomputable def b__law_most : S := .ret (.call Lb.m__law_low (.cons (.pr .mul (.cons (.pr .mul (.cons (.var 0) (.cons (.var 2) (.nil)))) (.cons (.pr .sub (.cons (.var 1) (.cons (.var 2) (.nil)))) (.nil)))) (.cons (.con (.int 2)) (.nil))))
noncomputable def m__law_most : Fm := ⟨[false, false, false], runF [false, false, false] 3 b__law_most⟩
theorem io__law_most : m__law_most.io = [false, false, false] := rfl
theorem Q_most {w n k : Int} (h : bl w + bl k + bl (n - k) ≤ 134217728) : m__law_most.run [.int w, .int n, .int k] = .ok (frQ (((w * k * (n - k) : Int) : Rat) / ((2 : Int) : Rat))) false [] := by
  have h1 := bl_mul w k
  have h2 : bl 2 ≤ 40 := bl_le 40 (by decide) (by decide)
  have hl := R_low (a := w * k * (n - k)) (b := 2) (by decide) (by omega)
  simp only [m__law_most, b__law_most, io__law_low, o_mul (i := w) (j := k) (by omega), o_mul (i := w * k) (j := n - k) (by omega), hl, x_runF, q_nx, q_rt, rep0, rep1, x_var, qV_im, qV_ow, x_rdS, sD_im, sD_ow, sD_io, sD_lk, x_canLk, sC_ow, sC_io, sC_im, sC_lk, sC_un, x_stSf, x_stSt, sS_un, sS_im, sS_ow, x_chS, sG_ow, sG_io, mOw_some, mIo_some, x_con, x_tup, x_lst, z_tup, z_lst, x_pr, z_pr, x_not, z_not, x_and, x_or, z_and, z_or, x_ite, z_ite, x_call, z_call, q_ok, lift2_some, x_callT, z_callT, q_okT, x_Anil, x_Bnil, x_Cnil, x_Acons, z_A, z_B, z_C, z_cons, x_Bvar, tB_some, z_var, x_Bpr, x_Bcon, x_Btup, x_Blst, x_Bcall, x_BcallT, x_Bnot, x_Bite, x_Blc, x_Cval, x_Cvar, tC_true, z_varC, t_not, t_and, t_or, t_cmp, t_var, t_call, t_isi, t_len, t_con, t_item, t_all, t_any, y_t, y_n, y_a, y_o, y_c, s_skip, s_seq, w_nx, s_set, w_set, s_put, w_put, w_put2, s_unp, w_unp, w_unpQ, w_ts0, w_tsn, w_tsi, w_ti, w_ts, s_par, w_par, w_par2, w_par3, w_par4, s_ex, w_ex, s_iff, w_if, s_whl, s_retv, q_rim, q_row, s_retpr, s_rettup, s_retlst, s_retcon, s_retcall, s_retnot, s_retand, s_retor, s_retite, s_retlc, w_ret, startE, bind_rt, bind_sexn, bind_bk, bind_ct, lift_some, go1_some, ob_some, om_some, Vm.cmpD, ordD, putI, outsE, contS, add_ii, subD, negD, absD, maxD, minD, lensD, len_l, len_t, truD, boolOf, intOf, ioIx, wb, isiD, isTy, toIntD, toListD, toTupleD, itemsOf, List.length_cons, List.length_nil, Int.reduceToNat, it0, it1, it2, it3, it4, it5, it6, ta0, ta1, ta2, eqL2, noneL1, isBL1, inL_l, inL_t, isNo_n, isNo_i, isNo_t, isNo_q, eqI, eqQ, eqSS, eq_self, decide_eq_true_eq, cut_a, cut_b, slc_l, slc_t, List.nil_append, List.cons_append, List.append_nil, List.getElem?_cons_zero, List.getElem?_cons_succ, List.set_cons_zero, List.set_cons_succ, List.set_nil, Option.isSome_some, if_true, if_false, reduceIte, reduceCtorEq, Nat.reduceSub, Nat.reduceAdd, Nat.reduceLT, decide_true, decide_false, Bool.not_true, Bool.not_false, Bool.false_eq_true, Nat.reduceEqDiff, List.nodup_nil, List.nodup_cons, List.not_mem_nil, not_false_eq_true, true_and, and_true, and_self, x_lc, z_lc2, q_lc, mw0, mw1, qW_un, qW_im, wp0, wp1, bk0, bk1, gd0, gd1, x_ofv, kWk_l, kWk_t, x_ofcall, x_ofcallT, x_ofpr, x_oftup, x_oflst, x_oflc, x_ofcon, z_of, walk_l, walk_t, x_rng1, x_rng2, z_rng2a, x_enum, x_enum2, x_zip, x_zip3, z_en, z_zp, z_zp3, s_frr, w_fr, ul_nx, ul_rt, ul0, lk0, ul1, lk1, x_lkS, x_ulS, qLk_ow, qLk_io, qUl_ow, qUl_io, srcs_ofv, srcs_ofcall, srcs_ofcallT, srcs_ofpr, srcs_oftup, srcs_oflst, srcs_oflc, srcs_ofcon, srcs_r1, srcs_r2, srcs_en, srcs_en2, srcs_zp, srcs_zp3, rv_nil, rv_var, rv_call, rv_pr, rv_con, rv_lc, rv_tup, rv_lst, fi0, fi1, g_nm, g_tp, g_nl, g_cn, w_kM, x_kM, x_lm, mOw_q, mIo_q, o_rev, o_clr, x_lcT, qT1_some, z_T2, z_T3, x_frT, qF1_some, sS_sl, qW_sl, sl_some, z_lm, q_lm, Bool.and_true, Bool.true_and, Bool.and_false, Bool.false_and, Bool.or_true, Bool.true_or, Bool.or_false, Bool.false_or, revD, pr_add, pr_sub, pr_mul, pr_fdiv, pr_mod, pr_pow, pr_neg, pr_item, pr_len, pr_abs, pr_max, pr_min, pr_toInt, pr_toList, pr_toTuple, pr_sum, pr_sorted, pr_repr, pr_all, pr_any, pr_divmod, pr_isi, pr_cmp, pr_cut, pr_rev, pr_lrg, pr_trg, sz0, sz1, sz2, sz3, sz4, sz5, sz6, sz7, sz8, sz9, sz10, sz11, sz12]
/- _law_sum: 0 _law_parts, 1 _law_found, 2 _law_one_here -/
noncomputable def fb__law_sum_0 : S := .set 1 (.call Lb.m__law_plus (.cons (.var 1) (.cons (.var 2) (.nil))))
noncomputable def b__law_sum : S := .seq (.set 1 (.tup (.cons (.con (.int 0)) (.cons (.con (.int 1)) (.nil))))) (.seq (.frr (.nm 2) (.of (.var 0)) fb__law_sum_0) (.ret (.var 1)))
noncomputable def m__law_sum : Fm := ⟨[false], runF [false] 3 b__law_sum⟩
theorem io__law_sum : m__law_sum.io = [false] := rfl
theorem bq_sum {k : Nat} : ∀ {row : List Rat}, (∀ q ∈ row, bq q ≤ k) → bq row.sum ≤ (k + 1) * row.length + 1
  | [], _ => by
    have : bq (0 : Rat) = 1 := by decide
    simp [this]
  | q :: row, h => by
    have h1 := bq_sum (row := row) fun q hq => h q (List.mem_cons_of_mem _ hq)
    have h2 := h q List.mem_cons_self
    have h3 := bq_add q row.sum
    rw [List.sum_cons, List.length_cons, Nat.mul_succ]
    omega
theorem Q_sum {row : List Rat} {d : D} {k : Nat} (hd : walkD d = some (row.map frQ)) (hk : ∀ q ∈ row, bq q ≤ k) (hz : (k + 1) * (row.length + 1) ≤ 7000) : m__law_sum.run [d] = .ok (frQ row.sum) false [] := by
  obtain ⟨o', h1, h2⟩ := frL_fold (t := .nm 2) (b := evS fb__law_sum_0) (rep := frQ) (fun (s : Rat) (o : Option D) => [.im d, .im (frQ s), sl o]) (· + ·) (fun r s => ∃ pre, pre ++ r = row ∧ s = pre.sum) (xs := row) (s := 0) (o := none)
    (fun x r s o ⟨pre, h1, h2⟩ => by
      subst h2
      have hp : ∀ q ∈ pre, bq q ≤ k := fun q hq => hk q (by rw [← h1]; exact List.mem_append_left _ hq)
      have hx : bq x ≤ k := hk x (by rw [← h1]; exact List.mem_append_right _ List.mem_cons_self)
      have b1 := bq_sum hp
      have hl : pre.length + 1 ≤ row.length := by rw [← h1]; simp
      have hm : (k + 1) * pre.length + (k + 1) + (k + 1) ≤ (k + 1) * (row.length + 1) := by
        have : (k + 1) * (pre.length + 2) ≤ (k + 1) * (row.length + 1) := Nat.mul_le_mul_left _ (by omega)
        have e : (k + 1) * (pre.length + 2) = (k + 1) * pre.length + (k + 1) + (k + 1) := by rw [Nat.mul_add]; omega
        omega
      have hq := Q_plus (p := pre.sum) (q := x) (by omega)
      refine ⟨[.im d, .im (frQ pre.sum), .im (frQ x)], some (frQ x), ?_, .inl ?_, pre ++ [x], by simpa using h1, ?_⟩
      · simp only [x_runF, q_nx, q_rt, rep0, rep1, x_var, qV_im, qV_ow, x_rdS, sD_im, sD_ow, sD_io, sD_lk, x_canLk, sC_ow, sC_io, sC_im, sC_lk, sC_un, x_stSf, x_stSt, sS_un, sS_im, sS_ow, x_chS, sG_ow, sG_io, mOw_some, mIo_some, x_con, x_tup, x_lst, z_tup, z_lst, x_pr, z_pr, x_not, z_not, x_and, x_or, z_and, z_or, x_ite, z_ite, x_call, z_call, q_ok, lift2_some, x_callT, z_callT, q_okT, x_Anil, x_Bnil, x_Cnil, x_Acons, z_A, z_B, z_C, z_cons, x_Bvar, tB_some, z_var, x_Bpr, x_Bcon, x_Btup, x_Blst, x_Bcall, x_BcallT, x_Bnot, x_Bite, x_Blc, x_Cval, x_Cvar, tC_true, z_varC, t_not, t_and, t_or, t_cmp, t_var, t_call, t_isi, t_len, t_con, t_item, t_all, t_any, y_t, y_n, y_a, y_o, y_c, s_skip, s_seq, w_nx, s_set, w_set, s_put, w_put, w_put2, s_unp, w_unp, w_unpQ, w_ts0, w_tsn, w_tsi, w_ti, w_ts, s_par, w_par, w_par2, w_par3, w_par4, s_ex, w_ex, s_iff, w_if, s_whl, s_retv, q_rim, q_row, s_retpr, s_rettup, s_retlst, s_retcon, s_retcall, s_retnot, s_retand, s_retor, s_retite, s_retlc, w_ret, startE, bind_rt, bind_sexn, bind_bk, bind_ct, lift_some, go1_some, ob_some, om_some, Vm.cmpD, ordD, putI, outsE, contS, add_ii, subD, negD, absD, maxD, minD, lensD, len_l, len_t, truD, boolOf, intOf, ioIx, wb, isiD, isTy, toIntD, toListD, toTupleD, itemsOf, List.length_cons, List.length_nil, Int.reduceToNat, it0, it1, it2, it3, it4, it5, it6, ta0, ta1, ta2, eqL2, noneL1, isBL1, inL_l, inL_t, isNo_n, isNo_i, isNo_t, isNo_q, eqI, eqQ, eqSS, eq_self, decide_eq_true_eq, cut_a, cut_b, slc_l, slc_t, List.nil_append, List.cons_append, List.append_nil, List.getElem?_cons_zero, List.getElem?_cons_succ, List.set_cons_zero, List.set_cons_succ, List.set_nil, Option.isSome_some, if_true, if_false, reduceIte, reduceCtorEq, Nat.reduceSub, Nat.reduceAdd, Nat.reduceLT, decide_true, decide_false, Bool.not_true, Bool.not_false, Bool.false_eq_true, Nat.reduceEqDiff, List.nodup_nil, List.nodup_cons, List.not_mem_nil, not_false_eq_true, true_and, and_true, and_self, x_lc, z_lc2, q_lc, mw0, mw1, qW_un, qW_im, wp0, wp1, bk0, bk1, gd0, gd1, x_ofv, kWk_l, kWk_t, x_ofcall, x_ofcallT, x_ofpr, x_oftup, x_oflst, x_oflc, x_ofcon, z_of, walk_l, walk_t, x_rng1, x_rng2, z_rng2a, x_enum, x_enum2, x_zip, x_zip3, z_en, z_zp, z_zp3, s_frr, w_fr, ul_nx, ul_rt, ul0, lk0, ul1, lk1, x_lkS, x_ulS, qLk_ow, qLk_io, qUl_ow, qUl_io, srcs_ofv, srcs_ofcall, srcs_ofcallT, srcs_ofpr, srcs_oftup, srcs_oflst, srcs_oflc, srcs_ofcon, srcs_r1, srcs_r2, srcs_en, srcs_en2, srcs_zp, srcs_zp3, rv_nil, rv_var, rv_call, rv_pr, rv_con, rv_lc, rv_tup, rv_lst, fi0, fi1, g_nm, g_tp, g_nl, g_cn, w_kM, x_kM, x_lm, mOw_q, mIo_q, o_rev, o_clr, x_lcT, qT1_some, z_T2, z_T3, x_frT, qF1_some, sS_sl, qW_sl, sl_some, z_lm, q_lm, Bool.and_true, Bool.true_and, Bool.and_false, Bool.false_and, Bool.or_true, Bool.true_or, Bool.or_false, Bool.false_or, revD, pr_add, pr_sub, pr_mul, pr_fdiv, pr_mod, pr_pow, pr_neg, pr_item, pr_len, pr_abs, pr_max, pr_min, pr_toInt, pr_toList, pr_toTuple, pr_sum, pr_sorted, pr_repr, pr_all, pr_any, pr_divmod, pr_isi, pr_cmp, pr_cut, pr_rev, pr_lrg, pr_trg, sz0, sz1, sz2, sz3, sz4, sz5, sz6, sz7, sz8, sz9, sz10, sz11, sz12]
      · simp only [fb__law_sum_0, io__law_plus, hq, x_runF, q_nx, q_rt, rep0, rep1, x_var, qV_im, qV_ow, x_rdS, sD_im, sD_ow, sD_io, sD_lk, x_canLk, sC_ow, sC_io, sC_im, sC_lk, sC_un, x_stSf, x_stSt, sS_un, sS_im, sS_ow, x_chS, sG_ow, sG_io, mOw_some, mIo_some, x_con, x_tup, x_lst, z_tup, z_lst, x_pr, z_pr, x_not, z_not, x_and, x_or, z_and, z_or, x_ite, z_ite, x_call, z_call, q_ok, lift2_some, x_callT, z_callT, q_okT, x_Anil, x_Bnil, x_Cnil, x_Acons, z_A, z_B, z_C, z_cons, x_Bvar, tB_some, z_var, x_Bpr, x_Bcon, x_Btup, x_Blst, x_Bcall, x_BcallT, x_Bnot, x_Bite, x_Blc, x_Cval, x_Cvar, tC_true, z_varC, t_not, t_and, t_or, t_cmp, t_var, t_call, t_isi, t_len, t_con, t_item, t_all, t_any, y_t, y_n, y_a, y_o, y_c, s_skip, s_seq, w_nx, s_set, w_set, s_put, w_put, w_put2, s_unp, w_unp, w_unpQ, w_ts0, w_tsn, w_tsi, w_ti, w_ts, s_par, w_par, w_par2, w_par3, w_par4, s_ex, w_ex, s_iff, w_if, s_whl, s_retv, q_rim, q_row, s_retpr, s_rettup, s_retlst, s_retcon, s_retcall, s_retnot, s_retand, s_retor, s_retite, s_retlc, w_ret, startE, bind_rt, bind_sexn, bind_bk, bind_ct, lift_some, go1_some, ob_some, om_some, Vm.cmpD, ordD, putI, outsE, contS, add_ii, subD, negD, absD, maxD, minD, lensD, len_l, len_t, truD, boolOf, intOf, ioIx, wb, isiD, isTy, toIntD, toListD, toTupleD, itemsOf, List.length_cons, List.length_nil, Int.reduceToNat, it0, it1, it2, it3, it4, it5, it6, ta0, ta1, ta2, eqL2, noneL1, isBL1, inL_l, inL_t, isNo_n, isNo_i, isNo_t, isNo_q, eqI, eqQ, eqSS, eq_self, decide_eq_true_eq, cut_a, cut_b, slc_l, slc_t, List.nil_append, List.cons_append, List.append_nil, List.getElem?_cons_zero, List.getElem?_cons_succ, List.set_cons_zero, List.set_cons_succ, List.set_nil, Option.isSome_some, if_true, if_false, reduceIte, reduceCtorEq, Nat.reduceSub, Nat.reduceAdd, Nat.reduceLT, decide_true, decide_false, Bool.not_true, Bool.not_false, Bool.false_eq_true, Nat.reduceEqDiff, List.nodup_nil, List.nodup_cons, List.not_mem_nil, not_false_eq_true, true_and, and_true, and_self, x_lc, z_lc2, q_lc, mw0, mw1, qW_un, qW_im, wp0, wp1, bk0, bk1, gd0, gd1, x_ofv, kWk_l, kWk_t, x_ofcall, x_ofcallT, x_ofpr, x_oftup, x_oflst, x_oflc, x_ofcon, z_of, walk_l, walk_t, x_rng1, x_rng2, z_rng2a, x_enum, x_enum2, x_zip, x_zip3, z_en, z_zp, z_zp3, s_frr, w_fr, ul_nx, ul_rt, ul0, lk0, ul1, lk1, x_lkS, x_ulS, qLk_ow, qLk_io, qUl_ow, qUl_io, srcs_ofv, srcs_ofcall, srcs_ofcallT, srcs_ofpr, srcs_oftup, srcs_oflst, srcs_oflc, srcs_ofcon, srcs_r1, srcs_r2, srcs_en, srcs_en2, srcs_zp, srcs_zp3, rv_nil, rv_var, rv_call, rv_pr, rv_con, rv_lc, rv_tup, rv_lst, fi0, fi1, g_nm, g_tp, g_nl, g_cn, w_kM, x_kM, x_lm, mOw_q, mIo_q, o_rev, o_clr, x_lcT, qT1_some, z_T2, z_T3, x_frT, qF1_some, sS_sl, qW_sl, sl_some, z_lm, q_lm, Bool.and_true, Bool.true_and, Bool.and_false, Bool.false_and, Bool.or_true, Bool.true_or, Bool.or_false, Bool.false_or, revD, pr_add, pr_sub, pr_mul, pr_fdiv, pr_mod, pr_pow, pr_neg, pr_item, pr_len, pr_abs, pr_max, pr_min, pr_toInt, pr_toList, pr_toTuple, pr_sum, pr_sorted, pr_repr, pr_all, pr_any, pr_divmod, pr_isi, pr_cmp, pr_cut, pr_rev, pr_lrg, pr_trg, sz0, sz1, sz2, sz3, sz4, sz5, sz6, sz7, sz8, sz9, sz10, sz11, sz12]
      · rw [List.sum_append, List.sum_cons, List.sum_nil]
        show pre.sum + x = _
        grind) ⟨[], rfl, rfl⟩
  have e0 : row.foldl (· + ·) (0 : Rat) = row.sum := by rw [Vm.foldl_add]; grind
  rw [e0] at h1
  have h1 : frL (.nm 2) (evS fb__law_sum_0) (row.map frQ) [.im d, .im (frQ 0), .un] = .nx [.im d, .im (frQ row.sum), sl o'] := h1
  simp only [m__law_sum, b__law_sum, kWk_w hd, nought, h1, x_runF, q_nx, q_rt, rep0, rep1, x_var, qV_im, qV_ow, x_rdS, sD_im, sD_ow, sD_io, sD_lk, x_canLk, sC_ow, sC_io, sC_im, sC_lk, sC_un, x_stSf, x_stSt, sS_un, sS_im, sS_ow, x_chS, sG_ow, sG_io, mOw_some, mIo_some, x_con, x_tup, x_lst, z_tup, z_lst, x_pr, z_pr, x_not, z_not, x_and, x_or, z_and, z_or, x_ite, z_ite, x_call, z_call, q_ok, lift2_some, x_callT, z_callT, q_okT, x_Anil, x_Bnil, x_Cnil, x_Acons, z_A, z_B, z_C, z_cons, x_Bvar, tB_some, z_var, x_Bpr, x_Bcon, x_Btup, x_Blst, x_Bcall, x_BcallT, x_Bnot, x_Bite, x_Blc, x_Cval, x_Cvar, tC_true, z_varC, t_not, t_and, t_or, t_cmp, t_var, t_call, t_isi, t_len, t_con, t_item, t_all, t_any, y_t, y_n, y_a, y_o, y_c, s_skip, s_seq, w_nx, s_set, w_set, s_put, w_put, w_put2, s_unp, w_unp, w_unpQ, w_ts0, w_tsn, w_tsi, w_ti, w_ts, s_par, w_par, w_par2, w_par3, w_par4, s_ex, w_ex, s_iff, w_if, s_whl, s_retv, q_rim, q_row, s_retpr, s_rettup, s_retlst, s_retcon, s_retcall, s_retnot, s_retand, s_retor, s_retite, s_retlc, w_ret, startE, bind_rt, bind_sexn, bind_bk, bind_ct, lift_some, go1_some, ob_some, om_some, Vm.cmpD, ordD, putI, outsE, contS, add_ii, subD, negD, absD, maxD, minD, lensD, len_l, len_t, truD, boolOf, intOf, ioIx, wb, isiD, isTy, toIntD, toListD, toTupleD, itemsOf, List.length_cons, List.length_nil, Int.reduceToNat, it0, it1, it2, it3, it4, it5, it6, ta0, ta1, ta2, eqL2, noneL1, isBL1, inL_l, inL_t, isNo_n, isNo_i, isNo_t, isNo_q, eqI, eqQ, eqSS, eq_self, decide_eq_true_eq, cut_a, cut_b, slc_l, slc_t, List.nil_append, List.cons_append, List.append_nil, List.getElem?_cons_zero, List.getElem?_cons_succ, List.set_cons_zero, List.set_cons_succ, List.set_nil, Option.isSome_some, if_true, if_false, reduceIte, reduceCtorEq, Nat.reduceSub, Nat.reduceAdd, Nat.reduceLT, decide_true, decide_false, Bool.not_true, Bool.not_false, Bool.false_eq_true, Nat.reduceEqDiff, List.nodup_nil, List.nodup_cons, List.not_mem_nil, not_false_eq_true, true_and, and_true, and_self, x_lc, z_lc2, q_lc, mw0, mw1, qW_un, qW_im, wp0, wp1, bk0, bk1, gd0, gd1, x_ofv, kWk_l, kWk_t, x_ofcall, x_ofcallT, x_ofpr, x_oftup, x_oflst, x_oflc, x_ofcon, z_of, walk_l, walk_t, x_rng1, x_rng2, z_rng2a, x_enum, x_enum2, x_zip, x_zip3, z_en, z_zp, z_zp3, s_frr, w_fr, ul_nx, ul_rt, ul0, lk0, ul1, lk1, x_lkS, x_ulS, qLk_ow, qLk_io, qUl_ow, qUl_io, srcs_ofv, srcs_ofcall, srcs_ofcallT, srcs_ofpr, srcs_oftup, srcs_oflst, srcs_oflc, srcs_ofcon, srcs_r1, srcs_r2, srcs_en, srcs_en2, srcs_zp, srcs_zp3, rv_nil, rv_var, rv_call, rv_pr, rv_con, rv_lc, rv_tup, rv_lst, fi0, fi1, g_nm, g_tp, g_nl, g_cn, w_kM, x_kM, x_lm, mOw_q, mIo_q, o_rev, o_clr, x_lcT, qT1_some, z_T2, z_T3, x_frT, qF1_some, sS_sl, qW_sl, sl_some, z_lm, q_lm, Bool.and_true, Bool.true_and, Bool.and_false, Bool.false_and, Bool.or_true, Bool.true_or, Bool.or_false, Bool.false_or, revD, pr_add, pr_sub, pr_mul, pr_fdiv, pr_mod, pr_pow, pr_neg, pr_item, pr_len, pr_abs, pr_max, pr_min, pr_toInt, pr_toList, pr_toTuple, pr_sum, pr_sorted, pr_repr, pr_all, pr_any, pr_divmod, pr_isi, pr_cmp, pr_cut, pr_rev, pr_lrg, pr_trg, sz0, sz1, sz2, sz3, sz4, sz5, sz6, sz7, sz8, sz9, sz10, sz11, sz12]
end Lb
/-! L3: sums.py -/
namespace Lb
open PySem PySem.Spec PyProof.Rows L2 Vm
/-! ### in order, the greatest first -/
def bef (g : Nat → Rat) (i j : Nat) : Prop := g j < g i ∨ (g i = g j ∧ i < j)
def insR (g : Nat → Rat) (p : Nat) : List Nat → List Nat
  | [] => [p]
  | k :: r => if g k < g p then p :: k :: r else k :: insR g p r
def insG (g : Nat → Rat) (found : List Nat) (p : Nat) : List Nat := found.take (found.filter fun k => !decide (g k < g p)).length ++ p :: found.drop (found.filter fun k => !decide (g k < g p)).length
theorem insG_eq {g : Nat → Rat} {p : Nat} : ∀ {found : List Nat}, found.Pairwise (bef g) → insG g found p = insR g p found
  | [], _ => rfl
  | k :: r, h => by
    obtain ⟨h1, h2⟩ := List.pairwise_cons.mp h
    unfold insR
    split
    · rename_i hk
      have e : (k :: r).filter (fun k => !decide (g k < g p)) = [] := by
        rw [List.filter_eq_nil_iff]
        intro j hj
        rcases List.mem_cons.mp hj with rfl | hj
        · simp [hk]
        · have : g j ≤ g k := by rcases h1 j hj with q | q <;> grind
          have : g j < g p := by grind
          simp [this]
      unfold insG
      rw [e]
      rfl
    · rename_i hk
      have e : (k :: r).filter (fun k => !decide (g k < g p)) = k :: r.filter fun k => !decide (g k < g p) := List.filter_cons_of_pos (by simp [hk])
      rw [← insG_eq h2]
      unfold insG
      rw [e, List.length_cons, List.take_succ_cons, List.drop_succ_cons]
      rfl
theorem insR_perm {g : Nat → Rat} {p : Nat} : ∀ found : List Nat, (insR g p found).Perm (p :: found)
  | [] => .refl _
  | k :: r => by
    unfold insR
    split
    · exact .refl _
    · exact ((insR_perm r).cons k).trans (List.Perm.swap p k r)
theorem bef_trans {g : Nat → Rat} {i j k : Nat} (h1 : bef g i j) (h2 : bef g j k) : bef g i k := by
  unfold bef at *
  rcases h1 with h1 | ⟨h1, h3⟩ <;> rcases h2 with h2 | ⟨h2, h4⟩
  · exact .inl (by grind)
  · exact .inl (by grind)
  · exact .inl (by grind)
  · exact .inr ⟨by grind, by omega⟩
theorem insR_sorted {g : Nat → Rat} {p : Nat} : ∀ {found : List Nat}, found.Pairwise (bef g) → (∀ k ∈ found, k < p) → (insR g p found).Pairwise (bef g)
  | [], _, _ => by simp [insR]
  | k :: r, h, hp => by
    obtain ⟨h1, h2⟩ := List.pairwise_cons.mp h
    unfold insR
    split
    · rename_i hk
      refine List.pairwise_cons.mpr ⟨fun j hj => ?_, h⟩
      rcases List.mem_cons.mp hj with rfl | hj
      · exact .inl hk
      · exact bef_trans (.inl hk) (h1 j hj)
    · rename_i hk
      refine List.pairwise_cons.mpr ⟨fun j hj => ?_, insR_sorted h2 fun j hj => hp j (List.mem_cons_of_mem _ hj)⟩
      rcases List.mem_cons.mp ((insR_perm r).mem_iff.mp hj) with rfl | hj
      · have hk2 := hp k List.mem_cons_self
        by_cases e : g k = g j
        · exact .inr ⟨e, hk2⟩
        · exact .inl (by grind)
      · exact h1 j hj
def gfirst (row : List Rat) : List Nat := (List.range row.length).foldl (insG fun i => row.getD i 0) []
theorem gfirst_upto (g : Nat → Rat) (n : Nat) : ((List.range n).foldl (insG g) []).Perm (List.range n) ∧ ((List.range n).foldl (insG g) []).Pairwise (bef g) := by
  induction n with
  | zero => exact ⟨.refl _, .nil⟩
  | succ n ih =>
    rw [List.range_succ, List.foldl_append]
    obtain ⟨h1, h2⟩ := ih
    have lt : ∀ k ∈ (List.range n).foldl (insG g) [], k < n := fun k hk => List.mem_range.mp (h1.mem_iff.mp hk)
    show (insG g _ n).Perm _ ∧ (insG g _ n).Pairwise _
    rw [insG_eq h2]
    exact ⟨(insR_perm _).trans ((h1.cons n).trans (List.perm_append_singleton n (List.range n)).symm), insR_sorted h2 lt⟩
theorem gfirst_perm (row : List Rat) : (gfirst row).Perm (List.range row.length) := (gfirst_upto _ _).1
theorem gfirst_sorted (row : List Rat) : (gfirst row).Pairwise (bef fun i => row.getD i 0) := (gfirst_upto _ _).2
theorem gfirst_len (row : List Rat) : (gfirst row).length = row.length := by rw [(gfirst_perm row).length_eq, List.length_range]
theorem gfirst_lt {row : List Rat} {k : Nat} (h : k ∈ gfirst row) : k < row.length := List.mem_range.mp ((gfirst_perm row).mem_iff.mp h)
/-- what is sorted so is one list -/
theorem sorted_one {g : Nat → Rat} {l m : List Nat} (p : l.Perm m) (h : l.Pairwise (bef g)) (k : m.Pairwise (bef g)) : l = m :=
  p.eq_of_pairwise (fun a b _ _ h1 h2 => by
    unfold bef at *
    rcases h1 with h1 | ⟨h1, h3⟩ <;> rcases h2 with h2 | ⟨h2, h4⟩
    · grind
    · grind
    · grind
    · omega) h k
def nI (k : Nat) : D := .int (k : Int)
theorem itemD_w {d : D} {ds : List D} {k : Nat} (hd : walkD d = some ds) (hk : k < ds.length) : itemD [d, .int (k : Int)] = some (ds[k], false) := by
  have at_ : atI ds (k : Int) = some ds[k] := by
    unfold atI ixN
    rw [if_pos (by omega), if_pos (by omega)]
    show ds[(k : Int).toNat]? = _
    rw [Int.toNat_natCast, List.getElem?_eq_getElem hk]
  unfold walkD at hd
  split at hd
  · cases hd
    show (atI _ _).map _ = _
    rw [at_]
    rfl
  · cases hd
    show (atI _ _).map _ = _
    rw [at_]
    rfl
  · cases hd
theorem itemD_r {d : D} {row : List Rat} {k : Nat} (hd : walkD d = some (row.map frQ)) (hk : k < row.length) : itemD [d, .int (k : Int)] = some (frQ (row.getD k 0), false) := by
  rw [itemD_w hd (by simpa using hk), List.getD_eq_getElem?_getD, List.getElem?_eq_getElem hk]
  simp
/- greatest_first: 0 row, 1 found, 2 place, 3 one, 4 at, 5 k -/
noncomputable def cc_greatest_first_1 : E := .not (.call Lb.m_is_less (.cons (.pr .item (.cons (.var 0) (.cons (.var 5) (.nil)))) (.cons (.var 3) (.nil))))
noncomputable def ce_greatest_first_1 : E := .var 5
noncomputable def fb_greatest_first_0 : S := .seq (.set 4 (.pr .len (.cons (.lc [5] (.nm 5) (.of (.var 1)) cc_greatest_first_1 ce_greatest_first_1) (.nil)))) (.ex (.lm .ins 1 (.cons (.var 4) (.cons (.var 2) (.nil)))))
noncomputable def b_greatest_first : S := .seq (.set 1 (.lst (.nil))) (.seq (.frr (.tp (.cn (.nm 2) (.cn (.nm 3) (.nl)))) (.enum (.cons (.var 0) (.nil))) fb_greatest_first_0) (.ret (.var 1)))
noncomputable def m_greatest_first : Fm := ⟨[false], runF [false] 6 b_greatest_first⟩
theorem io_greatest_first : m_greatest_first.io = [false] := rfl
theorem R_greatest_first {row : List Rat} {d : D} {k : Nat} (hd : walkD d = some (row.map frQ)) (hk : ∀ q ∈ row, bq q ≤ k) (hk2 : k ≤ 60000000) (hl : row.length ≤ 1000000) : m_greatest_first.run [d] = .ok (.list ((gfirst row).map nI)) true [] := by
  have bqD : ∀ i, i < row.length → bq (row.getD i 0) ≤ k := fun i hi => by
    rw [List.getD_eq_getElem?_getD, List.getElem?_eq_getElem hi]
    exact hk _ (List.getElem_mem hi)
  obtain ⟨o', h1, h2⟩ := frL_f (t := .tp (.cn (.nm 2) (.cn (.nm 3) .nl))) (s := fb_greatest_first_0) (rep := fun q : Rat × Nat => (PyData.tuple [.int (0 + (q.2 : Int)), frQ q.1] : D))
    (fun (s : List Nat) (o : Option D × Option D × Option D) => [.im d, .ow (.list (s.map nI)), sl o.1, sl o.2.1, sl o.2.2, .un]) (fun s q => insG (fun i => row.getD i 0) s q.2)
    (fun r s => ∃ n, r = row.zipIdx.drop n ∧ s = (List.range n).foldl (insG fun i => row.getD i 0) [] ∧ n ≤ row.length) (xs := row.zipIdx) (a := []) (o := (none, none, none))
    (fun x r s o ⟨n, h1, h2, h3⟩ => by
      have hn : n < row.length := by
        apply Classical.byContradiction
        intro z
        rw [List.drop_eq_nil_of_le (by simp; omega)] at h1
        cases h1
      have ed : row.zipIdx.drop n = (row[n], n) :: row.zipIdx.drop (n + 1) := by
        rw [List.drop_eq_getElem_cons (by simpa using hn)]
        simp
      rw [ed] at h1
      injection h1 with e1 e2
      subst e1 e2
      have lt : ∀ k ∈ s, k < row.length := fun k hk => by
        rw [h2] at hk
        have := List.mem_range.mp ((gfirst_upto _ n).1.mem_iff.mp hk)
        omega
      have ls : s.length = n := by rw [h2, (gfirst_upto _ n).1.length_eq, List.length_range]
      have eg : row.getD n 0 = row[n] := by rw [List.getD_eq_getElem?_getD, List.getElem?_eq_getElem hn]; rfl
      have lc := lcL_p (vs := [5]) (t := .nm 5) (c := cc_greatest_first_1) (el := ce_greatest_first_1) (rep := nI) (g := nI) (fun k => !decide (row.getD k 0 < row[n])) (acc := []) (xs := s)
        (e := [.im d, .lk false (.list (s.map nI)), .im (.int (0 + (n : Int))), .im (frQ row[n]), sl o.2.2, .un]) (fun x hx => by
          have hq := R_is_less (p := row.getD x 0) (q := row[n]) (by have := bqD x (lt x hx); have := hk _ (List.getElem_mem hn); omega)
          simp only [nI, cc_greatest_first_1, ce_greatest_first_1, io_is_less, itemD_r hd (lt x hx), hq, ite_self, x_runF, q_nx, q_rt, rep0, rep1, x_var, qV_im, qV_ow, x_rdS, sD_im, sD_ow, sD_io, sD_lk, x_canLk, sC_ow, sC_io, sC_im, sC_lk, sC_un, x_stSf, x_stSt, sS_un, sS_im, sS_ow, x_chS, sG_ow, sG_io, mOw_some, mIo_some, x_con, x_tup, x_lst, z_tup, z_lst, x_pr, z_pr, x_not, z_not, x_and, x_or, z_and, z_or, x_ite, z_ite, x_call, z_call, q_ok, lift2_some, x_callT, z_callT, q_okT, x_Anil, x_Bnil, x_Cnil, x_Acons, z_A, z_B, z_C, z_cons, x_Bvar, tB_some, z_var, x_Bpr, x_Bcon, x_Btup, x_Blst, x_Bcall, x_BcallT, x_Bnot, x_Bite, x_Blc, x_Cval, x_Cvar, tC_true, z_varC, t_not, t_and, t_or, t_cmp, t_var, t_call, t_isi, t_len, t_con, t_item, t_all, t_any, y_t, y_n, y_a, y_o, y_c, s_skip, s_seq, w_nx, s_set, w_set, s_put, w_put, w_put2, s_unp, w_unp, w_unpQ, w_ts0, w_tsn, w_tsi, w_ti, w_ts, s_par, w_par, w_par2, w_par3, w_par4, s_ex, w_ex, s_iff, w_if, s_whl, s_retv, q_rim, q_row, s_retpr, s_rettup, s_retlst, s_retcon, s_retcall, s_retnot, s_retand, s_retor, s_retite, s_retlc, w_ret, startE, bind_rt, bind_sexn, bind_bk, bind_ct, lift_some, go1_some, ob_some, om_some, Vm.cmpD, ordD, putI, outsE, contS, add_ii, subD, negD, absD, maxD, minD, lensD, len_l, len_t, truD, boolOf, intOf, ioIx, wb, isiD, isTy, toIntD, toListD, toTupleD, itemsOf, List.length_cons, List.length_nil, Int.reduceToNat, it0, it1, it2, it3, it4, it5, it6, ta0, ta1, ta2, eqL2, noneL1, isBL1, inL_l, inL_t, isNo_n, isNo_i, isNo_t, isNo_q, eqI, eqQ, eqSS, eq_self, decide_eq_true_eq, cut_a, cut_b, slc_l, slc_t, List.nil_append, List.cons_append, List.append_nil, List.getElem?_cons_zero, List.getElem?_cons_succ, List.set_cons_zero, List.set_cons_succ, List.set_nil, Option.isSome_some, if_true, if_false, reduceIte, reduceCtorEq, Nat.reduceSub, Nat.reduceAdd, Nat.reduceLT, decide_true, decide_false, Bool.not_true, Bool.not_false, Bool.false_eq_true, Nat.reduceEqDiff, List.nodup_nil, List.nodup_cons, List.not_mem_nil, not_false_eq_true, true_and, and_true, and_self, x_lc, z_lc2, q_lc, mw0, mw1, qW_un, qW_im, wp0, wp1, bk0, bk1, gd0, gd1, x_ofv, kWk_l, kWk_t, x_ofcall, x_ofcallT, x_ofpr, x_oftup, x_oflst, x_oflc, x_ofcon, z_of, walk_l, walk_t, x_rng1, x_rng2, z_rng2a, x_enum, x_enum2, x_zip, x_zip3, z_en, z_zp, z_zp3, s_frr, w_fr, ul_nx, ul_rt, ul0, lk0, ul1, lk1, x_lkS, x_ulS, qLk_ow, qLk_io, qUl_ow, qUl_io, srcs_ofv, srcs_ofcall, srcs_ofcallT, srcs_ofpr, srcs_oftup, srcs_oflst, srcs_oflc, srcs_ofcon, srcs_r1, srcs_r2, srcs_en, srcs_en2, srcs_zp, srcs_zp3, rv_nil, rv_var, rv_call, rv_pr, rv_con, rv_lc, rv_tup, rv_lst, fi0, fi1, g_nm, g_tp, g_nl, g_cn, w_kM, x_kM, x_lm, mOw_q, mIo_q, o_rev, o_clr, x_lcT, qT1_some, z_T2, z_T3, x_frT, qF1_some, sS_sl, qW_sl, sl_some, z_lm, q_lm, Bool.and_true, Bool.true_and, Bool.and_false, Bool.false_and, Bool.or_true, Bool.true_or, Bool.or_false, Bool.false_or, revD, pr_add, pr_sub, pr_mul, pr_fdiv, pr_mod, pr_pow, pr_neg, pr_item, pr_len, pr_abs, pr_max, pr_min, pr_toInt, pr_toList, pr_toTuple, pr_sum, pr_sorted, pr_repr, pr_all, pr_any, pr_divmod, pr_isi, pr_cmp, pr_cut, pr_rev, pr_lrg, pr_trg, sz0, sz1, sz2, sz3, sz4, sz5, sz6, sz7, sz8, sz9, sz10, sz11, sz12]
          split <;> rfl)
        (by have := sizeLine_big; simp only [List.length_nil]; omega)
      rw [List.nil_append] at lc
      have ln : (s.filter fun k => !decide (row.getD k 0 < row[n])).length ≤ n := by
        have := List.length_filter_le (fun k => !decide (row.getD k 0 < row[n])) s
        omega
      refine ⟨⟨(some (.int (0 + (n : Int))), some (frQ row[n]), some (.int ((s.filter fun k => !decide (row.getD k 0 < row[n])).length : Int))), .inl ?_⟩, n + 1, rfl, ?_, hn⟩
      · have oi := o_ins (xs := s.map nI) (d := .int (0 + (n : Int))) (i := ((s.filter fun k => !decide (row.getD k 0 < row[n])).length : Int)) (by omega) (by omega) (by have := sizeLine_big; rw [List.length_map]; omega)
        rw [Int.toNat_natCast] at oi
        simp only [fb_greatest_first_0, lc, oi, List.length_map, x_runF, q_nx, q_rt, rep0, rep1, x_var, qV_im, qV_ow, x_rdS, sD_im, sD_ow, sD_io, sD_lk, x_canLk, sC_ow, sC_io, sC_im, sC_lk, sC_un, x_stSf, x_stSt, sS_un, sS_im, sS_ow, x_chS, sG_ow, sG_io, mOw_some, mIo_some, x_con, x_tup, x_lst, z_tup, z_lst, x_pr, z_pr, x_not, z_not, x_and, x_or, z_and, z_or, x_ite, z_ite, x_call, z_call, q_ok, lift2_some, x_callT, z_callT, q_okT, x_Anil, x_Bnil, x_Cnil, x_Acons, z_A, z_B, z_C, z_cons, x_Bvar, tB_some, z_var, x_Bpr, x_Bcon, x_Btup, x_Blst, x_Bcall, x_BcallT, x_Bnot, x_Bite, x_Blc, x_Cval, x_Cvar, tC_true, z_varC, t_not, t_and, t_or, t_cmp, t_var, t_call, t_isi, t_len, t_con, t_item, t_all, t_any, y_t, y_n, y_a, y_o, y_c, s_skip, s_seq, w_nx, s_set, w_set, s_put, w_put, w_put2, s_unp, w_unp, w_unpQ, w_ts0, w_tsn, w_tsi, w_ti, w_ts, s_par, w_par, w_par2, w_par3, w_par4, s_ex, w_ex, s_iff, w_if, s_whl, s_retv, q_rim, q_row, s_retpr, s_rettup, s_retlst, s_retcon, s_retcall, s_retnot, s_retand, s_retor, s_retite, s_retlc, w_ret, startE, bind_rt, bind_sexn, bind_bk, bind_ct, lift_some, go1_some, ob_some, om_some, Vm.cmpD, ordD, putI, outsE, contS, add_ii, subD, negD, absD, maxD, minD, lensD, len_l, len_t, truD, boolOf, intOf, ioIx, wb, isiD, isTy, toIntD, toListD, toTupleD, itemsOf, List.length_cons, List.length_nil, Int.reduceToNat, it0, it1, it2, it3, it4, it5, it6, ta0, ta1, ta2, eqL2, noneL1, isBL1, inL_l, inL_t, isNo_n, isNo_i, isNo_t, isNo_q, eqI, eqQ, eqSS, eq_self, decide_eq_true_eq, cut_a, cut_b, slc_l, slc_t, List.nil_append, List.cons_append, List.append_nil, List.getElem?_cons_zero, List.getElem?_cons_succ, List.set_cons_zero, List.set_cons_succ, List.set_nil, Option.isSome_some, if_true, if_false, reduceIte, reduceCtorEq, Nat.reduceSub, Nat.reduceAdd, Nat.reduceLT, decide_true, decide_false, Bool.not_true, Bool.not_false, Bool.false_eq_true, Nat.reduceEqDiff, List.nodup_nil, List.nodup_cons, List.not_mem_nil, not_false_eq_true, true_and, and_true, and_self, x_lc, z_lc2, q_lc, mw0, mw1, qW_un, qW_im, wp0, wp1, bk0, bk1, gd0, gd1, x_ofv, kWk_l, kWk_t, x_ofcall, x_ofcallT, x_ofpr, x_oftup, x_oflst, x_oflc, x_ofcon, z_of, walk_l, walk_t, x_rng1, x_rng2, z_rng2a, x_enum, x_enum2, x_zip, x_zip3, z_en, z_zp, z_zp3, s_frr, w_fr, ul_nx, ul_rt, ul0, lk0, ul1, lk1, x_lkS, x_ulS, qLk_ow, qLk_io, qUl_ow, qUl_io, srcs_ofv, srcs_ofcall, srcs_ofcallT, srcs_ofpr, srcs_oftup, srcs_oflst, srcs_oflc, srcs_ofcon, srcs_r1, srcs_r2, srcs_en, srcs_en2, srcs_zp, srcs_zp3, rv_nil, rv_var, rv_call, rv_pr, rv_con, rv_lc, rv_tup, rv_lst, fi0, fi1, g_nm, g_tp, g_nl, g_cn, w_kM, x_kM, x_lm, mOw_q, mIo_q, o_rev, o_clr, x_lcT, qT1_some, z_T2, z_T3, x_frT, qF1_some, sS_sl, qW_sl, sl_some, z_lm, q_lm, Bool.and_true, Bool.true_and, Bool.and_false, Bool.false_and, Bool.or_true, Bool.true_or, Bool.or_false, Bool.false_or, revD, pr_add, pr_sub, pr_mul, pr_fdiv, pr_mod, pr_pow, pr_neg, pr_item, pr_len, pr_abs, pr_max, pr_min, pr_toInt, pr_toList, pr_toTuple, pr_sum, pr_sorted, pr_repr, pr_all, pr_any, pr_divmod, pr_isi, pr_cmp, pr_cut, pr_rev, pr_lrg, pr_trg, sz0, sz1, sz2, sz3, sz4, sz5, sz6, sz7, sz8, sz9, sz10, sz11, sz12]
        unfold insG
        simp only [eg, List.map_append, List.map_cons, List.map_take, List.map_drop, nI, Int.zero_add, sl_some]
      · rw [List.range_succ, List.foldl_append, h2]
        rfl) ⟨0, rfl, rfl, Nat.zero_le _⟩
  have e0 : row.zipIdx.foldl (fun s q => insG (fun i => row.getD i 0) s q.2) [] = gfirst row := by
    unfold gfirst
    rw [← List.foldl_map (f := fun q : Rat × Nat => q.2)]
    congr 1
    apply List.ext_getElem?
    intro i
    rw [List.getElem?_map, List.getElem?_zipIdx]
    by_cases hi : i < row.length
    · rw [List.getElem?_eq_getElem hi, List.getElem?_range hi]
      simp
    · rw [List.getElem?_eq_none (by omega), List.getElem?_eq_none (by simp; omega)]
      rfl
  rw [e0] at h1
  have h1 : frL (.tp (.cn (.nm 2) (.cn (.nm 3) .nl))) (evS fb_greatest_first_0) (row.zipIdx.map fun q : Rat × Nat => (PyData.tuple [.int (0 + (q.2 : Int)), frQ q.1] : D)) [.im d, .ow (.list []), .un, .un, .un, .un] = .nx [.im d, .ow (.list ((gfirst row).map nI)), sl o'.1, sl o'.2.1, sl o'.2.2, .un] := h1
  simp only [m_greatest_first, b_greatest_first, hd, enumD_map, h1, x_runF, q_nx, q_rt, rep0, rep1, x_var, qV_im, qV_ow, x_rdS, sD_im, sD_ow, sD_io, sD_lk, x_canLk, sC_ow, sC_io, sC_im, sC_lk, sC_un, x_stSf, x_stSt, sS_un, sS_im, sS_ow, x_chS, sG_ow, sG_io, mOw_some, mIo_some, x_con, x_tup, x_lst, z_tup, z_lst, x_pr, z_pr, x_not, z_not, x_and, x_or, z_and, z_or, x_ite, z_ite, x_call, z_call, q_ok, lift2_some, x_callT, z_callT, q_okT, x_Anil, x_Bnil, x_Cnil, x_Acons, z_A, z_B, z_C, z_cons, x_Bvar, tB_some, z_var, x_Bpr, x_Bcon, x_Btup, x_Blst, x_Bcall, x_BcallT, x_Bnot, x_Bite, x_Blc, x_Cval, x_Cvar, tC_true, z_varC, t_not, t_and, t_or, t_cmp, t_var, t_call, t_isi, t_len, t_con, t_item, t_all, t_any, y_t, y_n, y_a, y_o, y_c, s_skip, s_seq, w_nx, s_set, w_set, s_put, w_put, w_put2, s_unp, w_unp, w_unpQ, w_ts0, w_tsn, w_tsi, w_ti, w_ts, s_par, w_par, w_par2, w_par3, w_par4, s_ex, w_ex, s_iff, w_if, s_whl, s_retv, q_rim, q_row, s_retpr, s_rettup, s_retlst, s_retcon, s_retcall, s_retnot, s_retand, s_retor, s_retite, s_retlc, w_ret, startE, bind_rt, bind_sexn, bind_bk, bind_ct, lift_some, go1_some, ob_some, om_some, Vm.cmpD, ordD, putI, outsE, contS, add_ii, subD, negD, absD, maxD, minD, lensD, len_l, len_t, truD, boolOf, intOf, ioIx, wb, isiD, isTy, toIntD, toListD, toTupleD, itemsOf, List.length_cons, List.length_nil, Int.reduceToNat, it0, it1, it2, it3, it4, it5, it6, ta0, ta1, ta2, eqL2, noneL1, isBL1, inL_l, inL_t, isNo_n, isNo_i, isNo_t, isNo_q, eqI, eqQ, eqSS, eq_self, decide_eq_true_eq, cut_a, cut_b, slc_l, slc_t, List.nil_append, List.cons_append, List.append_nil, List.getElem?_cons_zero, List.getElem?_cons_succ, List.set_cons_zero, List.set_cons_succ, List.set_nil, Option.isSome_some, if_true, if_false, reduceIte, reduceCtorEq, Nat.reduceSub, Nat.reduceAdd, Nat.reduceLT, decide_true, decide_false, Bool.not_true, Bool.not_false, Bool.false_eq_true, Nat.reduceEqDiff, List.nodup_nil, List.nodup_cons, List.not_mem_nil, not_false_eq_true, true_and, and_true, and_self, x_lc, z_lc2, q_lc, mw0, mw1, qW_un, qW_im, wp0, wp1, bk0, bk1, gd0, gd1, x_ofv, kWk_l, kWk_t, x_ofcall, x_ofcallT, x_ofpr, x_oftup, x_oflst, x_oflc, x_ofcon, z_of, walk_l, walk_t, x_rng1, x_rng2, z_rng2a, x_enum, x_enum2, x_zip, x_zip3, z_en, z_zp, z_zp3, s_frr, w_fr, ul_nx, ul_rt, ul0, lk0, ul1, lk1, x_lkS, x_ulS, qLk_ow, qLk_io, qUl_ow, qUl_io, srcs_ofv, srcs_ofcall, srcs_ofcallT, srcs_ofpr, srcs_oftup, srcs_oflst, srcs_oflc, srcs_ofcon, srcs_r1, srcs_r2, srcs_en, srcs_en2, srcs_zp, srcs_zp3, rv_nil, rv_var, rv_call, rv_pr, rv_con, rv_lc, rv_tup, rv_lst, fi0, fi1, g_nm, g_tp, g_nl, g_cn, w_kM, x_kM, x_lm, mOw_q, mIo_q, o_rev, o_clr, x_lcT, qT1_some, z_T2, z_T3, x_frT, qF1_some, sS_sl, qW_sl, sl_some, z_lm, q_lm, Bool.and_true, Bool.true_and, Bool.and_false, Bool.false_and, Bool.or_true, Bool.true_or, Bool.or_false, Bool.false_or, revD, pr_add, pr_sub, pr_mul, pr_fdiv, pr_mod, pr_pow, pr_neg, pr_item, pr_len, pr_abs, pr_max, pr_min, pr_toInt, pr_toList, pr_toTuple, pr_sum, pr_sorted, pr_repr, pr_all, pr_any, pr_divmod, pr_isi, pr_cmp, pr_cut, pr_rev, pr_lrg, pr_trg, sz0, sz1, sz2, sz3, sz4, sz5, sz6, sz7, sz8, sz9, sz10, sz11, sz12]
end Lb
/-! L4: sums.py, further -/
namespace Lb
open PySem PySem.Spec PyProof.Rows L2 Vm
theorem len_w {d : D} {ds : List D} (hd : walkD d = some ds) : lenD d = some ds.length := by
  unfold walkD at hd
  split at hd <;> cases hd <;> rfl
theorem it_last {xs : List D} {y : D} : itemD [.list (xs ++ [y]), .int (-1)] = some (y, false) := by
  show (atI (xs ++ [y]) (-1)).map _ = _
  have : atI (xs ++ [y]) (-1) = some y := by
    unfold atI ixN
    rw [if_neg (by omega), if_pos (by simp; omega)]
    show (xs ++ [y])[((-1 : Int) + ((xs ++ [y]).length : Int)).toNat]? = _
    rw [List.length_append, List.length_singleton, show ((-1 : Int) + ((xs.length + 1 : Nat) : Int)).toNat = xs.length by omega]
    simp
  rw [this]
  rfl
/-- what the k greatest come to -/
def Sg (g : Nat → Rat) (o : List Nat) (k : Nat) : Rat := ((o.take k).map g).sum
def SG (row : List Rat) (k : Nat) : Rat := Sg (fun i => row.getD i 0) (gfirst row) k
theorem Sg_succ {g : Nat → Rat} {o : List Nat} {k : Nat} (h : k < o.length) : Sg g o (k + 1) = Sg g o k + g o[k] := by
  unfold Sg
  rw [← List.take_append_getElem h, List.map_append, List.sum_append, List.map_cons, List.map_nil, List.sum_cons, List.sum_nil]
  grind
theorem Sg_bq {g : Nat → Rat} {o : List Nat} {k K n : Nat} (h : ∀ i ∈ o, bq (g i) ≤ K) (hn : o.length ≤ n) : bq (Sg g o k) ≤ (K + 1) * n + 1 := by
  have h1 := bq_sum (k := K) (row := (o.take k).map g) fun q hq => by
    obtain ⟨i, hi, rfl⟩ := List.mem_map.mp hq
    exact h i (List.mem_of_mem_take hi)
  have h2 : ((o.take k).map g).length ≤ n := by
    rw [List.length_map]
    exact Nat.le_trans (List.length_take_le' ..) hn
  have h3 : (K + 1) * ((o.take k).map g).length ≤ (K + 1) * n := Nat.mul_le_mul_left _ h2
  unfold Sg
  omega
theorem getD_bq {row : List Rat} {K i : Nat} (hk : ∀ q ∈ row, bq q ≤ K) (hi : i < row.length) : bq (row.getD i 0) ≤ K := by
  rw [List.getD_eq_getElem?_getD, List.getElem?_eq_getElem hi]
  exact hk _ (List.getElem_mem hi)
theorem SG_bq {row : List Rat} {k K : Nat} (hk : ∀ q ∈ row, bq q ≤ K) : bq (SG row k) ≤ (K + 1) * row.length + 1 :=
  Sg_bq (fun i hi => getD_bq hk (gfirst_lt hi)) (by rw [gfirst_len]; exact Nat.le_refl _)
/- sums_ahead: 0 row, 1 found, 2 place -/
noncomputable def fb_sums_ahead_0 : S := .ex (.lm .app 1 (.cons (.call Lb.m_plus (.cons (.pr .item (.cons (.var 1) (.cons (.pr .neg (.cons (.con (.int 1)) (.nil))) (.nil)))) (.cons (.pr .item (.cons (.var 0) (.cons (.var 2) (.nil)))) (.nil)))) (.nil)))
noncomputable def b_sums_ahead : S := .seq (.set 1 (.lst (.cons (.con (.tuple [.int 0, .int 1])) (.nil)))) (.seq (.frr (.nm 2) (.of (.call Lb.m_greatest_first (.cons (.var 0) (.nil)))) fb_sums_ahead_0) (.ret (.var 1)))
noncomputable def m_sums_ahead : Fm := ⟨[false], runF [false] 3 b_sums_ahead⟩
theorem io_sums_ahead : m_sums_ahead.io = [false] := rfl
theorem R_sums_aheadB {row : List Rat} {d : D} {K B : Nat} (hd : walkD d = some (row.map frQ)) (hk : ∀ q ∈ row, bq q ≤ K) (hS : ∀ k, bq (SG row k) ≤ B) (hz : K + B ≤ 8000) (hL : row.length ≤ 7000) : m_sums_ahead.run [d] = .ok (.list ((List.range (row.length + 1)).map fun k => frQ (SG row k))) true [] := by
  have gf := R_greatest_first hd hk (by omega) (by omega)
  have gl := gfirst_len row
  obtain ⟨a', f1, m, f2, f3, f4⟩ := frL_st (t := .nm 2) (s := fb_sums_ahead_0) (rep := nI) (fun (a : List Rat × Option D) => [.im d, .ow (.list (a.1.map frQ)), sl a.2])
    (fun r a => ∃ m, r = (gfirst row).drop m ∧ m ≤ row.length ∧ a.1 = (List.range (m + 1)).map (SG row)) (xs := gfirst row) (a := ([0], none)) (fun x r ⟨found, o⟩ ⟨m, h1, h2, h3⟩ => by
      have h3 : found = (List.range (m + 1)).map (SG row) := h3
      have hm : m < (gfirst row).length := by
        apply Classical.byContradiction
        intro z
        rw [List.drop_eq_nil_of_le (by omega)] at h1
        cases h1
      rw [List.drop_eq_getElem_cons hm] at h1
      injection h1 with e1 e2
      subst e1 e2 h3
      have hx : (gfirst row)[m] < row.length := gfirst_lt (List.getElem_mem hm)
      have b1 := hS m
      have b2 := getD_bq hk hx
      have hq := R_plus (p := SG row m) (q := row.getD (gfirst row)[m] 0) (by omega)
      have es : SG row m + row.getD (gfirst row)[m] 0 = SG row (m + 1) := (Sg_succ hm).symm
      rw [es] at hq
      have er : ((List.range (m + 1)).map (SG row)).map frQ = (((List.range m).map (SG row)).map frQ) ++ [frQ (SG row m)] := by
        rw [List.range_succ, List.map_append, List.map_append]
        rfl
      have oa := o_app (xs := (((List.range m).map (SG row)).map frQ) ++ [frQ (SG row m)]) (d := frQ (SG row (m + 1))) (by have := sizeLine_big; simp; omega)
      refine ⟨((List.range (m + 1 + 1)).map (SG row), some (nI (gfirst row)[m])), .inl ?_, m + 1, rfl, by omega, rfl⟩
      have er2 : ((List.range (m + 1 + 1)).map (SG row)).map frQ = (((List.range m).map (SG row)).map frQ ++ [frQ (SG row m)]) ++ [frQ (SG row (m + 1))] := by
        rw [List.range_succ, List.map_append, List.map_append, er]
        rfl
      simp only [er, er2]
      simp only [fb_sums_ahead_0, nI, io_plus, it_last, itemD_r hd hx, hq, oa, x_runF, q_nx, q_rt, rep0, rep1, x_var, qV_im, qV_ow, x_rdS, sD_im, sD_ow, sD_io, sD_lk, x_canLk, sC_ow, sC_io, sC_im, sC_lk, sC_un, x_stSf, x_stSt, sS_un, sS_im, sS_ow, x_chS, sG_ow, sG_io, mOw_some, mIo_some, x_con, x_tup, x_lst, z_tup, z_lst, x_pr, z_pr, x_not, z_not, x_and, x_or, z_and, z_or, x_ite, z_ite, x_call, z_call, q_ok, lift2_some, x_callT, z_callT, q_okT, x_Anil, x_Bnil, x_Cnil, x_Acons, z_A, z_B, z_C, z_cons, x_Bvar, tB_some, z_var, x_Bpr, x_Bcon, x_Btup, x_Blst, x_Bcall, x_BcallT, x_Bnot, x_Bite, x_Blc, x_Cval, x_Cvar, tC_true, z_varC, t_not, t_and, t_or, t_cmp, t_var, t_call, t_isi, t_len, t_con, t_item, t_all, t_any, y_t, y_n, y_a, y_o, y_c, s_skip, s_seq, w_nx, s_set, w_set, s_put, w_put, w_put2, s_unp, w_unp, w_unpQ, w_ts0, w_tsn, w_tsi, w_ti, w_ts, s_par, w_par, w_par2, w_par3, w_par4, s_ex, w_ex, s_iff, w_if, s_whl, s_retv, q_rim, q_row, s_retpr, s_rettup, s_retlst, s_retcon, s_retcall, s_retnot, s_retand, s_retor, s_retite, s_retlc, w_ret, startE, bind_rt, bind_sexn, bind_bk, bind_ct, lift_some, go1_some, ob_some, om_some, Vm.cmpD, ordD, putI, outsE, contS, add_ii, subD, negD, absD, maxD, minD, lensD, len_l, len_t, truD, boolOf, intOf, ioIx, wb, isiD, isTy, toIntD, toListD, toTupleD, itemsOf, List.length_cons, List.length_nil, Int.reduceToNat, it0, it1, it2, it3, it4, it5, it6, ta0, ta1, ta2, eqL2, noneL1, isBL1, inL_l, inL_t, isNo_n, isNo_i, isNo_t, isNo_q, eqI, eqQ, eqSS, eq_self, decide_eq_true_eq, cut_a, cut_b, slc_l, slc_t, List.nil_append, List.cons_append, List.append_nil, List.getElem?_cons_zero, List.getElem?_cons_succ, List.set_cons_zero, List.set_cons_succ, List.set_nil, Option.isSome_some, if_true, if_false, reduceIte, reduceCtorEq, Nat.reduceSub, Nat.reduceAdd, Nat.reduceLT, decide_true, decide_false, Bool.not_true, Bool.not_false, Bool.false_eq_true, Nat.reduceEqDiff, List.nodup_nil, List.nodup_cons, List.not_mem_nil, not_false_eq_true, true_and, and_true, and_self, x_lc, z_lc2, q_lc, mw0, mw1, qW_un, qW_im, wp0, wp1, bk0, bk1, gd0, gd1, x_ofv, kWk_l, kWk_t, x_ofcall, x_ofcallT, x_ofpr, x_oftup, x_oflst, x_oflc, x_ofcon, z_of, walk_l, walk_t, x_rng1, x_rng2, z_rng2a, x_enum, x_enum2, x_zip, x_zip3, z_en, z_zp, z_zp3, s_frr, w_fr, ul_nx, ul_rt, ul0, lk0, ul1, lk1, x_lkS, x_ulS, qLk_ow, qLk_io, qUl_ow, qUl_io, srcs_ofv, srcs_ofcall, srcs_ofcallT, srcs_ofpr, srcs_oftup, srcs_oflst, srcs_oflc, srcs_ofcon, srcs_r1, srcs_r2, srcs_en, srcs_en2, srcs_zp, srcs_zp3, rv_nil, rv_var, rv_call, rv_pr, rv_con, rv_lc, rv_tup, rv_lst, fi0, fi1, g_nm, g_tp, g_nl, g_cn, w_kM, x_kM, x_lm, mOw_q, mIo_q, o_rev, o_clr, x_lcT, qT1_some, z_T2, z_T3, x_frT, qF1_some, sS_sl, qW_sl, sl_some, z_lm, q_lm, Bool.and_true, Bool.true_and, Bool.and_false, Bool.false_and, Bool.or_true, Bool.true_or, Bool.or_false, Bool.false_or, revD, pr_add, pr_sub, pr_mul, pr_fdiv, pr_mod, pr_pow, pr_neg, pr_item, pr_len, pr_abs, pr_max, pr_min, pr_toInt, pr_toList, pr_toTuple, pr_sum, pr_sorted, pr_repr, pr_all, pr_any, pr_divmod, pr_isi, pr_cmp, pr_cut, pr_rev, pr_lrg, pr_trg, sz0, sz1, sz2, sz3, sz4, sz5, sz6, sz7, sz8, sz9, sz10, sz11, sz12]) ⟨0, rfl, Nat.zero_le _, by
        show _ = [SG row 0]
        have : SG row 0 = 0 := by unfold SG Sg; simp
        rw [this]⟩
  have hm : m = row.length := by
    have := congrArg List.length f2
    rw [List.length_drop, List.length_nil, gl] at this
    omega
  rw [f4, hm] at f1
  have f1 : frL (.nm 2) (evS fb_sums_ahead_0) ((gfirst row).map nI) [.im d, .ow (.list [frQ 0]), .un] = .nx [.im d, .ow (.list (((List.range (row.length + 1)).map (SG row)).map frQ)), sl a'.2] := f1
  rw [List.map_map] at f1
  simp only [m_sums_ahead, b_sums_ahead, io_greatest_first, gf, nought, f1, Function.comp_def, x_runF, q_nx, q_rt, rep0, rep1, x_var, qV_im, qV_ow, x_rdS, sD_im, sD_ow, sD_io, sD_lk, x_canLk, sC_ow, sC_io, sC_im, sC_lk, sC_un, x_stSf, x_stSt, sS_un, sS_im, sS_ow, x_chS, sG_ow, sG_io, mOw_some, mIo_some, x_con, x_tup, x_lst, z_tup, z_lst, x_pr, z_pr, x_not, z_not, x_and, x_or, z_and, z_or, x_ite, z_ite, x_call, z_call, q_ok, lift2_some, x_callT, z_callT, q_okT, x_Anil, x_Bnil, x_Cnil, x_Acons, z_A, z_B, z_C, z_cons, x_Bvar, tB_some, z_var, x_Bpr, x_Bcon, x_Btup, x_Blst, x_Bcall, x_BcallT, x_Bnot, x_Bite, x_Blc, x_Cval, x_Cvar, tC_true, z_varC, t_not, t_and, t_or, t_cmp, t_var, t_call, t_isi, t_len, t_con, t_item, t_all, t_any, y_t, y_n, y_a, y_o, y_c, s_skip, s_seq, w_nx, s_set, w_set, s_put, w_put, w_put2, s_unp, w_unp, w_unpQ, w_ts0, w_tsn, w_tsi, w_ti, w_ts, s_par, w_par, w_par2, w_par3, w_par4, s_ex, w_ex, s_iff, w_if, s_whl, s_retv, q_rim, q_row, s_retpr, s_rettup, s_retlst, s_retcon, s_retcall, s_retnot, s_retand, s_retor, s_retite, s_retlc, w_ret, startE, bind_rt, bind_sexn, bind_bk, bind_ct, lift_some, go1_some, ob_some, om_some, Vm.cmpD, ordD, putI, outsE, contS, add_ii, subD, negD, absD, maxD, minD, lensD, len_l, len_t, truD, boolOf, intOf, ioIx, wb, isiD, isTy, toIntD, toListD, toTupleD, itemsOf, List.length_cons, List.length_nil, Int.reduceToNat, it0, it1, it2, it3, it4, it5, it6, ta0, ta1, ta2, eqL2, noneL1, isBL1, inL_l, inL_t, isNo_n, isNo_i, isNo_t, isNo_q, eqI, eqQ, eqSS, eq_self, decide_eq_true_eq, cut_a, cut_b, slc_l, slc_t, List.nil_append, List.cons_append, List.append_nil, List.getElem?_cons_zero, List.getElem?_cons_succ, List.set_cons_zero, List.set_cons_succ, List.set_nil, Option.isSome_some, if_true, if_false, reduceIte, reduceCtorEq, Nat.reduceSub, Nat.reduceAdd, Nat.reduceLT, decide_true, decide_false, Bool.not_true, Bool.not_false, Bool.false_eq_true, Nat.reduceEqDiff, List.nodup_nil, List.nodup_cons, List.not_mem_nil, not_false_eq_true, true_and, and_true, and_self, x_lc, z_lc2, q_lc, mw0, mw1, qW_un, qW_im, wp0, wp1, bk0, bk1, gd0, gd1, x_ofv, kWk_l, kWk_t, x_ofcall, x_ofcallT, x_ofpr, x_oftup, x_oflst, x_oflc, x_ofcon, z_of, walk_l, walk_t, x_rng1, x_rng2, z_rng2a, x_enum, x_enum2, x_zip, x_zip3, z_en, z_zp, z_zp3, s_frr, w_fr, ul_nx, ul_rt, ul0, lk0, ul1, lk1, x_lkS, x_ulS, qLk_ow, qLk_io, qUl_ow, qUl_io, srcs_ofv, srcs_ofcall, srcs_ofcallT, srcs_ofpr, srcs_oftup, srcs_oflst, srcs_oflc, srcs_ofcon, srcs_r1, srcs_r2, srcs_en, srcs_en2, srcs_zp, srcs_zp3, rv_nil, rv_var, rv_call, rv_pr, rv_con, rv_lc, rv_tup, rv_lst, fi0, fi1, g_nm, g_tp, g_nl, g_cn, w_kM, x_kM, x_lm, mOw_q, mIo_q, o_rev, o_clr, x_lcT, qT1_some, z_T2, z_T3, x_frT, qF1_some, sS_sl, qW_sl, sl_some, z_lm, q_lm, Bool.and_true, Bool.true_and, Bool.and_false, Bool.false_and, Bool.or_true, Bool.true_or, Bool.or_false, Bool.false_or, revD, pr_add, pr_sub, pr_mul, pr_fdiv, pr_mod, pr_pow, pr_neg, pr_item, pr_len, pr_abs, pr_max, pr_min, pr_toInt, pr_toList, pr_toTuple, pr_sum, pr_sorted, pr_repr, pr_all, pr_any, pr_divmod, pr_isi, pr_cmp, pr_cut, pr_rev, pr_lrg, pr_trg, sz0, sz1, sz2, sz3, sz4, sz5, sz6, sz7, sz8, sz9, sz10, sz11, sz12]
theorem SG_lin {row : List Rat} {K : Nat} (hk : ∀ q ∈ row, bq q ≤ K) (hz : (K + 1) * (row.length + 1) ≤ 7000) : (∀ k, bq (SG row k) ≤ 7000 - K) ∧ K ≤ 7000 ∧ row.length ≤ 7000 := by
  have hK : K ≤ 7000 := by
    have : (K + 1) * 1 ≤ (K + 1) * (row.length + 1) := Nat.mul_le_mul_left _ (by omega)
    omega
  have hL : row.length ≤ 7000 := by
    have : 1 * (row.length + 1) ≤ (K + 1) * (row.length + 1) := Nat.mul_le_mul_right _ (by omega)
    omega
  have hmul : (K + 1) * row.length + (K + 1) ≤ 7000 := by rw [Nat.mul_succ] at hz; exact hz
  exact ⟨fun k => by have := SG_bq (k := k) hk; omega, hK, hL⟩
theorem R_sums_ahead {row : List Rat} {d : D} {K : Nat} (hd : walkD d = some (row.map frQ)) (hk : ∀ q ∈ row, bq q ≤ K) (hz : (K + 1) * (row.length + 1) ≤ 7000) : m_sums_ahead.run [d] = .ok (.list ((List.range (row.length + 1)).map fun k => frQ (SG row k))) true [] := by
  obtain ⟨h1, h2, h3⟩ := SG_lin hk hz
  exact R_sums_aheadB hd hk h1 (by omega) h3
/-- the most -/
def Mo (w n k : Int) : Rat := ((w * k * (n - k) : Int) : Rat) / ((2 : Int) : Rat)
theorem Mo_bq {w n k : Int} {b : Nat} (h : bl w + bl k + bl (n - k) ≤ b) : bq (Mo w n k) ≤ max b 2 := by
  have h1 := bl_mul w k
  have h2 := bl_mul (w * k) (n - k)
  have h3 : bl 2 ≤ 2 := by decide
  have := bq_frac (w * k * (n - k)) (b := 2) (by decide)
  unfold Mo
  omega
/- most: 0 weight, 1 seats, 2 many -/
noncomputable def b_most : S := .ret (.call Lb.m_lowest (.cons (.pr .mul (.cons (.pr .mul (.cons (.var 0) (.cons (.var 2) (.nil)))) (.cons (.pr .sub (.cons (.var 1) (.cons (.var 2) (.nil)))) (.nil)))) (.cons (.con (.int 2)) (.nil))))
noncomputable def m_most : Fm := ⟨[false, false, false], runF [false, false, false] 3 b_most⟩
theorem io_most : m_most.io = [false, false, false] := rfl
theorem R_most {w n k : Int} (h : bl w + bl k + bl (n - k) ≤ 134217728) : m_most.run [.int w, .int n, .int k] = .ok (frQ (Mo w n k)) false [] := by
  have h1 := bl_mul w k
  have h2 : bl 2 ≤ 40 := bl_le 40 (by decide) (by decide)
  have hl := R_lowest (a := w * k * (n - k)) (b := 2) (by decide) (by omega)
  simp only [m_most, b_most, io_lowest, Mo, o_mul (i := w) (j := k) (by omega), o_mul (i := w * k) (j := n - k) (by omega), hl, x_runF, q_nx, q_rt, rep0, rep1, x_var, qV_im, qV_ow, x_rdS, sD_im, sD_ow, sD_io, sD_lk, x_canLk, sC_ow, sC_io, sC_im, sC_lk, sC_un, x_stSf, x_stSt, sS_un, sS_im, sS_ow, x_chS, sG_ow, sG_io, mOw_some, mIo_some, x_con, x_tup, x_lst, z_tup, z_lst, x_pr, z_pr, x_not, z_not, x_and, x_or, z_and, z_or, x_ite, z_ite, x_call, z_call, q_ok, lift2_some, x_callT, z_callT, q_okT, x_Anil, x_Bnil, x_Cnil, x_Acons, z_A, z_B, z_C, z_cons, x_Bvar, tB_some, z_var, x_Bpr, x_Bcon, x_Btup, x_Blst, x_Bcall, x_BcallT, x_Bnot, x_Bite, x_Blc, x_Cval, x_Cvar, tC_true, z_varC, t_not, t_and, t_or, t_cmp, t_var, t_call, t_isi, t_len, t_con, t_item, t_all, t_any, y_t, y_n, y_a, y_o, y_c, s_skip, s_seq, w_nx, s_set, w_set, s_put, w_put, w_put2, s_unp, w_unp, w_unpQ, w_ts0, w_tsn, w_tsi, w_ti, w_ts, s_par, w_par, w_par2, w_par3, w_par4, s_ex, w_ex, s_iff, w_if, s_whl, s_retv, q_rim, q_row, s_retpr, s_rettup, s_retlst, s_retcon, s_retcall, s_retnot, s_retand, s_retor, s_retite, s_retlc, w_ret, startE, bind_rt, bind_sexn, bind_bk, bind_ct, lift_some, go1_some, ob_some, om_some, Vm.cmpD, ordD, putI, outsE, contS, add_ii, subD, negD, absD, maxD, minD, lensD, len_l, len_t, truD, boolOf, intOf, ioIx, wb, isiD, isTy, toIntD, toListD, toTupleD, itemsOf, List.length_cons, List.length_nil, Int.reduceToNat, it0, it1, it2, it3, it4, it5, it6, ta0, ta1, ta2, eqL2, noneL1, isBL1, inL_l, inL_t, isNo_n, isNo_i, isNo_t, isNo_q, eqI, eqQ, eqSS, eq_self, decide_eq_true_eq, cut_a, cut_b, slc_l, slc_t, List.nil_append, List.cons_append, List.append_nil, List.getElem?_cons_zero, List.getElem?_cons_succ, List.set_cons_zero, List.set_cons_succ, List.set_nil, Option.isSome_some, if_true, if_false, reduceIte, reduceCtorEq, Nat.reduceSub, Nat.reduceAdd, Nat.reduceLT, decide_true, decide_false, Bool.not_true, Bool.not_false, Bool.false_eq_true, Nat.reduceEqDiff, List.nodup_nil, List.nodup_cons, List.not_mem_nil, not_false_eq_true, true_and, and_true, and_self, x_lc, z_lc2, q_lc, mw0, mw1, qW_un, qW_im, wp0, wp1, bk0, bk1, gd0, gd1, x_ofv, kWk_l, kWk_t, x_ofcall, x_ofcallT, x_ofpr, x_oftup, x_oflst, x_oflc, x_ofcon, z_of, walk_l, walk_t, x_rng1, x_rng2, z_rng2a, x_enum, x_enum2, x_zip, x_zip3, z_en, z_zp, z_zp3, s_frr, w_fr, ul_nx, ul_rt, ul0, lk0, ul1, lk1, x_lkS, x_ulS, qLk_ow, qLk_io, qUl_ow, qUl_io, srcs_ofv, srcs_ofcall, srcs_ofcallT, srcs_ofpr, srcs_oftup, srcs_oflst, srcs_oflc, srcs_ofcon, srcs_r1, srcs_r2, srcs_en, srcs_en2, srcs_zp, srcs_zp3, rv_nil, rv_var, rv_call, rv_pr, rv_con, rv_lc, rv_tup, rv_lst, fi0, fi1, g_nm, g_tp, g_nl, g_cn, w_kM, x_kM, x_lm, mOw_q, mIo_q, o_rev, o_clr, x_lcT, qT1_some, z_T2, z_T3, x_frT, qF1_some, sS_sl, qW_sl, sl_some, z_lm, q_lm, Bool.and_true, Bool.true_and, Bool.and_false, Bool.false_and, Bool.or_true, Bool.true_or, Bool.or_false, Bool.false_or, revD, pr_add, pr_sub, pr_mul, pr_fdiv, pr_mod, pr_pow, pr_neg, pr_item, pr_len, pr_abs, pr_max, pr_min, pr_toInt, pr_toList, pr_toTuple, pr_sum, pr_sorted, pr_repr, pr_all, pr_any, pr_divmod, pr_isi, pr_cmp, pr_cut, pr_rev, pr_lrg, pr_trg, sz0, sz1, sz2, sz3, sz4, sz5, sz6, sz7, sz8, sz9, sz10, sz11, sz12]
theorem zipIdx_range {α : Type} {f : Nat → α} {n : Nat} : ((List.range n).map f).zipIdx = (List.range n).map fun k => (f k, k) := by
  apply List.ext_getElem?
  intro i
  rw [List.getElem?_zipIdx, List.getElem?_map, List.getElem?_map]
  by_cases h : i < n
  · rw [List.getElem?_range h]
    simp
  · rw [List.getElem?_eq_none (by simp; omega)]
    rfl
def fallR (w : Int) (row : List Rat) : Option Nat := (List.range (row.length + 1)).find? fun (k : Nat) => decide (Mo w row.length k < SG row k)
def oN : Option Nat → D
  | some k => nI k
  | none => .none
/- fall: 0 weight, 1 row, 2 many, 3 one -/
noncomputable def fb_fall_0 : S := .iff (.call Lb.m_is_less (.cons (.call Lb.m_most (.cons (.var 0) (.cons (.pr .len (.cons (.var 1) (.nil))) (.cons (.var 2) (.nil))))) (.cons (.var 3) (.nil)))) (.ret (.var 2)) (.skip)
noncomputable def b_fall : S := .seq (.frr (.tp (.cn (.nm 2) (.cn (.nm 3) (.nl)))) (.enum (.cons (.call Lb.m_sums_ahead (.cons (.var 1) (.nil))) (.nil))) fb_fall_0) (.ret (.con .none))
noncomputable def m_fall : Fm := ⟨[false, false], runF [false, false] 4 b_fall⟩
theorem io_fall : m_fall.io = [false, false] := rfl
theorem R_fallB {row : List Rat} {d : D} {K B : Nat} {w : Int} (hd : walkD d = some (row.map frQ)) (hk : ∀ q ∈ row, bq q ≤ K) (hS : ∀ k, bq (SG row k) ≤ B) (hz : K + B ≤ 8000) (hL : row.length ≤ 7000) (hw : bl w ≤ 100000) : m_fall.run [.int w, d] = .ok (oN (fallR w row)) false [] := by
  have sa := R_sums_aheadB hd hk hS hz hL
  have ln := len_w hd
  rw [List.length_map] at ln
  have turn : ∀ k, k ≤ row.length → ∀ o2 o3 : Option D, frT (.tp (.cn (.nm 2) (.cn (.nm 3) .nl))) fb_fall_0 (.tuple [.int (0 + (k : Int)), frQ (SG row k)]) [.im (.int w), .im d, sl o2, sl o3] =
      if Mo w row.length k < SG row k then .rt (nI k) false [.im (.int w), .im d, .im (nI k), .im (frQ (SG row k))] else .nx [.im (.int w), .im d, .im (nI k), .im (frQ (SG row k))] := fun k hk2 o2 o3 => by
    have b1 : bl (k : Int) ≤ 20 := bl_le 20 (by omega) (by omega)
    have b2 : bl ((row.length : Int) - (k : Int)) ≤ 20 := bl_le 20 (by omega) (by omega)
    have b3 := hS k
    have b4 := Mo_bq (w := w) (n := row.length) (k := k) (b := 100040) (by omega)
    have hm := R_most (w := w) (n := row.length) (k := k) (by omega)
    have hq := R_is_less (p := Mo w row.length k) (q := SG row k) (by omega)
    by_cases z : Mo w row.length k < SG row k
    · rw [decide_eq_true z] at hq
      simp only [fb_fall_0, nI, Int.zero_add, io_most, io_is_less, ln, hm, hq, z, x_runF, q_nx, q_rt, rep0, rep1, x_var, qV_im, qV_ow, x_rdS, sD_im, sD_ow, sD_io, sD_lk, x_canLk, sC_ow, sC_io, sC_im, sC_lk, sC_un, x_stSf, x_stSt, sS_un, sS_im, sS_ow, x_chS, sG_ow, sG_io, mOw_some, mIo_some, x_con, x_tup, x_lst, z_tup, z_lst, x_pr, z_pr, x_not, z_not, x_and, x_or, z_and, z_or, x_ite, z_ite, x_call, z_call, q_ok, lift2_some, x_callT, z_callT, q_okT, x_Anil, x_Bnil, x_Cnil, x_Acons, z_A, z_B, z_C, z_cons, x_Bvar, tB_some, z_var, x_Bpr, x_Bcon, x_Btup, x_Blst, x_Bcall, x_BcallT, x_Bnot, x_Bite, x_Blc, x_Cval, x_Cvar, tC_true, z_varC, t_not, t_and, t_or, t_cmp, t_var, t_call, t_isi, t_len, t_con, t_item, t_all, t_any, y_t, y_n, y_a, y_o, y_c, s_skip, s_seq, w_nx, s_set, w_set, s_put, w_put, w_put2, s_unp, w_unp, w_unpQ, w_ts0, w_tsn, w_tsi, w_ti, w_ts, s_par, w_par, w_par2, w_par3, w_par4, s_ex, w_ex, s_iff, w_if, s_whl, s_retv, q_rim, q_row, s_retpr, s_rettup, s_retlst, s_retcon, s_retcall, s_retnot, s_retand, s_retor, s_retite, s_retlc, w_ret, startE, bind_rt, bind_sexn, bind_bk, bind_ct, lift_some, go1_some, ob_some, om_some, Vm.cmpD, ordD, putI, outsE, contS, add_ii, subD, negD, absD, maxD, minD, lensD, len_l, len_t, truD, boolOf, intOf, ioIx, wb, isiD, isTy, toIntD, toListD, toTupleD, itemsOf, List.length_cons, List.length_nil, Int.reduceToNat, it0, it1, it2, it3, it4, it5, it6, ta0, ta1, ta2, eqL2, noneL1, isBL1, inL_l, inL_t, isNo_n, isNo_i, isNo_t, isNo_q, eqI, eqQ, eqSS, eq_self, decide_eq_true_eq, cut_a, cut_b, slc_l, slc_t, List.nil_append, List.cons_append, List.append_nil, List.getElem?_cons_zero, List.getElem?_cons_succ, List.set_cons_zero, List.set_cons_succ, List.set_nil, Option.isSome_some, if_true, if_false, reduceIte, reduceCtorEq, Nat.reduceSub, Nat.reduceAdd, Nat.reduceLT, decide_true, decide_false, Bool.not_true, Bool.not_false, Bool.false_eq_true, Nat.reduceEqDiff, List.nodup_nil, List.nodup_cons, List.not_mem_nil, not_false_eq_true, true_and, and_true, and_self, x_lc, z_lc2, q_lc, mw0, mw1, qW_un, qW_im, wp0, wp1, bk0, bk1, gd0, gd1, x_ofv, kWk_l, kWk_t, x_ofcall, x_ofcallT, x_ofpr, x_oftup, x_oflst, x_oflc, x_ofcon, z_of, walk_l, walk_t, x_rng1, x_rng2, z_rng2a, x_enum, x_enum2, x_zip, x_zip3, z_en, z_zp, z_zp3, s_frr, w_fr, ul_nx, ul_rt, ul0, lk0, ul1, lk1, x_lkS, x_ulS, qLk_ow, qLk_io, qUl_ow, qUl_io, srcs_ofv, srcs_ofcall, srcs_ofcallT, srcs_ofpr, srcs_oftup, srcs_oflst, srcs_oflc, srcs_ofcon, srcs_r1, srcs_r2, srcs_en, srcs_en2, srcs_zp, srcs_zp3, rv_nil, rv_var, rv_call, rv_pr, rv_con, rv_lc, rv_tup, rv_lst, fi0, fi1, g_nm, g_tp, g_nl, g_cn, w_kM, x_kM, x_lm, mOw_q, mIo_q, o_rev, o_clr, x_lcT, qT1_some, z_T2, z_T3, x_frT, qF1_some, sS_sl, qW_sl, sl_some, z_lm, q_lm, Bool.and_true, Bool.true_and, Bool.and_false, Bool.false_and, Bool.or_true, Bool.true_or, Bool.or_false, Bool.false_or, revD, pr_add, pr_sub, pr_mul, pr_fdiv, pr_mod, pr_pow, pr_neg, pr_item, pr_len, pr_abs, pr_max, pr_min, pr_toInt, pr_toList, pr_toTuple, pr_sum, pr_sorted, pr_repr, pr_all, pr_any, pr_divmod, pr_isi, pr_cmp, pr_cut, pr_rev, pr_lrg, pr_trg, sz0, sz1, sz2, sz3, sz4, sz5, sz6, sz7, sz8, sz9, sz10, sz11, sz12]
    · rw [decide_eq_false z] at hq
      simp only [fb_fall_0, nI, Int.zero_add, io_most, io_is_less, ln, hm, hq, z, x_runF, q_nx, q_rt, rep0, rep1, x_var, qV_im, qV_ow, x_rdS, sD_im, sD_ow, sD_io, sD_lk, x_canLk, sC_ow, sC_io, sC_im, sC_lk, sC_un, x_stSf, x_stSt, sS_un, sS_im, sS_ow, x_chS, sG_ow, sG_io, mOw_some, mIo_some, x_con, x_tup, x_lst, z_tup, z_lst, x_pr, z_pr, x_not, z_not, x_and, x_or, z_and, z_or, x_ite, z_ite, x_call, z_call, q_ok, lift2_some, x_callT, z_callT, q_okT, x_Anil, x_Bnil, x_Cnil, x_Acons, z_A, z_B, z_C, z_cons, x_Bvar, tB_some, z_var, x_Bpr, x_Bcon, x_Btup, x_Blst, x_Bcall, x_BcallT, x_Bnot, x_Bite, x_Blc, x_Cval, x_Cvar, tC_true, z_varC, t_not, t_and, t_or, t_cmp, t_var, t_call, t_isi, t_len, t_con, t_item, t_all, t_any, y_t, y_n, y_a, y_o, y_c, s_skip, s_seq, w_nx, s_set, w_set, s_put, w_put, w_put2, s_unp, w_unp, w_unpQ, w_ts0, w_tsn, w_tsi, w_ti, w_ts, s_par, w_par, w_par2, w_par3, w_par4, s_ex, w_ex, s_iff, w_if, s_whl, s_retv, q_rim, q_row, s_retpr, s_rettup, s_retlst, s_retcon, s_retcall, s_retnot, s_retand, s_retor, s_retite, s_retlc, w_ret, startE, bind_rt, bind_sexn, bind_bk, bind_ct, lift_some, go1_some, ob_some, om_some, Vm.cmpD, ordD, putI, outsE, contS, add_ii, subD, negD, absD, maxD, minD, lensD, len_l, len_t, truD, boolOf, intOf, ioIx, wb, isiD, isTy, toIntD, toListD, toTupleD, itemsOf, List.length_cons, List.length_nil, Int.reduceToNat, it0, it1, it2, it3, it4, it5, it6, ta0, ta1, ta2, eqL2, noneL1, isBL1, inL_l, inL_t, isNo_n, isNo_i, isNo_t, isNo_q, eqI, eqQ, eqSS, eq_self, decide_eq_true_eq, cut_a, cut_b, slc_l, slc_t, List.nil_append, List.cons_append, List.append_nil, List.getElem?_cons_zero, List.getElem?_cons_succ, List.set_cons_zero, List.set_cons_succ, List.set_nil, Option.isSome_some, if_true, if_false, reduceIte, reduceCtorEq, Nat.reduceSub, Nat.reduceAdd, Nat.reduceLT, decide_true, decide_false, Bool.not_true, Bool.not_false, Bool.false_eq_true, Nat.reduceEqDiff, List.nodup_nil, List.nodup_cons, List.not_mem_nil, not_false_eq_true, true_and, and_true, and_self, x_lc, z_lc2, q_lc, mw0, mw1, qW_un, qW_im, wp0, wp1, bk0, bk1, gd0, gd1, x_ofv, kWk_l, kWk_t, x_ofcall, x_ofcallT, x_ofpr, x_oftup, x_oflst, x_oflc, x_ofcon, z_of, walk_l, walk_t, x_rng1, x_rng2, z_rng2a, x_enum, x_enum2, x_zip, x_zip3, z_en, z_zp, z_zp3, s_frr, w_fr, ul_nx, ul_rt, ul0, lk0, ul1, lk1, x_lkS, x_ulS, qLk_ow, qLk_io, qUl_ow, qUl_io, srcs_ofv, srcs_ofcall, srcs_ofcallT, srcs_ofpr, srcs_oftup, srcs_oflst, srcs_oflc, srcs_ofcon, srcs_r1, srcs_r2, srcs_en, srcs_en2, srcs_zp, srcs_zp3, rv_nil, rv_var, rv_call, rv_pr, rv_con, rv_lc, rv_tup, rv_lst, fi0, fi1, g_nm, g_tp, g_nl, g_cn, w_kM, x_kM, x_lm, mOw_q, mIo_q, o_rev, o_clr, x_lcT, qT1_some, z_T2, z_T3, x_frT, qF1_some, sS_sl, qW_sl, sl_some, z_lm, q_lm, Bool.and_true, Bool.true_and, Bool.and_false, Bool.false_and, Bool.or_true, Bool.true_or, Bool.or_false, Bool.false_or, revD, pr_add, pr_sub, pr_mul, pr_fdiv, pr_mod, pr_pow, pr_neg, pr_item, pr_len, pr_abs, pr_max, pr_min, pr_toInt, pr_toList, pr_toTuple, pr_sum, pr_sorted, pr_repr, pr_all, pr_any, pr_divmod, pr_isi, pr_cmp, pr_cut, pr_rev, pr_lrg, pr_trg, sz0, sz1, sz2, sz3, sz4, sz5, sz6, sz7, sz8, sz9, sz10, sz11, sz12]
  have run : ∀ (l : List Nat), (∀ k ∈ l, k ≤ row.length) → ∀ o2 o3 : Option D, ∃ o4 o5 : Option D, frL (.tp (.cn (.nm 2) (.cn (.nm 3) .nl))) (evS fb_fall_0) (l.map fun (k : Nat) => (PyData.tuple [.int (0 + (k : Int)), frQ (SG row k)] : D)) [.im (.int w), .im d, sl o2, sl o3] =
      match l.find? fun (k : Nat) => decide (Mo w row.length k < SG row k) with
      | some k => .rt (nI k) false [.im (.int w), .im d, sl o4, sl o5]
      | none => .nx [.im (.int w), .im d, sl o4, sl o5] := by
    intro l
    induction l with
    | nil => exact fun _ o2 o3 => ⟨o2, o3, rfl⟩
    | cons k l ih =>
      intro hl o2 o3
      have t := turn k (hl k List.mem_cons_self) o2 o3
      rw [List.map_cons]
      by_cases z : Mo w row.length k < SG row k
      · rw [if_pos z] at t
        refine ⟨some (nI k), some (frQ (SG row k)), ?_⟩
        rw [frL_rt t, List.find?_cons_of_pos (by simpa using z)]
        rfl
      · rw [if_neg z] at t
        obtain ⟨o4, o5, h⟩ := ih (fun j hj => hl j (List.mem_cons_of_mem _ hj)) (some (nI k)) (some (frQ (SG row k)))
        refine ⟨o4, o5, ?_⟩
        rw [frL_nx (.inl t), List.find?_cons_of_neg (by simpa using z)]
        exact h
  obtain ⟨o4, o5, h⟩ := run (List.range (row.length + 1)) (fun k hk => by have := List.mem_range.mp hk; omega) none none
  have em : ((List.range (row.length + 1)).map fun k => frQ (SG row k)).zipIdx.map (fun q : D × Nat => (PyData.tuple [.int (0 + (q.2 : Int)), q.1] : D)) = (List.range (row.length + 1)).map fun (k : Nat) => (PyData.tuple [.int (0 + (k : Int)), frQ (SG row k)] : D) := by
    rw [zipIdx_range, List.map_map]
    rfl
  have en : enumD 0 ((List.range (row.length + 1)).map fun k => frQ (SG row k)) = (List.range (row.length + 1)).map fun (k : Nat) => (PyData.tuple [.int (0 + (k : Int)), frQ (SG row k)] : D) := by
    have := enumD_map (k := 0) (rep := fun q : D => q) (xs := (List.range (row.length + 1)).map fun k => frQ (SG row k))
    rw [List.map_id'] at this
    rw [this, em]
  unfold fallR
  generalize hf : (List.range (row.length + 1)).find? (fun (k : Nat) => decide (Mo w row.length k < SG row k)) = f at h
  cases f with
  | some k =>
    have h : frL (.tp (.cn (.nm 2) (.cn (.nm 3) .nl))) (evS fb_fall_0) ((List.range (row.length + 1)).map fun (k : Nat) => (PyData.tuple [.int (0 + (k : Int)), frQ (SG row k)] : D)) [.im (.int w), .im d, .un, .un] = .rt (nI k) false [.im (.int w), .im d, sl o4, sl o5] := h
    simp only [m_fall, b_fall, io_sums_ahead, sa, en, h, oN, x_runF, q_nx, q_rt, rep0, rep1, x_var, qV_im, qV_ow, x_rdS, sD_im, sD_ow, sD_io, sD_lk, x_canLk, sC_ow, sC_io, sC_im, sC_lk, sC_un, x_stSf, x_stSt, sS_un, sS_im, sS_ow, x_chS, sG_ow, sG_io, mOw_some, mIo_some, x_con, x_tup, x_lst, z_tup, z_lst, x_pr, z_pr, x_not, z_not, x_and, x_or, z_and, z_or, x_ite, z_ite, x_call, z_call, q_ok, lift2_some, x_callT, z_callT, q_okT, x_Anil, x_Bnil, x_Cnil, x_Acons, z_A, z_B, z_C, z_cons, x_Bvar, tB_some, z_var, x_Bpr, x_Bcon, x_Btup, x_Blst, x_Bcall, x_BcallT, x_Bnot, x_Bite, x_Blc, x_Cval, x_Cvar, tC_true, z_varC, t_not, t_and, t_or, t_cmp, t_var, t_call, t_isi, t_len, t_con, t_item, t_all, t_any, y_t, y_n, y_a, y_o, y_c, s_skip, s_seq, w_nx, s_set, w_set, s_put, w_put, w_put2, s_unp, w_unp, w_unpQ, w_ts0, w_tsn, w_tsi, w_ti, w_ts, s_par, w_par, w_par2, w_par3, w_par4, s_ex, w_ex, s_iff, w_if, s_whl, s_retv, q_rim, q_row, s_retpr, s_rettup, s_retlst, s_retcon, s_retcall, s_retnot, s_retand, s_retor, s_retite, s_retlc, w_ret, startE, bind_rt, bind_sexn, bind_bk, bind_ct, lift_some, go1_some, ob_some, om_some, Vm.cmpD, ordD, putI, outsE, contS, add_ii, subD, negD, absD, maxD, minD, lensD, len_l, len_t, truD, boolOf, intOf, ioIx, wb, isiD, isTy, toIntD, toListD, toTupleD, itemsOf, List.length_cons, List.length_nil, Int.reduceToNat, it0, it1, it2, it3, it4, it5, it6, ta0, ta1, ta2, eqL2, noneL1, isBL1, inL_l, inL_t, isNo_n, isNo_i, isNo_t, isNo_q, eqI, eqQ, eqSS, eq_self, decide_eq_true_eq, cut_a, cut_b, slc_l, slc_t, List.nil_append, List.cons_append, List.append_nil, List.getElem?_cons_zero, List.getElem?_cons_succ, List.set_cons_zero, List.set_cons_succ, List.set_nil, Option.isSome_some, if_true, if_false, reduceIte, reduceCtorEq, Nat.reduceSub, Nat.reduceAdd, Nat.reduceLT, decide_true, decide_false, Bool.not_true, Bool.not_false, Bool.false_eq_true, Nat.reduceEqDiff, List.nodup_nil, List.nodup_cons, List.not_mem_nil, not_false_eq_true, true_and, and_true, and_self, x_lc, z_lc2, q_lc, mw0, mw1, qW_un, qW_im, wp0, wp1, bk0, bk1, gd0, gd1, x_ofv, kWk_l, kWk_t, x_ofcall, x_ofcallT, x_ofpr, x_oftup, x_oflst, x_oflc, x_ofcon, z_of, walk_l, walk_t, x_rng1, x_rng2, z_rng2a, x_enum, x_enum2, x_zip, x_zip3, z_en, z_zp, z_zp3, s_frr, w_fr, ul_nx, ul_rt, ul0, lk0, ul1, lk1, x_lkS, x_ulS, qLk_ow, qLk_io, qUl_ow, qUl_io, srcs_ofv, srcs_ofcall, srcs_ofcallT, srcs_ofpr, srcs_oftup, srcs_oflst, srcs_oflc, srcs_ofcon, srcs_r1, srcs_r2, srcs_en, srcs_en2, srcs_zp, srcs_zp3, rv_nil, rv_var, rv_call, rv_pr, rv_con, rv_lc, rv_tup, rv_lst, fi0, fi1, g_nm, g_tp, g_nl, g_cn, w_kM, x_kM, x_lm, mOw_q, mIo_q, o_rev, o_clr, x_lcT, qT1_some, z_T2, z_T3, x_frT, qF1_some, sS_sl, qW_sl, sl_some, z_lm, q_lm, Bool.and_true, Bool.true_and, Bool.and_false, Bool.false_and, Bool.or_true, Bool.true_or, Bool.or_false, Bool.false_or, revD, pr_add, pr_sub, pr_mul, pr_fdiv, pr_mod, pr_pow, pr_neg, pr_item, pr_len, pr_abs, pr_max, pr_min, pr_toInt, pr_toList, pr_toTuple, pr_sum, pr_sorted, pr_repr, pr_all, pr_any, pr_divmod, pr_isi, pr_cmp, pr_cut, pr_rev, pr_lrg, pr_trg, sz0, sz1, sz2, sz3, sz4, sz5, sz6, sz7, sz8, sz9, sz10, sz11, sz12]
  | none =>
    have h : frL (.tp (.cn (.nm 2) (.cn (.nm 3) .nl))) (evS fb_fall_0) ((List.range (row.length + 1)).map fun (k : Nat) => (PyData.tuple [.int (0 + (k : Int)), frQ (SG row k)] : D)) [.im (.int w), .im d, .un, .un] = .nx [.im (.int w), .im d, sl o4, sl o5] := h
    simp only [m_fall, b_fall, io_sums_ahead, sa, en, h, oN, x_runF, q_nx, q_rt, rep0, rep1, x_var, qV_im, qV_ow, x_rdS, sD_im, sD_ow, sD_io, sD_lk, x_canLk, sC_ow, sC_io, sC_im, sC_lk, sC_un, x_stSf, x_stSt, sS_un, sS_im, sS_ow, x_chS, sG_ow, sG_io, mOw_some, mIo_some, x_con, x_tup, x_lst, z_tup, z_lst, x_pr, z_pr, x_not, z_not, x_and, x_or, z_and, z_or, x_ite, z_ite, x_call, z_call, q_ok, lift2_some, x_callT, z_callT, q_okT, x_Anil, x_Bnil, x_Cnil, x_Acons, z_A, z_B, z_C, z_cons, x_Bvar, tB_some, z_var, x_Bpr, x_Bcon, x_Btup, x_Blst, x_Bcall, x_BcallT, x_Bnot, x_Bite, x_Blc, x_Cval, x_Cvar, tC_true, z_varC, t_not, t_and, t_or, t_cmp, t_var, t_call, t_isi, t_len, t_con, t_item, t_all, t_any, y_t, y_n, y_a, y_o, y_c, s_skip, s_seq, w_nx, s_set, w_set, s_put, w_put, w_put2, s_unp, w_unp, w_unpQ, w_ts0, w_tsn, w_tsi, w_ti, w_ts, s_par, w_par, w_par2, w_par3, w_par4, s_ex, w_ex, s_iff, w_if, s_whl, s_retv, q_rim, q_row, s_retpr, s_rettup, s_retlst, s_retcon, s_retcall, s_retnot, s_retand, s_retor, s_retite, s_retlc, w_ret, startE, bind_rt, bind_sexn, bind_bk, bind_ct, lift_some, go1_some, ob_some, om_some, Vm.cmpD, ordD, putI, outsE, contS, add_ii, subD, negD, absD, maxD, minD, lensD, len_l, len_t, truD, boolOf, intOf, ioIx, wb, isiD, isTy, toIntD, toListD, toTupleD, itemsOf, List.length_cons, List.length_nil, Int.reduceToNat, it0, it1, it2, it3, it4, it5, it6, ta0, ta1, ta2, eqL2, noneL1, isBL1, inL_l, inL_t, isNo_n, isNo_i, isNo_t, isNo_q, eqI, eqQ, eqSS, eq_self, decide_eq_true_eq, cut_a, cut_b, slc_l, slc_t, List.nil_append, List.cons_append, List.append_nil, List.getElem?_cons_zero, List.getElem?_cons_succ, List.set_cons_zero, List.set_cons_succ, List.set_nil, Option.isSome_some, if_true, if_false, reduceIte, reduceCtorEq, Nat.reduceSub, Nat.reduceAdd, Nat.reduceLT, decide_true, decide_false, Bool.not_true, Bool.not_false, Bool.false_eq_true, Nat.reduceEqDiff, List.nodup_nil, List.nodup_cons, List.not_mem_nil, not_false_eq_true, true_and, and_true, and_self, x_lc, z_lc2, q_lc, mw0, mw1, qW_un, qW_im, wp0, wp1, bk0, bk1, gd0, gd1, x_ofv, kWk_l, kWk_t, x_ofcall, x_ofcallT, x_ofpr, x_oftup, x_oflst, x_oflc, x_ofcon, z_of, walk_l, walk_t, x_rng1, x_rng2, z_rng2a, x_enum, x_enum2, x_zip, x_zip3, z_en, z_zp, z_zp3, s_frr, w_fr, ul_nx, ul_rt, ul0, lk0, ul1, lk1, x_lkS, x_ulS, qLk_ow, qLk_io, qUl_ow, qUl_io, srcs_ofv, srcs_ofcall, srcs_ofcallT, srcs_ofpr, srcs_oftup, srcs_oflst, srcs_oflc, srcs_ofcon, srcs_r1, srcs_r2, srcs_en, srcs_en2, srcs_zp, srcs_zp3, rv_nil, rv_var, rv_call, rv_pr, rv_con, rv_lc, rv_tup, rv_lst, fi0, fi1, g_nm, g_tp, g_nl, g_cn, w_kM, x_kM, x_lm, mOw_q, mIo_q, o_rev, o_clr, x_lcT, qT1_some, z_T2, z_T3, x_frT, qF1_some, sS_sl, qW_sl, sl_some, z_lm, q_lm, Bool.and_true, Bool.true_and, Bool.and_false, Bool.false_and, Bool.or_true, Bool.true_or, Bool.or_false, Bool.false_or, revD, pr_add, pr_sub, pr_mul, pr_fdiv, pr_mod, pr_pow, pr_neg, pr_item, pr_len, pr_abs, pr_max, pr_min, pr_toInt, pr_toList, pr_toTuple, pr_sum, pr_sorted, pr_repr, pr_all, pr_any, pr_divmod, pr_isi, pr_cmp, pr_cut, pr_rev, pr_lrg, pr_trg, sz0, sz1, sz2, sz3, sz4, sz5, sz6, sz7, sz8, sz9, sz10, sz11, sz12]
theorem R_fall {row : List Rat} {d : D} {K : Nat} {w : Int} (hd : walkD d = some (row.map frQ)) (hk : ∀ q ∈ row, bq q ≤ K) (hz : (K + 1) * (row.length + 1) ≤ 7000) (hw : bl w ≤ 100000) : m_fall.run [.int w, d] = .ok (oN (fallR w row)) false [] := by
  obtain ⟨h1, h2, h3⟩ := SG_lin hk hz
  exact R_fallB hd hk h1 (by omega) h3 hw
/- is_within: 0 weight, 1 row -/
noncomputable def b_is_within : S := .ret (.and (.pr (.cmp .eq) (.cons (.pr .item (.cons (.call Lb.m_sums_ahead (.cons (.var 1) (.nil))) (.cons (.pr .neg (.cons (.con (.int 1)) (.nil))) (.nil)))) (.cons (.con (.tuple [.int 0, .int 1])) (.nil)))) (.pr (.cmp .isNone) (.cons (.call Lb.m_fall (.cons (.var 0) (.cons (.var 1) (.nil)))) (.nil))))
noncomputable def m_is_within : Fm := ⟨[false, false], runF [false, false] 2 b_is_within⟩
theorem io_is_within : m_is_within.io = [false, false] := rfl
/-- within both sides -/
def WithinR (w : Int) (row : List Rat) : Prop := row.sum = 0 ∧ ∀ k ≤ row.length, SG row k ≤ Mo w row.length k
theorem fall_none {w : Int} {row : List Rat} : fallR w row = none ↔ ∀ k ≤ row.length, SG row k ≤ Mo w row.length k := by
  unfold fallR
  rw [List.find?_eq_none]
  constructor
  · intro h k hk
    have := h k (List.mem_range.mpr (by omega))
    simp only [decide_eq_true_eq] at this
    grind
  · intro h k hk
    have := h k (by have := List.mem_range.mp hk; omega)
    simp only [decide_eq_true_eq]
    grind
end Lb
/-! L5: all sets of places; none comes to more than so many of the greatest -/
namespace Lb
open PySem PySem.Spec PyProof.Rows L2 Vm
def sets : Nat → List (List Nat)
  | 0 => [[]]
  | n + 1 => sets n ++ (sets n).map (· ++ [n])
theorem sets_len : ∀ n, (sets n).length = 2 ^ n
  | 0 => rfl
  | n + 1 => by
    unfold sets
    rw [List.length_append, List.length_map, sets_len n, Nat.pow_succ]
    omega
theorem sets_mem : ∀ {n : Nat} {s : List Nat}, s ∈ sets n → s.Pairwise (· < ·) ∧ ∀ k ∈ s, k < n
  | 0, s, h => by
    unfold sets at h
    rw [List.mem_singleton.mp h]
    exact ⟨.nil, fun k z => by cases z⟩
  | n + 1, s, h => by
    unfold sets at h
    rcases List.mem_append.mp h with h | h
    · obtain ⟨h1, h2⟩ := sets_mem h
      exact ⟨h1, fun k hk => Nat.lt_succ_of_lt (h2 k hk)⟩
    · obtain ⟨t, ht, rfl⟩ := List.mem_map.mp h
      obtain ⟨h1, h2⟩ := sets_mem ht
      refine ⟨List.pairwise_append.mpr ⟨h1, by simp, fun a ha b hb => ?_⟩, fun k hk => ?_⟩
      · rw [List.mem_singleton.mp hb]; exact h2 a ha
      · rcases List.mem_append.mp hk with hk | hk
        · exact Nat.lt_succ_of_lt (h2 k hk)
        · rw [List.mem_singleton.mp hk]; exact Nat.lt_succ_self n
theorem sets_nodup {n : Nat} {s : List Nat} (h : s ∈ sets n) : s.Nodup := (sets_mem h).1.imp fun h => by omega
theorem sets_slen {n : Nat} {s : List Nat} (h : s ∈ sets n) : s.length ≤ n := by
  have h1 := sets_mem h
  have : ∀ {s : List Nat} {m : Nat}, s.Pairwise (· < ·) → (∀ k ∈ s, m ≤ k ∧ k < n) → m ≤ n → s.length + m ≤ n := by
    intro s
    induction s with
    | nil => intro m _ _ h; simpa using h
    | cons a s ih =>
      intro m p q _
      obtain ⟨p1, p2⟩ := List.pairwise_cons.mp p
      obtain ⟨q1, q2⟩ := q a List.mem_cons_self
      have := ih (m := a + 1) p2 (fun k hk => ⟨p1 k hk, (q k (List.mem_cons_of_mem _ hk)).2⟩) (by omega)
      rw [List.length_cons]
      omega
  have := this (m := 0) h1.1 (fun k hk => ⟨Nat.zero_le _, h1.2 k hk⟩) (Nat.zero_le _)
  omega
theorem sets_full : ∀ {n : Nat} {l : List Nat}, l.Nodup → (∀ k ∈ l, k < n) → ∃ s ∈ sets n, s.Perm l
  | 0, l, _, h => by
    cases l with
    | nil => exact ⟨[], by simp [sets], .refl _⟩
    | cons a l => exact absurd (h a List.mem_cons_self) (Nat.not_lt_zero _)
  | n + 1, l, nd, h => by
    by_cases hn : n ∈ l
    · obtain ⟨s, h1, h2⟩ := sets_full (n := n) (l := l.erase n) (nd.erase n) fun k hk => by
        obtain ⟨k1, k2⟩ := (nd.mem_erase_iff).mp hk
        have := h k k2
        omega
      refine ⟨s ++ [n], ?_, ?_⟩
      · unfold sets
        exact List.mem_append_right _ (List.mem_map.mpr ⟨s, h1, rfl⟩)
      · exact (List.perm_append_singleton n s).trans ((h2.cons n).trans (List.perm_cons_erase hn).symm)
    · obtain ⟨s, h1, h2⟩ := sets_full (n := n) nd fun k hk => by
        have := h k hk
        have : k ≠ n := fun z => hn (by rw [← z]; exact hk)
        omega
      exact ⟨s, by unfold sets; exact List.mem_append_left _ h1, h2⟩
theorem sum_perm {l m : List Rat} (h : l.Perm m) : l.sum = m.sum := by
  induction h with
  | nil => rfl
  | cons a _ ih => rw [List.sum_cons, List.sum_cons, ih]
  | swap a b l => simp only [List.sum_cons]; grind
  | trans _ _ h1 h2 => rw [h1, h2]
theorem Sg_le_succ {g : Nat → Rat} {o : List Nat} {k : Nat} {a : Rat} (h : ∀ i ∈ o, g i ≤ a) (hk : k < o.length) : Sg g o (k + 1) ≤ a + Sg g o k := by
  rw [Sg_succ hk]
  have := h o[k] (List.getElem_mem hk)
  grind
theorem top_le {g : Nat → Rat} : ∀ {o l : List Nat}, o.Pairwise (fun i j => g j ≤ g i) → l.Sublist o → (l.map g).sum ≤ Sg g o l.length
  | [], l, _, hs => by
    have : l = [] := List.eq_nil_of_sublist_nil hs
    subst this
    simp [Sg]
  | a :: o, l, ho, hs => by
    obtain ⟨h1, h2⟩ := List.pairwise_cons.mp ho
    cases hs with
    | cons _ hs =>
      have ih := top_le h2 hs
      cases l with
      | nil => simp [Sg]
      | cons b l =>
        have len := hs.length_le
        have e : Sg g (a :: o) (b :: l).length = g a + Sg g o l.length := by
          unfold Sg
          rw [List.length_cons, List.take_succ_cons, List.map_cons, List.sum_cons]
        rw [e]
        have := Sg_le_succ (g := g) (o := o) (k := l.length) (a := g a) h1 (by rw [List.length_cons] at len; omega)
        rw [List.length_cons] at ih
        grind
    | cons_cons _ hs =>
      rename_i l
      have ih := top_le h2 hs
      have e : Sg g (a :: o) (a :: l).length = g a + Sg g o l.length := by
        unfold Sg
        rw [List.length_cons, List.take_succ_cons, List.map_cons, List.sum_cons]
      rw [e, List.map_cons, List.sum_cons]
      grind
theorem bef_le {g : Nat → Rat} {i j : Nat} (h : bef g i j) : g j ≤ g i := by
  unfold bef at h
  rcases h with h | h <;> grind
theorem gfirst_nodup (row : List Rat) : (gfirst row).Nodup := (gfirst_perm row).nodup_iff.mpr List.nodup_range
/-- no set comes to more -/
theorem top_set {row : List Rat} {s : List Nat} (nd : s.Nodup) (lt : ∀ k ∈ s, k < row.length) : (s.map fun i => row.getD i 0).sum ≤ SG row s.length := by
  have p : ((gfirst row).filter fun k => decide (k ∈ s)).Perm s := by
    refine (List.perm_ext_iff_of_nodup ?_ nd).mpr fun a => ?_
    · exact List.Pairwise.sublist List.filter_sublist (gfirst_nodup row)
    · rw [List.mem_filter]
      constructor
      · exact fun h => of_decide_eq_true h.2
      · exact fun h => ⟨(gfirst_perm row).mem_iff.mpr (List.mem_range.mpr (lt a h)), decide_eq_true h⟩
  rw [← sum_perm (p.map _), ← p.length_eq]
  exact top_le ((gfirst_sorted row).imp bef_le) List.filter_sublist
/-- some set comes to that -/
theorem top_there {row : List Rat} {k : Nat} (hk : k ≤ row.length) : ∃ s ∈ sets row.length, s.length = k ∧ (s.map fun i => row.getD i 0).sum = SG row k := by
  obtain ⟨s, h1, h2⟩ := sets_full (n := row.length) (l := (gfirst row).take k) (List.Pairwise.sublist (List.take_sublist ..) (gfirst_nodup row)) fun i hi => gfirst_lt (List.mem_of_mem_take hi)
  refine ⟨s, h1, ?_, ?_⟩
  · rw [h2.length_eq, List.length_take, gfirst_len]
    omega
  · exact sum_perm (h2.map _)
theorem SG_all (row : List Rat) : SG row row.length = row.sum := by
  unfold SG Sg
  rw [List.take_of_length_le (by rw [gfirst_len]; exact Nat.le_refl _)]
  have h := sum_perm ((gfirst_perm row).map fun i => row.getD i 0)
  rw [h]
  congr 1
  apply List.ext_getElem?
  intro i
  rw [List.getElem?_map]
  by_cases hi : i < row.length
  · rw [List.getElem?_range hi, List.getElem?_eq_getElem hi]
    simp [List.getD_eq_getElem?_getD, List.getElem?_eq_getElem hi]
  · rw [List.getElem?_eq_none (by simp; omega), List.getElem?_eq_none (by omega)]
    rfl
def lI (s : List Nat) : D := .list (s.map nI)
/- _law_sets: 0 _law_many, 1 _law_found, 2 _law_k, 3 _law_some -/
noncomputable def ce__law_sets_1 : E := .pr .add (.cons (.var 3) (.cons (.lst (.cons (.var 2) (.nil))) (.nil)))
noncomputable def fb__law_sets_0 : S := .set 1 (.pr .add (.cons (.var 1) (.cons (.lc [3] (.nm 3) (.of (.var 1)) (.con (.bool true)) ce__law_sets_1) (.nil))))
noncomputable def b__law_sets : S := .seq (.set 1 (.lst (.cons (.lst (.nil)) (.nil)))) (.seq (.frr (.nm 2) (.rng1 (.var 0)) fb__law_sets_0) (.ret (.var 1)))
noncomputable def m__law_sets : Fm := ⟨[false], runF [false] 4 b__law_sets⟩
theorem io__law_sets : m__law_sets.io = [false] := rfl
theorem Q_sets {n : Nat} (hn : n ≤ 20) : m__law_sets.run [.int (n : Int)] = .ok (.list ((sets n).map lI)) true [] := by
  have ir : Vm.inR (n : Int) = true := by unfold Vm.inR; simp; omega
  obtain ⟨a', f1, m, f2, f3, f4⟩ := frL_st (t := .nm 2) (s := fb__law_sets_0) (rep := nI) (fun (a : List (List Nat) × Option D) => [.im (.int (n : Int)), .ow (.list (a.1.map lI)), sl a.2, .un])
    (fun r a => ∃ m, r = (List.range n).drop m ∧ m ≤ n ∧ a.1 = sets m) (xs := List.range n) (a := ([[]], none)) (fun x r ⟨fo, o⟩ ⟨m, h1, h2, h3⟩ => by
      have h3 : fo = sets m := h3
      have hm : m < n := by
        apply Classical.byContradiction
        intro z
        rw [List.drop_eq_nil_of_le (by simp; omega)] at h1
        cases h1
      rw [List.drop_eq_getElem_cons (by simpa using hm)] at h1
      injection h1 with e1 e2
      rw [List.getElem_range] at e1
      subst e1 e2 h3
      have sl1 := sets_len x
      have p2 : 2 ^ x ≤ 2 ^ 20 := Nat.pow_le_pow_right (by decide) (by omega)
      have p3 : 2 ^ 20 + 2 ^ 20 ≤ sizeLine := by decide
      have lc := lcL_m (vs := [3]) (t := .nm 3) (c := .con (.bool true)) (el := ce__law_sets_1) (rep := lI) (g := fun s => lI (s ++ [x])) (xs := sets x) (e := [.im (.int (n : Int)), .lk false (.list ((sets x).map lI)), .im (.int (x : Int)), .un]) (fun s hs => by
        have := sets_slen hs
        have oc := o_catL (xs := s.map nI) (ys := [.int (x : Int)]) (by rw [List.length_map, List.length_singleton]; have := sizeLine_big; omega)
        simp only [lI, ce__law_sets_1, oc, List.map_append, List.map_cons, List.map_nil, nI, x_runF, q_nx, q_rt, rep0, rep1, x_var, qV_im, qV_ow, x_rdS, sD_im, sD_ow, sD_io, sD_lk, x_canLk, sC_ow, sC_io, sC_im, sC_lk, sC_un, x_stSf, x_stSt, sS_un, sS_im, sS_ow, x_chS, sG_ow, sG_io, mOw_some, mIo_some, x_con, x_tup, x_lst, z_tup, z_lst, x_pr, z_pr, x_not, z_not, x_and, x_or, z_and, z_or, x_ite, z_ite, x_call, z_call, q_ok, lift2_some, x_callT, z_callT, q_okT, x_Anil, x_Bnil, x_Cnil, x_Acons, z_A, z_B, z_C, z_cons, x_Bvar, tB_some, z_var, x_Bpr, x_Bcon, x_Btup, x_Blst, x_Bcall, x_BcallT, x_Bnot, x_Bite, x_Blc, x_Cval, x_Cvar, tC_true, z_varC, t_not, t_and, t_or, t_cmp, t_var, t_call, t_isi, t_len, t_con, t_item, t_all, t_any, y_t, y_n, y_a, y_o, y_c, s_skip, s_seq, w_nx, s_set, w_set, s_put, w_put, w_put2, s_unp, w_unp, w_unpQ, w_ts0, w_tsn, w_tsi, w_ti, w_ts, s_par, w_par, w_par2, w_par3, w_par4, s_ex, w_ex, s_iff, w_if, s_whl, s_retv, q_rim, q_row, s_retpr, s_rettup, s_retlst, s_retcon, s_retcall, s_retnot, s_retand, s_retor, s_retite, s_retlc, w_ret, startE, bind_rt, bind_sexn, bind_bk, bind_ct, lift_some, go1_some, ob_some, om_some, Vm.cmpD, ordD, putI, outsE, contS, add_ii, subD, negD, absD, maxD, minD, lensD, len_l, len_t, truD, boolOf, intOf, ioIx, wb, isiD, isTy, toIntD, toListD, toTupleD, itemsOf, List.length_cons, List.length_nil, Int.reduceToNat, it0, it1, it2, it3, it4, it5, it6, ta0, ta1, ta2, eqL2, noneL1, isBL1, inL_l, inL_t, isNo_n, isNo_i, isNo_t, isNo_q, eqI, eqQ, eqSS, eq_self, decide_eq_true_eq, cut_a, cut_b, slc_l, slc_t, List.nil_append, List.cons_append, List.append_nil, List.getElem?_cons_zero, List.getElem?_cons_succ, List.set_cons_zero, List.set_cons_succ, List.set_nil, Option.isSome_some, if_true, if_false, reduceIte, reduceCtorEq, Nat.reduceSub, Nat.reduceAdd, Nat.reduceLT, decide_true, decide_false, Bool.not_true, Bool.not_false, Bool.false_eq_true, Nat.reduceEqDiff, List.nodup_nil, List.nodup_cons, List.not_mem_nil, not_false_eq_true, true_and, and_true, and_self, x_lc, z_lc2, q_lc, mw0, mw1, qW_un, qW_im, wp0, wp1, bk0, bk1, gd0, gd1, x_ofv, kWk_l, kWk_t, x_ofcall, x_ofcallT, x_ofpr, x_oftup, x_oflst, x_oflc, x_ofcon, z_of, walk_l, walk_t, x_rng1, x_rng2, z_rng2a, x_enum, x_enum2, x_zip, x_zip3, z_en, z_zp, z_zp3, s_frr, w_fr, ul_nx, ul_rt, ul0, lk0, ul1, lk1, x_lkS, x_ulS, qLk_ow, qLk_io, qUl_ow, qUl_io, srcs_ofv, srcs_ofcall, srcs_ofcallT, srcs_ofpr, srcs_oftup, srcs_oflst, srcs_oflc, srcs_ofcon, srcs_r1, srcs_r2, srcs_en, srcs_en2, srcs_zp, srcs_zp3, rv_nil, rv_var, rv_call, rv_pr, rv_con, rv_lc, rv_tup, rv_lst, fi0, fi1, g_nm, g_tp, g_nl, g_cn, w_kM, x_kM, x_lm, mOw_q, mIo_q, o_rev, o_clr, x_lcT, qT1_some, z_T2, z_T3, x_frT, qF1_some, sS_sl, qW_sl, sl_some, z_lm, q_lm, Bool.and_true, Bool.true_and, Bool.and_false, Bool.false_and, Bool.or_true, Bool.true_or, Bool.or_false, Bool.false_or, revD, pr_add, pr_sub, pr_mul, pr_fdiv, pr_mod, pr_pow, pr_neg, pr_item, pr_len, pr_abs, pr_max, pr_min, pr_toInt, pr_toList, pr_toTuple, pr_sum, pr_sorted, pr_repr, pr_all, pr_any, pr_divmod, pr_isi, pr_cmp, pr_cut, pr_rev, pr_lrg, pr_trg, sz0, sz1, sz2, sz3, sz4, sz5, sz6, sz7, sz8, sz9, sz10, sz11, sz12]) (by omega)
      have oc2 := o_catL (xs := (sets x).map lI) (ys := (sets x).map fun s => lI (s ++ [x])) (by rw [List.length_map, List.length_map, sl1]; omega)
      refine ⟨(sets (x + 1), some (nI x)), .inl ?_, x + 1, by simp, by omega, rfl⟩
      have e3 : (sets (x + 1)).map lI = (sets x).map lI ++ (sets x).map fun s => lI (s ++ [x]) := by
        show (sets x ++ (sets x).map (· ++ [x])).map lI = _
        rw [List.map_append, List.map_map]
        rfl
      simp only [e3]
      simp only [fb__law_sets_0, nI, lc, oc2, x_runF, q_nx, q_rt, rep0, rep1, x_var, qV_im, qV_ow, x_rdS, sD_im, sD_ow, sD_io, sD_lk, x_canLk, sC_ow, sC_io, sC_im, sC_lk, sC_un, x_stSf, x_stSt, sS_un, sS_im, sS_ow, x_chS, sG_ow, sG_io, mOw_some, mIo_some, x_con, x_tup, x_lst, z_tup, z_lst, x_pr, z_pr, x_not, z_not, x_and, x_or, z_and, z_or, x_ite, z_ite, x_call, z_call, q_ok, lift2_some, x_callT, z_callT, q_okT, x_Anil, x_Bnil, x_Cnil, x_Acons, z_A, z_B, z_C, z_cons, x_Bvar, tB_some, z_var, x_Bpr, x_Bcon, x_Btup, x_Blst, x_Bcall, x_BcallT, x_Bnot, x_Bite, x_Blc, x_Cval, x_Cvar, tC_true, z_varC, t_not, t_and, t_or, t_cmp, t_var, t_call, t_isi, t_len, t_con, t_item, t_all, t_any, y_t, y_n, y_a, y_o, y_c, s_skip, s_seq, w_nx, s_set, w_set, s_put, w_put, w_put2, s_unp, w_unp, w_unpQ, w_ts0, w_tsn, w_tsi, w_ti, w_ts, s_par, w_par, w_par2, w_par3, w_par4, s_ex, w_ex, s_iff, w_if, s_whl, s_retv, q_rim, q_row, s_retpr, s_rettup, s_retlst, s_retcon, s_retcall, s_retnot, s_retand, s_retor, s_retite, s_retlc, w_ret, startE, bind_rt, bind_sexn, bind_bk, bind_ct, lift_some, go1_some, ob_some, om_some, Vm.cmpD, ordD, putI, outsE, contS, add_ii, subD, negD, absD, maxD, minD, lensD, len_l, len_t, truD, boolOf, intOf, ioIx, wb, isiD, isTy, toIntD, toListD, toTupleD, itemsOf, List.length_cons, List.length_nil, Int.reduceToNat, it0, it1, it2, it3, it4, it5, it6, ta0, ta1, ta2, eqL2, noneL1, isBL1, inL_l, inL_t, isNo_n, isNo_i, isNo_t, isNo_q, eqI, eqQ, eqSS, eq_self, decide_eq_true_eq, cut_a, cut_b, slc_l, slc_t, List.nil_append, List.cons_append, List.append_nil, List.getElem?_cons_zero, List.getElem?_cons_succ, List.set_cons_zero, List.set_cons_succ, List.set_nil, Option.isSome_some, if_true, if_false, reduceIte, reduceCtorEq, Nat.reduceSub, Nat.reduceAdd, Nat.reduceLT, decide_true, decide_false, Bool.not_true, Bool.not_false, Bool.false_eq_true, Nat.reduceEqDiff, List.nodup_nil, List.nodup_cons, List.not_mem_nil, not_false_eq_true, true_and, and_true, and_self, x_lc, z_lc2, q_lc, mw0, mw1, qW_un, qW_im, wp0, wp1, bk0, bk1, gd0, gd1, x_ofv, kWk_l, kWk_t, x_ofcall, x_ofcallT, x_ofpr, x_oftup, x_oflst, x_oflc, x_ofcon, z_of, walk_l, walk_t, x_rng1, x_rng2, z_rng2a, x_enum, x_enum2, x_zip, x_zip3, z_en, z_zp, z_zp3, s_frr, w_fr, ul_nx, ul_rt, ul0, lk0, ul1, lk1, x_lkS, x_ulS, qLk_ow, qLk_io, qUl_ow, qUl_io, srcs_ofv, srcs_ofcall, srcs_ofcallT, srcs_ofpr, srcs_oftup, srcs_oflst, srcs_oflc, srcs_ofcon, srcs_r1, srcs_r2, srcs_en, srcs_en2, srcs_zp, srcs_zp3, rv_nil, rv_var, rv_call, rv_pr, rv_con, rv_lc, rv_tup, rv_lst, fi0, fi1, g_nm, g_tp, g_nl, g_cn, w_kM, x_kM, x_lm, mOw_q, mIo_q, o_rev, o_clr, x_lcT, qT1_some, z_T2, z_T3, x_frT, qF1_some, sS_sl, qW_sl, sl_some, z_lm, q_lm, Bool.and_true, Bool.true_and, Bool.and_false, Bool.false_and, Bool.or_true, Bool.true_or, Bool.or_false, Bool.false_or, revD, pr_add, pr_sub, pr_mul, pr_fdiv, pr_mod, pr_pow, pr_neg, pr_item, pr_len, pr_abs, pr_max, pr_min, pr_toInt, pr_toList, pr_toTuple, pr_sum, pr_sorted, pr_repr, pr_all, pr_any, pr_divmod, pr_isi, pr_cmp, pr_cut, pr_rev, pr_lrg, pr_trg, sz0, sz1, sz2, sz3, sz4, sz5, sz6, sz7, sz8, sz9, sz10, sz11, sz12]) ⟨0, rfl, Nat.zero_le _, rfl⟩
  have hm : m = n := by
    have := congrArg List.length f2
    rw [List.length_drop, List.length_nil, List.length_range] at this
    omega
  rw [f4, hm] at f1
  have f1 : frL (.nm 2) (evS fb__law_sets_0) ((List.range n).map fun (k : Nat) => (PyData.int (k : Int) : D)) [.im (.int (n : Int)), .ow (.list [.list []]), .un, .un] = .nx [.im (.int (n : Int)), .ow (.list ((sets n).map lI)), sl a'.2, .un] := f1
  simp only [m__law_sets, b__law_sets, z_rng1 ir, Int.toNat_natCast, rngD0, f1, x_runF, q_nx, q_rt, rep0, rep1, x_var, qV_im, qV_ow, x_rdS, sD_im, sD_ow, sD_io, sD_lk, x_canLk, sC_ow, sC_io, sC_im, sC_lk, sC_un, x_stSf, x_stSt, sS_un, sS_im, sS_ow, x_chS, sG_ow, sG_io, mOw_some, mIo_some, x_con, x_tup, x_lst, z_tup, z_lst, x_pr, z_pr, x_not, z_not, x_and, x_or, z_and, z_or, x_ite, z_ite, x_call, z_call, q_ok, lift2_some, x_callT, z_callT, q_okT, x_Anil, x_Bnil, x_Cnil, x_Acons, z_A, z_B, z_C, z_cons, x_Bvar, tB_some, z_var, x_Bpr, x_Bcon, x_Btup, x_Blst, x_Bcall, x_BcallT, x_Bnot, x_Bite, x_Blc, x_Cval, x_Cvar, tC_true, z_varC, t_not, t_and, t_or, t_cmp, t_var, t_call, t_isi, t_len, t_con, t_item, t_all, t_any, y_t, y_n, y_a, y_o, y_c, s_skip, s_seq, w_nx, s_set, w_set, s_put, w_put, w_put2, s_unp, w_unp, w_unpQ, w_ts0, w_tsn, w_tsi, w_ti, w_ts, s_par, w_par, w_par2, w_par3, w_par4, s_ex, w_ex, s_iff, w_if, s_whl, s_retv, q_rim, q_row, s_retpr, s_rettup, s_retlst, s_retcon, s_retcall, s_retnot, s_retand, s_retor, s_retite, s_retlc, w_ret, startE, bind_rt, bind_sexn, bind_bk, bind_ct, lift_some, go1_some, ob_some, om_some, Vm.cmpD, ordD, putI, outsE, contS, add_ii, subD, negD, absD, maxD, minD, lensD, len_l, len_t, truD, boolOf, intOf, ioIx, wb, isiD, isTy, toIntD, toListD, toTupleD, itemsOf, List.length_cons, List.length_nil, Int.reduceToNat, it0, it1, it2, it3, it4, it5, it6, ta0, ta1, ta2, eqL2, noneL1, isBL1, inL_l, inL_t, isNo_n, isNo_i, isNo_t, isNo_q, eqI, eqQ, eqSS, eq_self, decide_eq_true_eq, cut_a, cut_b, slc_l, slc_t, List.nil_append, List.cons_append, List.append_nil, List.getElem?_cons_zero, List.getElem?_cons_succ, List.set_cons_zero, List.set_cons_succ, List.set_nil, Option.isSome_some, if_true, if_false, reduceIte, reduceCtorEq, Nat.reduceSub, Nat.reduceAdd, Nat.reduceLT, decide_true, decide_false, Bool.not_true, Bool.not_false, Bool.false_eq_true, Nat.reduceEqDiff, List.nodup_nil, List.nodup_cons, List.not_mem_nil, not_false_eq_true, true_and, and_true, and_self, x_lc, z_lc2, q_lc, mw0, mw1, qW_un, qW_im, wp0, wp1, bk0, bk1, gd0, gd1, x_ofv, kWk_l, kWk_t, x_ofcall, x_ofcallT, x_ofpr, x_oftup, x_oflst, x_oflc, x_ofcon, z_of, walk_l, walk_t, x_rng1, x_rng2, z_rng2a, x_enum, x_enum2, x_zip, x_zip3, z_en, z_zp, z_zp3, s_frr, w_fr, ul_nx, ul_rt, ul0, lk0, ul1, lk1, x_lkS, x_ulS, qLk_ow, qLk_io, qUl_ow, qUl_io, srcs_ofv, srcs_ofcall, srcs_ofcallT, srcs_ofpr, srcs_oftup, srcs_oflst, srcs_oflc, srcs_ofcon, srcs_r1, srcs_r2, srcs_en, srcs_en2, srcs_zp, srcs_zp3, rv_nil, rv_var, rv_call, rv_pr, rv_con, rv_lc, rv_tup, rv_lst, fi0, fi1, g_nm, g_tp, g_nl, g_cn, w_kM, x_kM, x_lm, mOw_q, mIo_q, o_rev, o_clr, x_lcT, qT1_some, z_T2, z_T3, x_frT, qF1_some, sS_sl, qW_sl, sl_some, z_lm, q_lm, Bool.and_true, Bool.true_and, Bool.and_false, Bool.false_and, Bool.or_true, Bool.true_or, Bool.or_false, Bool.false_or, revD, pr_add, pr_sub, pr_mul, pr_fdiv, pr_mod, pr_pow, pr_neg, pr_item, pr_len, pr_abs, pr_max, pr_min, pr_toInt, pr_toList, pr_toTuple, pr_sum, pr_sorted, pr_repr, pr_all, pr_any, pr_divmod, pr_isi, pr_cmp, pr_cut, pr_rev, pr_lrg, pr_trg, sz0, sz1, sz2, sz3, sz4, sz5, sz6, sz7, sz8, sz9, sz10, sz11, sz12]
end Lb
/-! L6: within both sides; the laws' own order; sizes, cuts -/
namespace Lb
open PySem PySem.Spec PyProof.Rows L2 Vm
theorem rp_row {row : List Rat} {k n : Nat} (hk : ∀ q ∈ row, bq q ≤ k) (k0 : k ≤ 1900) (hn : row.length ≤ n) : Rp 2 (3 * n) (.list (row.map frQ)) ∧ Rp 2 (3 * n) (.tuple (row.map frQ)) := by
  have h : ∀ x ∈ row.map frQ, Rp 1 2 x := fun x hx => by
    obtain ⟨q, hq, rfl⟩ := List.mem_map.mp hx
    exact .frQ (Nat.le_trans (hk q hq) k0)
  exact ⟨.list h (by simpa using hn), .tuple h (by simpa using hn)⟩
theorem rp_nI {l : List Nat} {n : Nat} (h : ∀ k ∈ l, k ≤ 100000) (hl : l.length ≤ n) : Rp 1 n (.list (l.map nI)) := by
  have := Rp.list (n := 0) (m := 0) (k := n) (xs := l.map nI) (fun x hx => by
    obtain ⟨k, hk, rfl⟩ := List.mem_map.mp hx
    have := h k hk
    exact .int (Nat.le_trans (bl_le 20 (by omega) (by omega)) (by decide))) (by simpa using hl)
  simpa using this
theorem ix_at {n k : Nat} (h : k < n) : ixN n (k : Int) = some k := by
  unfold ixN
  rw [if_pos (by omega), if_pos (by omega)]
  rfl
theorem pairwise_zip {α : Type} {R : α → α → Prop} : ∀ {l : List α}, l.Pairwise R → ∀ q ∈ l.zip (l.drop 1), R q.1 q.2
  | [], _, q, hq => by simp at hq
  | [a], _, q, hq => by simp at hq
  | a :: b :: l, h, q, hq => by
    obtain ⟨h1, h2⟩ := List.pairwise_cons.mp h
    rw [List.drop_succ_cons, List.drop_zero, List.zip_cons_cons] at hq
    rcases List.mem_cons.mp hq with rfl | hq
    · exact h1 b List.mem_cons_self
    · exact pairwise_zip h2 q hq
theorem sIx_1 {n : Nat} : HT.sIx n 0 (some 1) = min 1 n := rfl
theorem sIx_none {n d : Nat} : HT.sIx n d none = d := rfl
theorem cut1 {l : List Nat} : cutD (l.map nI) (some 1) none = (l.drop 1).map nI := by
  rw [cutD_map, sIx_1, sIx_none]
  congr 1
  cases l with
  | nil => rfl
  | cons a l =>
    have e : min 1 (a :: l).length = 1 := by simp
    rw [e]
    simp
theorem sIx_k {n d k : Nat} : HT.sIx n d (some (k : Int)) = min k n := by
  show (if (k : Int) < 0 then ((k : Int) + (n : Int)).toNat else min (k : Int).toNat n) = _
  rw [if_neg (by omega), Int.toNat_natCast]
theorem cutk {l : List Nat} {k : Nat} : cutD (l.map nI) none (some (k : Int)) = (l.take k).map nI := by
  rw [cutD_map, sIx_k, sIx_none, List.drop_zero, Nat.sub_zero]
  congr 1
  by_cases h : k ≤ l.length
  · rw [Nat.min_eq_left h]
  · rw [Nat.min_eq_right (by omega), List.take_of_length_le (Nat.le_refl _), List.take_of_length_le (by omega)]
theorem nI_ints (l : List Nat) : l.map nI = (l.map fun (k : Nat) => (k : Int)).map PyData.int := by
  rw [List.map_map]
  rfl
theorem head_find {p : Nat → Bool} {n : Nat} : itemD [.list (((List.range n).filter p).map nI ++ [.none]), .int 0] = some (oN ((List.range n).find? p), false) := by
  rw [← List.head?_filter]
  cases (List.range n).filter p with
  | nil => rfl
  | cons a l => exact it0
theorem rp_oN {o : Option Nat} (h : ∀ k, o = some k → k ≤ 100000) : Rp 0 0 (oN o) := by
  cases o with
  | none => exact .none
  | some k =>
    have := h k rfl
    exact .int (Nat.le_trans (bl_le 20 (by omega) (by omega)) (by decide))

theorem R_is_within {row : List Rat} {d : D} {K : Nat} {w : Int} (hd : walkD d = some (row.map frQ)) (hk : ∀ q ∈ row, bq q ≤ K) (hz : (K + 1) * (row.length + 1) ≤ 7000) (hw : bl w ≤ 100000) : ∃ b : Bool, (b = true ↔ WithinR w row) ∧ m_is_within.run [.int w, d] = .ok (.bool b) false [] := by
  have sa := R_sums_ahead hd hk hz
  have fa := R_fall (w := w) hd hk hz hw
  have la : itemD [.list ((List.range (row.length + 1)).map fun k => frQ (SG row k)), .int (-1)] = some (frQ row.sum, false) := by
    rw [List.range_succ, List.map_append, List.map_cons, List.map_nil, it_last, SG_all]
  have eq0 : eqD (frQ row.sum) (.tuple [.int 0, .int 1]) = some (decide (row.sum = 0)) := eqQ (q := 0)
  by_cases h1 : row.sum = 0
  · rw [decide_eq_true h1] at eq0
    cases hf : fallR w row with
    | none =>
      rw [hf] at fa
      have fa : m_fall.run [.int w, d] = .ok .none false [] := fa
      refine ⟨true, ⟨fun _ => ⟨h1, fall_none.mp hf⟩, fun _ => rfl⟩, ?_⟩
      simp only [m_is_within, b_is_within, io_sums_ahead, io_fall, sa, fa, la, eq0, noneL1, isNo_n, x_runF, q_nx, q_rt, rep0, rep1, x_var, qV_im, qV_ow, x_rdS, sD_im, sD_ow, sD_io, sD_lk, x_canLk, sC_ow, sC_io, sC_im, sC_lk, sC_un, x_stSf, x_stSt, sS_un, sS_im, sS_ow, x_chS, sG_ow, sG_io, mOw_some, mIo_some, x_con, x_tup, x_lst, z_tup, z_lst, x_pr, z_pr, x_not, z_not, x_and, x_or, z_and, z_or, x_ite, z_ite, x_call, z_call, q_ok, lift2_some, x_callT, z_callT, q_okT, x_Anil, x_Bnil, x_Cnil, x_Acons, z_A, z_B, z_C, z_cons, x_Bvar, tB_some, z_var, x_Bpr, x_Bcon, x_Btup, x_Blst, x_Bcall, x_BcallT, x_Bnot, x_Bite, x_Blc, x_Cval, x_Cvar, tC_true, z_varC, t_not, t_and, t_or, t_cmp, t_var, t_call, t_isi, t_len, t_con, t_item, t_all, t_any, y_t, y_n, y_a, y_o, y_c, s_skip, s_seq, w_nx, s_set, w_set, s_put, w_put, w_put2, s_unp, w_unp, w_unpQ, w_ts0, w_tsn, w_tsi, w_ti, w_ts, s_par, w_par, w_par2, w_par3, w_par4, s_ex, w_ex, s_iff, w_if, s_whl, s_retv, q_rim, q_row, s_retpr, s_rettup, s_retlst, s_retcon, s_retcall, s_retnot, s_retand, s_retor, s_retite, s_retlc, w_ret, startE, bind_rt, bind_sexn, bind_bk, bind_ct, lift_some, go1_some, ob_some, om_some, Vm.cmpD, ordD, putI, outsE, contS, add_ii, subD, negD, absD, maxD, minD, lensD, len_l, len_t, truD, boolOf, intOf, ioIx, wb, isiD, isTy, toIntD, toListD, toTupleD, itemsOf, List.length_cons, List.length_nil, Int.reduceToNat, it0, it1, it2, it3, it4, it5, it6, ta0, ta1, ta2, eqL2, noneL1, isBL1, inL_l, inL_t, isNo_n, isNo_i, isNo_t, isNo_q, eqI, eqQ, eqSS, eq_self, decide_eq_true_eq, cut_a, cut_b, slc_l, slc_t, List.nil_append, List.cons_append, List.append_nil, List.getElem?_cons_zero, List.getElem?_cons_succ, List.set_cons_zero, List.set_cons_succ, List.set_nil, Option.isSome_some, if_true, if_false, reduceIte, reduceCtorEq, Nat.reduceSub, Nat.reduceAdd, Nat.reduceLT, decide_true, decide_false, Bool.not_true, Bool.not_false, Bool.false_eq_true, Nat.reduceEqDiff, List.nodup_nil, List.nodup_cons, List.not_mem_nil, not_false_eq_true, true_and, and_true, and_self, x_lc, z_lc2, q_lc, mw0, mw1, qW_un, qW_im, wp0, wp1, bk0, bk1, gd0, gd1, x_ofv, kWk_l, kWk_t, x_ofcall, x_ofcallT, x_ofpr, x_oftup, x_oflst, x_oflc, x_ofcon, z_of, walk_l, walk_t, x_rng1, x_rng2, z_rng2a, x_enum, x_enum2, x_zip, x_zip3, z_en, z_zp, z_zp3, s_frr, w_fr, ul_nx, ul_rt, ul0, lk0, ul1, lk1, x_lkS, x_ulS, qLk_ow, qLk_io, qUl_ow, qUl_io, srcs_ofv, srcs_ofcall, srcs_ofcallT, srcs_ofpr, srcs_oftup, srcs_oflst, srcs_oflc, srcs_ofcon, srcs_r1, srcs_r2, srcs_en, srcs_en2, srcs_zp, srcs_zp3, rv_nil, rv_var, rv_call, rv_pr, rv_con, rv_lc, rv_tup, rv_lst, fi0, fi1, g_nm, g_tp, g_nl, g_cn, w_kM, x_kM, x_lm, mOw_q, mIo_q, o_rev, o_clr, x_lcT, qT1_some, z_T2, z_T3, x_frT, qF1_some, sS_sl, qW_sl, sl_some, z_lm, q_lm, Bool.and_true, Bool.true_and, Bool.and_false, Bool.false_and, Bool.or_true, Bool.true_or, Bool.or_false, Bool.false_or, revD, pr_add, pr_sub, pr_mul, pr_fdiv, pr_mod, pr_pow, pr_neg, pr_item, pr_len, pr_abs, pr_max, pr_min, pr_toInt, pr_toList, pr_toTuple, pr_sum, pr_sorted, pr_repr, pr_all, pr_any, pr_divmod, pr_isi, pr_cmp, pr_cut, pr_rev, pr_lrg, pr_trg, sz0, sz1, sz2, sz3, sz4, sz5, sz6, sz7, sz8, sz9, sz10, sz11, sz12]
    | some k =>
      rw [hf] at fa
      have fa : m_fall.run [.int w, d] = .ok (.int (k : Int)) false [] := fa
      refine ⟨false, ⟨fun z => (by cases z), fun z => by rw [fall_none.mpr z.2] at hf; cases hf⟩, ?_⟩
      simp only [m_is_within, b_is_within, io_sums_ahead, io_fall, sa, fa, la, eq0, noneL1, isNo_i, x_runF, q_nx, q_rt, rep0, rep1, x_var, qV_im, qV_ow, x_rdS, sD_im, sD_ow, sD_io, sD_lk, x_canLk, sC_ow, sC_io, sC_im, sC_lk, sC_un, x_stSf, x_stSt, sS_un, sS_im, sS_ow, x_chS, sG_ow, sG_io, mOw_some, mIo_some, x_con, x_tup, x_lst, z_tup, z_lst, x_pr, z_pr, x_not, z_not, x_and, x_or, z_and, z_or, x_ite, z_ite, x_call, z_call, q_ok, lift2_some, x_callT, z_callT, q_okT, x_Anil, x_Bnil, x_Cnil, x_Acons, z_A, z_B, z_C, z_cons, x_Bvar, tB_some, z_var, x_Bpr, x_Bcon, x_Btup, x_Blst, x_Bcall, x_BcallT, x_Bnot, x_Bite, x_Blc, x_Cval, x_Cvar, tC_true, z_varC, t_not, t_and, t_or, t_cmp, t_var, t_call, t_isi, t_len, t_con, t_item, t_all, t_any, y_t, y_n, y_a, y_o, y_c, s_skip, s_seq, w_nx, s_set, w_set, s_put, w_put, w_put2, s_unp, w_unp, w_unpQ, w_ts0, w_tsn, w_tsi, w_ti, w_ts, s_par, w_par, w_par2, w_par3, w_par4, s_ex, w_ex, s_iff, w_if, s_whl, s_retv, q_rim, q_row, s_retpr, s_rettup, s_retlst, s_retcon, s_retcall, s_retnot, s_retand, s_retor, s_retite, s_retlc, w_ret, startE, bind_rt, bind_sexn, bind_bk, bind_ct, lift_some, go1_some, ob_some, om_some, Vm.cmpD, ordD, putI, outsE, contS, add_ii, subD, negD, absD, maxD, minD, lensD, len_l, len_t, truD, boolOf, intOf, ioIx, wb, isiD, isTy, toIntD, toListD, toTupleD, itemsOf, List.length_cons, List.length_nil, Int.reduceToNat, it0, it1, it2, it3, it4, it5, it6, ta0, ta1, ta2, eqL2, noneL1, isBL1, inL_l, inL_t, isNo_n, isNo_i, isNo_t, isNo_q, eqI, eqQ, eqSS, eq_self, decide_eq_true_eq, cut_a, cut_b, slc_l, slc_t, List.nil_append, List.cons_append, List.append_nil, List.getElem?_cons_zero, List.getElem?_cons_succ, List.set_cons_zero, List.set_cons_succ, List.set_nil, Option.isSome_some, if_true, if_false, reduceIte, reduceCtorEq, Nat.reduceSub, Nat.reduceAdd, Nat.reduceLT, decide_true, decide_false, Bool.not_true, Bool.not_false, Bool.false_eq_true, Nat.reduceEqDiff, List.nodup_nil, List.nodup_cons, List.not_mem_nil, not_false_eq_true, true_and, and_true, and_self, x_lc, z_lc2, q_lc, mw0, mw1, qW_un, qW_im, wp0, wp1, bk0, bk1, gd0, gd1, x_ofv, kWk_l, kWk_t, x_ofcall, x_ofcallT, x_ofpr, x_oftup, x_oflst, x_oflc, x_ofcon, z_of, walk_l, walk_t, x_rng1, x_rng2, z_rng2a, x_enum, x_enum2, x_zip, x_zip3, z_en, z_zp, z_zp3, s_frr, w_fr, ul_nx, ul_rt, ul0, lk0, ul1, lk1, x_lkS, x_ulS, qLk_ow, qLk_io, qUl_ow, qUl_io, srcs_ofv, srcs_ofcall, srcs_ofcallT, srcs_ofpr, srcs_oftup, srcs_oflst, srcs_oflc, srcs_ofcon, srcs_r1, srcs_r2, srcs_en, srcs_en2, srcs_zp, srcs_zp3, rv_nil, rv_var, rv_call, rv_pr, rv_con, rv_lc, rv_tup, rv_lst, fi0, fi1, g_nm, g_tp, g_nl, g_cn, w_kM, x_kM, x_lm, mOw_q, mIo_q, o_rev, o_clr, x_lcT, qT1_some, z_T2, z_T3, x_frT, qF1_some, sS_sl, qW_sl, sl_some, z_lm, q_lm, Bool.and_true, Bool.true_and, Bool.and_false, Bool.false_and, Bool.or_true, Bool.true_or, Bool.or_false, Bool.false_or, revD, pr_add, pr_sub, pr_mul, pr_fdiv, pr_mod, pr_pow, pr_neg, pr_item, pr_len, pr_abs, pr_max, pr_min, pr_toInt, pr_toList, pr_toTuple, pr_sum, pr_sorted, pr_repr, pr_all, pr_any, pr_divmod, pr_isi, pr_cmp, pr_cut, pr_rev, pr_lrg, pr_trg, sz0, sz1, sz2, sz3, sz4, sz5, sz6, sz7, sz8, sz9, sz10, sz11, sz12]
  · rw [decide_eq_false h1] at eq0
    refine ⟨false, ⟨fun z => (by cases z), fun z => absurd z.1 h1⟩, ?_⟩
    simp only [m_is_within, b_is_within, io_sums_ahead, io_fall, sa, la, eq0, x_runF, q_nx, q_rt, rep0, rep1, x_var, qV_im, qV_ow, x_rdS, sD_im, sD_ow, sD_io, sD_lk, x_canLk, sC_ow, sC_io, sC_im, sC_lk, sC_un, x_stSf, x_stSt, sS_un, sS_im, sS_ow, x_chS, sG_ow, sG_io, mOw_some, mIo_some, x_con, x_tup, x_lst, z_tup, z_lst, x_pr, z_pr, x_not, z_not, x_and, x_or, z_and, z_or, x_ite, z_ite, x_call, z_call, q_ok, lift2_some, x_callT, z_callT, q_okT, x_Anil, x_Bnil, x_Cnil, x_Acons, z_A, z_B, z_C, z_cons, x_Bvar, tB_some, z_var, x_Bpr, x_Bcon, x_Btup, x_Blst, x_Bcall, x_BcallT, x_Bnot, x_Bite, x_Blc, x_Cval, x_Cvar, tC_true, z_varC, t_not, t_and, t_or, t_cmp, t_var, t_call, t_isi, t_len, t_con, t_item, t_all, t_any, y_t, y_n, y_a, y_o, y_c, s_skip, s_seq, w_nx, s_set, w_set, s_put, w_put, w_put2, s_unp, w_unp, w_unpQ, w_ts0, w_tsn, w_tsi, w_ti, w_ts, s_par, w_par, w_par2, w_par3, w_par4, s_ex, w_ex, s_iff, w_if, s_whl, s_retv, q_rim, q_row, s_retpr, s_rettup, s_retlst, s_retcon, s_retcall, s_retnot, s_retand, s_retor, s_retite, s_retlc, w_ret, startE, bind_rt, bind_sexn, bind_bk, bind_ct, lift_some, go1_some, ob_some, om_some, Vm.cmpD, ordD, putI, outsE, contS, add_ii, subD, negD, absD, maxD, minD, lensD, len_l, len_t, truD, boolOf, intOf, ioIx, wb, isiD, isTy, toIntD, toListD, toTupleD, itemsOf, List.length_cons, List.length_nil, Int.reduceToNat, it0, it1, it2, it3, it4, it5, it6, ta0, ta1, ta2, eqL2, noneL1, isBL1, inL_l, inL_t, isNo_n, isNo_i, isNo_t, isNo_q, eqI, eqQ, eqSS, eq_self, decide_eq_true_eq, cut_a, cut_b, slc_l, slc_t, List.nil_append, List.cons_append, List.append_nil, List.getElem?_cons_zero, List.getElem?_cons_succ, List.set_cons_zero, List.set_cons_succ, List.set_nil, Option.isSome_some, if_true, if_false, reduceIte, reduceCtorEq, Nat.reduceSub, Nat.reduceAdd, Nat.reduceLT, decide_true, decide_false, Bool.not_true, Bool.not_false, Bool.false_eq_true, Nat.reduceEqDiff, List.nodup_nil, List.nodup_cons, List.not_mem_nil, not_false_eq_true, true_and, and_true, and_self, x_lc, z_lc2, q_lc, mw0, mw1, qW_un, qW_im, wp0, wp1, bk0, bk1, gd0, gd1, x_ofv, kWk_l, kWk_t, x_ofcall, x_ofcallT, x_ofpr, x_oftup, x_oflst, x_oflc, x_ofcon, z_of, walk_l, walk_t, x_rng1, x_rng2, z_rng2a, x_enum, x_enum2, x_zip, x_zip3, z_en, z_zp, z_zp3, s_frr, w_fr, ul_nx, ul_rt, ul0, lk0, ul1, lk1, x_lkS, x_ulS, qLk_ow, qLk_io, qUl_ow, qUl_io, srcs_ofv, srcs_ofcall, srcs_ofcallT, srcs_ofpr, srcs_oftup, srcs_oflst, srcs_oflc, srcs_ofcon, srcs_r1, srcs_r2, srcs_en, srcs_en2, srcs_zp, srcs_zp3, rv_nil, rv_var, rv_call, rv_pr, rv_con, rv_lc, rv_tup, rv_lst, fi0, fi1, g_nm, g_tp, g_nl, g_cn, w_kM, x_kM, x_lm, mOw_q, mIo_q, o_rev, o_clr, x_lcT, qT1_some, z_T2, z_T3, x_frT, qF1_some, sS_sl, qW_sl, sl_some, z_lm, q_lm, Bool.and_true, Bool.true_and, Bool.and_false, Bool.false_and, Bool.or_true, Bool.true_or, Bool.or_false, Bool.false_or, revD, pr_add, pr_sub, pr_mul, pr_fdiv, pr_mod, pr_pow, pr_neg, pr_item, pr_len, pr_abs, pr_max, pr_min, pr_toInt, pr_toList, pr_toTuple, pr_sum, pr_sorted, pr_repr, pr_all, pr_any, pr_divmod, pr_isi, pr_cmp, pr_cut, pr_rev, pr_lrg, pr_trg, sz0, sz1, sz2, sz3, sz4, sz5, sz6, sz7, sz8, sz9, sz10, sz11, sz12]
/-! ### by selection -/
def selM (g : Nat → Rat) (m : Nat) (r : List Nat) : Nat := r.foldl (fun m k => if g m < g k then k else m) m
theorem selM_max {g : Nat → Rat} : ∀ {r : List Nat} {m : Nat}, (m :: r).Pairwise (· < ·) → selM g m r ∈ m :: r ∧ ∀ k ∈ m :: r, k = selM g m r ∨ bef g (selM g m r) k
  | [], m, _ => ⟨by simp [selM], fun k hk => .inl (by simpa [selM] using hk)⟩
  | a :: r, m, h => by
    obtain ⟨h1, h2⟩ := List.pairwise_cons.mp h
    obtain ⟨h3, h4⟩ := List.pairwise_cons.mp h2
    by_cases z : g m < g a
    · have e : selM g m (a :: r) = selM g a r := by
        unfold selM
        rw [List.foldl_cons, if_pos z]
      obtain ⟨i1, i2⟩ := selM_max (g := g) h2
      rw [e]
      refine ⟨List.mem_cons_of_mem _ i1, fun k hk => ?_⟩
      rcases List.mem_cons.mp hk with rfl | hk
      · have := i2 a List.mem_cons_self
        rcases this with q | q
        · rw [← q]; exact .inr (.inl z)
        · exact .inr (bef_trans q (.inl z))
      · exact i2 k hk
    · have e : selM g m (a :: r) = selM g m r := by
        unfold selM
        rw [List.foldl_cons, if_neg z]
      have h5 : (m :: r).Pairwise (· < ·) := List.pairwise_cons.mpr ⟨fun k hk => h1 k (List.mem_cons_of_mem _ hk), h4⟩
      obtain ⟨i1, i2⟩ := selM_max (g := g) h5
      rw [e]
      refine ⟨?_, fun k hk => ?_⟩
      · rcases List.mem_cons.mp i1 with q | q
        · rw [q]; exact List.mem_cons_self
        · exact List.mem_cons_of_mem _ (List.mem_cons_of_mem _ q)
      · rcases List.mem_cons.mp hk with rfl | hk
        · exact i2 _ List.mem_cons_self
        · rcases List.mem_cons.mp hk with rfl | hk
          · have hb : bef g m k := by
              by_cases e : g m = g k
              · exact .inr ⟨e, h1 k List.mem_cons_self⟩
              · exact .inl (by grind)
            rcases i2 m List.mem_cons_self with q | q
            · rw [← q]; exact .inr hb
            · exact .inr (bef_trans q hb)
          · exact i2 k (List.mem_cons_of_mem _ hk)
/- _law_first: 0 _law_row_here, 1 _law_left, 2 _law_found, 3 _law_at, 4 _law_k -/
noncomputable def wc__law_first_0 : E := .pr (.cmp .ne) (.cons (.var 1) (.cons (.lst (.nil)) (.nil)))
noncomputable def fb__law_first_1 : S := .iff (.call Lb.m_is_less (.cons (.pr .item (.cons (.var 0) (.cons (.var 3) (.nil)))) (.cons (.pr .item (.cons (.var 0) (.cons (.var 4) (.nil)))) (.nil)))) (.set 3 (.var 4)) (.skip)
noncomputable def cc__law_first_2 : E := .pr (.cmp .ne) (.cons (.var 4) (.cons (.var 3) (.nil)))
noncomputable def ce__law_first_2 : E := .var 4
noncomputable def wb__law_first_0 : S := .seq (.set 3 (.pr .item (.cons (.var 1) (.cons (.con (.int 0)) (.nil))))) (.seq (.frr (.nm 4) (.of (.var 1)) fb__law_first_1) (.seq (.ex (.lm .app 2 (.cons (.var 3) (.nil)))) (.set 1 (.lc [4] (.nm 4) (.of (.var 1)) cc__law_first_2 ce__law_first_2))))
noncomputable def b__law_first : S := .seq (.set 1 (.pr .lrg (.cons (.pr .len (.cons (.var 0) (.nil))) (.nil)))) (.seq (.set 2 (.lst (.nil))) (.seq (.whl wc__law_first_0 wb__law_first_0) (.ret (.var 2))))
noncomputable def m__law_first : Fm := ⟨[false], runF [false] 5 b__law_first⟩
theorem io__law_first : m__law_first.io = [false] := rfl
theorem step_first {row : List Rat} {d : D} {s0 : Slot} {K : Nat} (hs : sD (some s0) = some d) (hd : walkD d = some (row.map frQ)) (hk : ∀ q ∈ row, bq q ≤ K) (hK : K ≤ 60000000) (hl : row.length ≤ 1000) : ∀ (n : Nat) (left found : List Nat) (o1 o2 : Option D), left.length = n → left.Pairwise (· < ·) → (∀ k ∈ left, k < row.length) → found.length + n ≤ 1000 →
    ∃ l, l.Perm left ∧ l.Pairwise (bef fun i => row.getD i 0) ∧ ∃ k o3 o4, whN (evT wc__law_first_0) (evS wb__law_first_0) k [s0, .ow (.list (left.map nI)), .ow (.list (found.map nI)), sl o1, sl o2] = .nx [s0, .ow (.list []), .ow (.list ((found ++ l).map nI)), sl o3, sl o4] := by
  intro n
  induction n with
  | zero =>
    intro left found o1 o2 h _ _ _
    obtain rfl := List.eq_nil_of_length_eq_zero h
    refine ⟨[], .refl _, .nil, 1, o1, o2, ?_⟩
    have e0 : eqD (.list []) (.list []) = some true := rfl
    refine (whN_f (e1 := [s0, .ow (.list []), .ow (.list (found.map nI)), sl o1, sl o2]) ?_).trans (by simp)
    simp only [wc__law_first_0, List.map_nil, e0, x_runF, q_nx, q_rt, rep0, rep1, x_var, qV_im, qV_ow, x_rdS, sD_im, sD_ow, sD_io, sD_lk, x_canLk, sC_ow, sC_io, sC_im, sC_lk, sC_un, x_stSf, x_stSt, sS_un, sS_im, sS_ow, x_chS, sG_ow, sG_io, mOw_some, mIo_some, x_con, x_tup, x_lst, z_tup, z_lst, x_pr, z_pr, x_not, z_not, x_and, x_or, z_and, z_or, x_ite, z_ite, x_call, z_call, q_ok, lift2_some, x_callT, z_callT, q_okT, x_Anil, x_Bnil, x_Cnil, x_Acons, z_A, z_B, z_C, z_cons, x_Bvar, tB_some, z_var, x_Bpr, x_Bcon, x_Btup, x_Blst, x_Bcall, x_BcallT, x_Bnot, x_Bite, x_Blc, x_Cval, x_Cvar, tC_true, z_varC, t_not, t_and, t_or, t_cmp, t_var, t_call, t_isi, t_len, t_con, t_item, t_all, t_any, y_t, y_n, y_a, y_o, y_c, s_skip, s_seq, w_nx, s_set, w_set, s_put, w_put, w_put2, s_unp, w_unp, w_unpQ, w_ts0, w_tsn, w_tsi, w_ti, w_ts, s_par, w_par, w_par2, w_par3, w_par4, s_ex, w_ex, s_iff, w_if, s_whl, s_retv, q_rim, q_row, s_retpr, s_rettup, s_retlst, s_retcon, s_retcall, s_retnot, s_retand, s_retor, s_retite, s_retlc, w_ret, startE, bind_rt, bind_sexn, bind_bk, bind_ct, lift_some, go1_some, ob_some, om_some, Vm.cmpD, ordD, putI, outsE, contS, add_ii, subD, negD, absD, maxD, minD, lensD, len_l, len_t, truD, boolOf, intOf, ioIx, wb, isiD, isTy, toIntD, toListD, toTupleD, itemsOf, List.length_cons, List.length_nil, Int.reduceToNat, it0, it1, it2, it3, it4, it5, it6, ta0, ta1, ta2, eqL2, noneL1, isBL1, inL_l, inL_t, isNo_n, isNo_i, isNo_t, isNo_q, eqI, eqQ, eqSS, eq_self, decide_eq_true_eq, cut_a, cut_b, slc_l, slc_t, List.nil_append, List.cons_append, List.append_nil, List.getElem?_cons_zero, List.getElem?_cons_succ, List.set_cons_zero, List.set_cons_succ, List.set_nil, Option.isSome_some, if_true, if_false, reduceIte, reduceCtorEq, Nat.reduceSub, Nat.reduceAdd, Nat.reduceLT, decide_true, decide_false, Bool.not_true, Bool.not_false, Bool.false_eq_true, Nat.reduceEqDiff, List.nodup_nil, List.nodup_cons, List.not_mem_nil, not_false_eq_true, true_and, and_true, and_self, x_lc, z_lc2, q_lc, mw0, mw1, qW_un, qW_im, wp0, wp1, bk0, bk1, gd0, gd1, x_ofv, kWk_l, kWk_t, x_ofcall, x_ofcallT, x_ofpr, x_oftup, x_oflst, x_oflc, x_ofcon, z_of, walk_l, walk_t, x_rng1, x_rng2, z_rng2a, x_enum, x_enum2, x_zip, x_zip3, z_en, z_zp, z_zp3, s_frr, w_fr, ul_nx, ul_rt, ul0, lk0, ul1, lk1, x_lkS, x_ulS, qLk_ow, qLk_io, qUl_ow, qUl_io, srcs_ofv, srcs_ofcall, srcs_ofcallT, srcs_ofpr, srcs_oftup, srcs_oflst, srcs_oflc, srcs_ofcon, srcs_r1, srcs_r2, srcs_en, srcs_en2, srcs_zp, srcs_zp3, rv_nil, rv_var, rv_call, rv_pr, rv_con, rv_lc, rv_tup, rv_lst, fi0, fi1, g_nm, g_tp, g_nl, g_cn, w_kM, x_kM, x_lm, mOw_q, mIo_q, o_rev, o_clr, x_lcT, qT1_some, z_T2, z_T3, x_frT, qF1_some, sS_sl, qW_sl, sl_some, z_lm, q_lm, Bool.and_true, Bool.true_and, Bool.and_false, Bool.false_and, Bool.or_true, Bool.true_or, Bool.or_false, Bool.false_or, revD, pr_add, pr_sub, pr_mul, pr_fdiv, pr_mod, pr_pow, pr_neg, pr_item, pr_len, pr_abs, pr_max, pr_min, pr_toInt, pr_toList, pr_toTuple, pr_sum, pr_sorted, pr_repr, pr_all, pr_any, pr_divmod, pr_isi, pr_cmp, pr_cut, pr_rev, pr_lrg, pr_trg, sz0, sz1, sz2, sz3, sz4, sz5, sz6, sz7, sz8, sz9, sz10, sz11, sz12]
  | succ n ih =>
    intro left found o1 o2 h h2 h3 h4
    cases left with
    | nil => cases h
    | cons a r =>
      have hn : r.length = n := by simpa using h
      obtain ⟨i1, i2⟩ := selM_max (g := fun i => row.getD i 0) h2
      generalize hL : a :: r = left at *
      have hll : left.length = n + 1 := h
      have mlt : selM (fun i => row.getD i 0) a r < row.length := h3 _ i1
      have nd : left.Nodup := h2.imp fun h => by omega
      have f1 : ∀ (l : List Nat) (m : Nat) (o : Option D), (∀ k ∈ l, k < row.length) → m < row.length → ∃ o', frL (.nm 4) (evS fb__law_first_1) (l.map nI) [s0, .lk false (.list (left.map nI)), .ow (.list (found.map nI)), .im (nI m), sl o] = .nx [s0, .lk false (.list (left.map nI)), .ow (.list (found.map nI)), .im (nI (selM (fun i => row.getD i 0) m l)), sl o'] := by
        intro l
        induction l with
        | nil => exact fun m o _ _ => ⟨o, rfl⟩
        | cons k l ih2 =>
          intro m o hl2 hm
          have hkl := hl2 k List.mem_cons_self
          have hq := R_is_less (p := row.getD m 0) (q := row.getD k 0) (by have := getD_bq hk hm; have := getD_bq hk hkl; omega)
          by_cases z : row.getD m 0 < row.getD k 0
          · rw [decide_eq_true z] at hq
            have t : frT (.nm 4) fb__law_first_1 (nI k) [s0, .lk false (.list (left.map nI)), .ow (.list (found.map nI)), .im (nI m), sl o] = .nx [s0, .lk false (.list (left.map nI)), .ow (.list (found.map nI)), .im (nI k), sl (some (nI k))] := by
              simp only [fb__law_first_1, nI, io_is_less, hs, itemD_r hd hm, itemD_r hd hkl, hq, x_runF, q_nx, q_rt, rep0, rep1, x_var, qV_im, qV_ow, x_rdS, sD_im, sD_ow, sD_io, sD_lk, x_canLk, sC_ow, sC_io, sC_im, sC_lk, sC_un, x_stSf, x_stSt, sS_un, sS_im, sS_ow, x_chS, sG_ow, sG_io, mOw_some, mIo_some, x_con, x_tup, x_lst, z_tup, z_lst, x_pr, z_pr, x_not, z_not, x_and, x_or, z_and, z_or, x_ite, z_ite, x_call, z_call, q_ok, lift2_some, x_callT, z_callT, q_okT, x_Anil, x_Bnil, x_Cnil, x_Acons, z_A, z_B, z_C, z_cons, x_Bvar, tB_some, z_var, x_Bpr, x_Bcon, x_Btup, x_Blst, x_Bcall, x_BcallT, x_Bnot, x_Bite, x_Blc, x_Cval, x_Cvar, tC_true, z_varC, t_not, t_and, t_or, t_cmp, t_var, t_call, t_isi, t_len, t_con, t_item, t_all, t_any, y_t, y_n, y_a, y_o, y_c, s_skip, s_seq, w_nx, s_set, w_set, s_put, w_put, w_put2, s_unp, w_unp, w_unpQ, w_ts0, w_tsn, w_tsi, w_ti, w_ts, s_par, w_par, w_par2, w_par3, w_par4, s_ex, w_ex, s_iff, w_if, s_whl, s_retv, q_rim, q_row, s_retpr, s_rettup, s_retlst, s_retcon, s_retcall, s_retnot, s_retand, s_retor, s_retite, s_retlc, w_ret, startE, bind_rt, bind_sexn, bind_bk, bind_ct, lift_some, go1_some, ob_some, om_some, Vm.cmpD, ordD, putI, outsE, contS, add_ii, subD, negD, absD, maxD, minD, lensD, len_l, len_t, truD, boolOf, intOf, ioIx, wb, isiD, isTy, toIntD, toListD, toTupleD, itemsOf, List.length_cons, List.length_nil, Int.reduceToNat, it0, it1, it2, it3, it4, it5, it6, ta0, ta1, ta2, eqL2, noneL1, isBL1, inL_l, inL_t, isNo_n, isNo_i, isNo_t, isNo_q, eqI, eqQ, eqSS, eq_self, decide_eq_true_eq, cut_a, cut_b, slc_l, slc_t, List.nil_append, List.cons_append, List.append_nil, List.getElem?_cons_zero, List.getElem?_cons_succ, List.set_cons_zero, List.set_cons_succ, List.set_nil, Option.isSome_some, if_true, if_false, reduceIte, reduceCtorEq, Nat.reduceSub, Nat.reduceAdd, Nat.reduceLT, decide_true, decide_false, Bool.not_true, Bool.not_false, Bool.false_eq_true, Nat.reduceEqDiff, List.nodup_nil, List.nodup_cons, List.not_mem_nil, not_false_eq_true, true_and, and_true, and_self, x_lc, z_lc2, q_lc, mw0, mw1, qW_un, qW_im, wp0, wp1, bk0, bk1, gd0, gd1, x_ofv, kWk_l, kWk_t, x_ofcall, x_ofcallT, x_ofpr, x_oftup, x_oflst, x_oflc, x_ofcon, z_of, walk_l, walk_t, x_rng1, x_rng2, z_rng2a, x_enum, x_enum2, x_zip, x_zip3, z_en, z_zp, z_zp3, s_frr, w_fr, ul_nx, ul_rt, ul0, lk0, ul1, lk1, x_lkS, x_ulS, qLk_ow, qLk_io, qUl_ow, qUl_io, srcs_ofv, srcs_ofcall, srcs_ofcallT, srcs_ofpr, srcs_oftup, srcs_oflst, srcs_oflc, srcs_ofcon, srcs_r1, srcs_r2, srcs_en, srcs_en2, srcs_zp, srcs_zp3, rv_nil, rv_var, rv_call, rv_pr, rv_con, rv_lc, rv_tup, rv_lst, fi0, fi1, g_nm, g_tp, g_nl, g_cn, w_kM, x_kM, x_lm, mOw_q, mIo_q, o_rev, o_clr, x_lcT, qT1_some, z_T2, z_T3, x_frT, qF1_some, sS_sl, qW_sl, sl_some, z_lm, q_lm, Bool.and_true, Bool.true_and, Bool.and_false, Bool.false_and, Bool.or_true, Bool.true_or, Bool.or_false, Bool.false_or, revD, pr_add, pr_sub, pr_mul, pr_fdiv, pr_mod, pr_pow, pr_neg, pr_item, pr_len, pr_abs, pr_max, pr_min, pr_toInt, pr_toList, pr_toTuple, pr_sum, pr_sorted, pr_repr, pr_all, pr_any, pr_divmod, pr_isi, pr_cmp, pr_cut, pr_rev, pr_lrg, pr_trg, sz0, sz1, sz2, sz3, sz4, sz5, sz6, sz7, sz8, sz9, sz10, sz11, sz12]
            obtain ⟨o', h5⟩ := ih2 k (some (nI k)) (fun j hj => hl2 j (List.mem_cons_of_mem _ hj)) hkl
            refine ⟨o', ?_⟩
            rw [List.map_cons, frL_nx (.inl t), h5]
            unfold selM
            rw [List.foldl_cons, if_pos z]
          · rw [decide_eq_false z] at hq
            have t : frT (.nm 4) fb__law_first_1 (nI k) [s0, .lk false (.list (left.map nI)), .ow (.list (found.map nI)), .im (nI m), sl o] = .nx [s0, .lk false (.list (left.map nI)), .ow (.list (found.map nI)), .im (nI m), sl (some (nI k))] := by
              simp only [fb__law_first_1, nI, io_is_less, hs, itemD_r hd hm, itemD_r hd hkl, hq, x_runF, q_nx, q_rt, rep0, rep1, x_var, qV_im, qV_ow, x_rdS, sD_im, sD_ow, sD_io, sD_lk, x_canLk, sC_ow, sC_io, sC_im, sC_lk, sC_un, x_stSf, x_stSt, sS_un, sS_im, sS_ow, x_chS, sG_ow, sG_io, mOw_some, mIo_some, x_con, x_tup, x_lst, z_tup, z_lst, x_pr, z_pr, x_not, z_not, x_and, x_or, z_and, z_or, x_ite, z_ite, x_call, z_call, q_ok, lift2_some, x_callT, z_callT, q_okT, x_Anil, x_Bnil, x_Cnil, x_Acons, z_A, z_B, z_C, z_cons, x_Bvar, tB_some, z_var, x_Bpr, x_Bcon, x_Btup, x_Blst, x_Bcall, x_BcallT, x_Bnot, x_Bite, x_Blc, x_Cval, x_Cvar, tC_true, z_varC, t_not, t_and, t_or, t_cmp, t_var, t_call, t_isi, t_len, t_con, t_item, t_all, t_any, y_t, y_n, y_a, y_o, y_c, s_skip, s_seq, w_nx, s_set, w_set, s_put, w_put, w_put2, s_unp, w_unp, w_unpQ, w_ts0, w_tsn, w_tsi, w_ti, w_ts, s_par, w_par, w_par2, w_par3, w_par4, s_ex, w_ex, s_iff, w_if, s_whl, s_retv, q_rim, q_row, s_retpr, s_rettup, s_retlst, s_retcon, s_retcall, s_retnot, s_retand, s_retor, s_retite, s_retlc, w_ret, startE, bind_rt, bind_sexn, bind_bk, bind_ct, lift_some, go1_some, ob_some, om_some, Vm.cmpD, ordD, putI, outsE, contS, add_ii, subD, negD, absD, maxD, minD, lensD, len_l, len_t, truD, boolOf, intOf, ioIx, wb, isiD, isTy, toIntD, toListD, toTupleD, itemsOf, List.length_cons, List.length_nil, Int.reduceToNat, it0, it1, it2, it3, it4, it5, it6, ta0, ta1, ta2, eqL2, noneL1, isBL1, inL_l, inL_t, isNo_n, isNo_i, isNo_t, isNo_q, eqI, eqQ, eqSS, eq_self, decide_eq_true_eq, cut_a, cut_b, slc_l, slc_t, List.nil_append, List.cons_append, List.append_nil, List.getElem?_cons_zero, List.getElem?_cons_succ, List.set_cons_zero, List.set_cons_succ, List.set_nil, Option.isSome_some, if_true, if_false, reduceIte, reduceCtorEq, Nat.reduceSub, Nat.reduceAdd, Nat.reduceLT, decide_true, decide_false, Bool.not_true, Bool.not_false, Bool.false_eq_true, Nat.reduceEqDiff, List.nodup_nil, List.nodup_cons, List.not_mem_nil, not_false_eq_true, true_and, and_true, and_self, x_lc, z_lc2, q_lc, mw0, mw1, qW_un, qW_im, wp0, wp1, bk0, bk1, gd0, gd1, x_ofv, kWk_l, kWk_t, x_ofcall, x_ofcallT, x_ofpr, x_oftup, x_oflst, x_oflc, x_ofcon, z_of, walk_l, walk_t, x_rng1, x_rng2, z_rng2a, x_enum, x_enum2, x_zip, x_zip3, z_en, z_zp, z_zp3, s_frr, w_fr, ul_nx, ul_rt, ul0, lk0, ul1, lk1, x_lkS, x_ulS, qLk_ow, qLk_io, qUl_ow, qUl_io, srcs_ofv, srcs_ofcall, srcs_ofcallT, srcs_ofpr, srcs_oftup, srcs_oflst, srcs_oflc, srcs_ofcon, srcs_r1, srcs_r2, srcs_en, srcs_en2, srcs_zp, srcs_zp3, rv_nil, rv_var, rv_call, rv_pr, rv_con, rv_lc, rv_tup, rv_lst, fi0, fi1, g_nm, g_tp, g_nl, g_cn, w_kM, x_kM, x_lm, mOw_q, mIo_q, o_rev, o_clr, x_lcT, qT1_some, z_T2, z_T3, x_frT, qF1_some, sS_sl, qW_sl, sl_some, z_lm, q_lm, Bool.and_true, Bool.true_and, Bool.and_false, Bool.false_and, Bool.or_true, Bool.true_or, Bool.or_false, Bool.false_or, revD, pr_add, pr_sub, pr_mul, pr_fdiv, pr_mod, pr_pow, pr_neg, pr_item, pr_len, pr_abs, pr_max, pr_min, pr_toInt, pr_toList, pr_toTuple, pr_sum, pr_sorted, pr_repr, pr_all, pr_any, pr_divmod, pr_isi, pr_cmp, pr_cut, pr_rev, pr_lrg, pr_trg, sz0, sz1, sz2, sz3, sz4, sz5, sz6, sz7, sz8, sz9, sz10, sz11, sz12]
            obtain ⟨o', h5⟩ := ih2 m (some (nI k)) (fun j hj => hl2 j (List.mem_cons_of_mem _ hj)) hm
            refine ⟨o', ?_⟩
            rw [List.map_cons, frL_nx (.inl t), h5]
            unfold selM
            rw [List.foldl_cons, if_neg z]
      obtain ⟨o5, f1⟩ := f1 left a o2 h3 (h3 a (by rw [← hL]; exact List.mem_cons_self))
      have e1 : selM (fun i => row.getD i 0) a left = selM (fun i => row.getD i 0) a r := by
        rw [← hL]
        unfold selM
        rw [List.foldl_cons, if_neg (by grind)]
      rw [e1] at f1
      generalize selM (fun i => row.getD i 0) a r = m at *
      have lc := lcL_p (vs := [4]) (t := .nm 4) (c := cc__law_first_2) (el := ce__law_first_2) (rep := nI) (g := nI) (fun k => !decide (k = m)) (acc := []) (xs := left)
        (e := [s0, .lk false (.list (left.map nI)), .ow (.list ((found ++ [m]).map nI)), .im (nI m), .un]) (fun k hk => by
          by_cases z : k = m
          · subst z
            simp only [nI, cc__law_first_2, ce__law_first_2, x_runF, q_nx, q_rt, rep0, rep1, x_var, qV_im, qV_ow, x_rdS, sD_im, sD_ow, sD_io, sD_lk, x_canLk, sC_ow, sC_io, sC_im, sC_lk, sC_un, x_stSf, x_stSt, sS_un, sS_im, sS_ow, x_chS, sG_ow, sG_io, mOw_some, mIo_some, x_con, x_tup, x_lst, z_tup, z_lst, x_pr, z_pr, x_not, z_not, x_and, x_or, z_and, z_or, x_ite, z_ite, x_call, z_call, q_ok, lift2_some, x_callT, z_callT, q_okT, x_Anil, x_Bnil, x_Cnil, x_Acons, z_A, z_B, z_C, z_cons, x_Bvar, tB_some, z_var, x_Bpr, x_Bcon, x_Btup, x_Blst, x_Bcall, x_BcallT, x_Bnot, x_Bite, x_Blc, x_Cval, x_Cvar, tC_true, z_varC, t_not, t_and, t_or, t_cmp, t_var, t_call, t_isi, t_len, t_con, t_item, t_all, t_any, y_t, y_n, y_a, y_o, y_c, s_skip, s_seq, w_nx, s_set, w_set, s_put, w_put, w_put2, s_unp, w_unp, w_unpQ, w_ts0, w_tsn, w_tsi, w_ti, w_ts, s_par, w_par, w_par2, w_par3, w_par4, s_ex, w_ex, s_iff, w_if, s_whl, s_retv, q_rim, q_row, s_retpr, s_rettup, s_retlst, s_retcon, s_retcall, s_retnot, s_retand, s_retor, s_retite, s_retlc, w_ret, startE, bind_rt, bind_sexn, bind_bk, bind_ct, lift_some, go1_some, ob_some, om_some, Vm.cmpD, ordD, putI, outsE, contS, add_ii, subD, negD, absD, maxD, minD, lensD, len_l, len_t, truD, boolOf, intOf, ioIx, wb, isiD, isTy, toIntD, toListD, toTupleD, itemsOf, List.length_cons, List.length_nil, Int.reduceToNat, it0, it1, it2, it3, it4, it5, it6, ta0, ta1, ta2, eqL2, noneL1, isBL1, inL_l, inL_t, isNo_n, isNo_i, isNo_t, isNo_q, eqI, eqQ, eqSS, eq_self, decide_eq_true_eq, cut_a, cut_b, slc_l, slc_t, List.nil_append, List.cons_append, List.append_nil, List.getElem?_cons_zero, List.getElem?_cons_succ, List.set_cons_zero, List.set_cons_succ, List.set_nil, Option.isSome_some, if_true, if_false, reduceIte, reduceCtorEq, Nat.reduceSub, Nat.reduceAdd, Nat.reduceLT, decide_true, decide_false, Bool.not_true, Bool.not_false, Bool.false_eq_true, Nat.reduceEqDiff, List.nodup_nil, List.nodup_cons, List.not_mem_nil, not_false_eq_true, true_and, and_true, and_self, x_lc, z_lc2, q_lc, mw0, mw1, qW_un, qW_im, wp0, wp1, bk0, bk1, gd0, gd1, x_ofv, kWk_l, kWk_t, x_ofcall, x_ofcallT, x_ofpr, x_oftup, x_oflst, x_oflc, x_ofcon, z_of, walk_l, walk_t, x_rng1, x_rng2, z_rng2a, x_enum, x_enum2, x_zip, x_zip3, z_en, z_zp, z_zp3, s_frr, w_fr, ul_nx, ul_rt, ul0, lk0, ul1, lk1, x_lkS, x_ulS, qLk_ow, qLk_io, qUl_ow, qUl_io, srcs_ofv, srcs_ofcall, srcs_ofcallT, srcs_ofpr, srcs_oftup, srcs_oflst, srcs_oflc, srcs_ofcon, srcs_r1, srcs_r2, srcs_en, srcs_en2, srcs_zp, srcs_zp3, rv_nil, rv_var, rv_call, rv_pr, rv_con, rv_lc, rv_tup, rv_lst, fi0, fi1, g_nm, g_tp, g_nl, g_cn, w_kM, x_kM, x_lm, mOw_q, mIo_q, o_rev, o_clr, x_lcT, qT1_some, z_T2, z_T3, x_frT, qF1_some, sS_sl, qW_sl, sl_some, z_lm, q_lm, Bool.and_true, Bool.true_and, Bool.and_false, Bool.false_and, Bool.or_true, Bool.true_or, Bool.or_false, Bool.false_or, revD, pr_add, pr_sub, pr_mul, pr_fdiv, pr_mod, pr_pow, pr_neg, pr_item, pr_len, pr_abs, pr_max, pr_min, pr_toInt, pr_toList, pr_toTuple, pr_sum, pr_sorted, pr_repr, pr_all, pr_any, pr_divmod, pr_isi, pr_cmp, pr_cut, pr_rev, pr_lrg, pr_trg, sz0, sz1, sz2, sz3, sz4, sz5, sz6, sz7, sz8, sz9, sz10, sz11, sz12]
          · have zz : ¬ (k : Int) = (m : Int) := by omega
            simp only [nI, cc__law_first_2, ce__law_first_2, zz, z, x_runF, q_nx, q_rt, rep0, rep1, x_var, qV_im, qV_ow, x_rdS, sD_im, sD_ow, sD_io, sD_lk, x_canLk, sC_ow, sC_io, sC_im, sC_lk, sC_un, x_stSf, x_stSt, sS_un, sS_im, sS_ow, x_chS, sG_ow, sG_io, mOw_some, mIo_some, x_con, x_tup, x_lst, z_tup, z_lst, x_pr, z_pr, x_not, z_not, x_and, x_or, z_and, z_or, x_ite, z_ite, x_call, z_call, q_ok, lift2_some, x_callT, z_callT, q_okT, x_Anil, x_Bnil, x_Cnil, x_Acons, z_A, z_B, z_C, z_cons, x_Bvar, tB_some, z_var, x_Bpr, x_Bcon, x_Btup, x_Blst, x_Bcall, x_BcallT, x_Bnot, x_Bite, x_Blc, x_Cval, x_Cvar, tC_true, z_varC, t_not, t_and, t_or, t_cmp, t_var, t_call, t_isi, t_len, t_con, t_item, t_all, t_any, y_t, y_n, y_a, y_o, y_c, s_skip, s_seq, w_nx, s_set, w_set, s_put, w_put, w_put2, s_unp, w_unp, w_unpQ, w_ts0, w_tsn, w_tsi, w_ti, w_ts, s_par, w_par, w_par2, w_par3, w_par4, s_ex, w_ex, s_iff, w_if, s_whl, s_retv, q_rim, q_row, s_retpr, s_rettup, s_retlst, s_retcon, s_retcall, s_retnot, s_retand, s_retor, s_retite, s_retlc, w_ret, startE, bind_rt, bind_sexn, bind_bk, bind_ct, lift_some, go1_some, ob_some, om_some, Vm.cmpD, ordD, putI, outsE, contS, add_ii, subD, negD, absD, maxD, minD, lensD, len_l, len_t, truD, boolOf, intOf, ioIx, wb, isiD, isTy, toIntD, toListD, toTupleD, itemsOf, List.length_cons, List.length_nil, Int.reduceToNat, it0, it1, it2, it3, it4, it5, it6, ta0, ta1, ta2, eqL2, noneL1, isBL1, inL_l, inL_t, isNo_n, isNo_i, isNo_t, isNo_q, eqI, eqQ, eqSS, eq_self, decide_eq_true_eq, cut_a, cut_b, slc_l, slc_t, List.nil_append, List.cons_append, List.append_nil, List.getElem?_cons_zero, List.getElem?_cons_succ, List.set_cons_zero, List.set_cons_succ, List.set_nil, Option.isSome_some, if_true, if_false, reduceIte, reduceCtorEq, Nat.reduceSub, Nat.reduceAdd, Nat.reduceLT, decide_true, decide_false, Bool.not_true, Bool.not_false, Bool.false_eq_true, Nat.reduceEqDiff, List.nodup_nil, List.nodup_cons, List.not_mem_nil, not_false_eq_true, true_and, and_true, and_self, x_lc, z_lc2, q_lc, mw0, mw1, qW_un, qW_im, wp0, wp1, bk0, bk1, gd0, gd1, x_ofv, kWk_l, kWk_t, x_ofcall, x_ofcallT, x_ofpr, x_oftup, x_oflst, x_oflc, x_ofcon, z_of, walk_l, walk_t, x_rng1, x_rng2, z_rng2a, x_enum, x_enum2, x_zip, x_zip3, z_en, z_zp, z_zp3, s_frr, w_fr, ul_nx, ul_rt, ul0, lk0, ul1, lk1, x_lkS, x_ulS, qLk_ow, qLk_io, qUl_ow, qUl_io, srcs_ofv, srcs_ofcall, srcs_ofcallT, srcs_ofpr, srcs_oftup, srcs_oflst, srcs_oflc, srcs_ofcon, srcs_r1, srcs_r2, srcs_en, srcs_en2, srcs_zp, srcs_zp3, rv_nil, rv_var, rv_call, rv_pr, rv_con, rv_lc, rv_tup, rv_lst, fi0, fi1, g_nm, g_tp, g_nl, g_cn, w_kM, x_kM, x_lm, mOw_q, mIo_q, o_rev, o_clr, x_lcT, qT1_some, z_T2, z_T3, x_frT, qF1_some, sS_sl, qW_sl, sl_some, z_lm, q_lm, Bool.and_true, Bool.true_and, Bool.and_false, Bool.false_and, Bool.or_true, Bool.true_or, Bool.or_false, Bool.false_or, revD, pr_add, pr_sub, pr_mul, pr_fdiv, pr_mod, pr_pow, pr_neg, pr_item, pr_len, pr_abs, pr_max, pr_min, pr_toInt, pr_toList, pr_toTuple, pr_sum, pr_sorted, pr_repr, pr_all, pr_any, pr_divmod, pr_isi, pr_cmp, pr_cut, pr_rev, pr_lrg, pr_trg, sz0, sz1, sz2, sz3, sz4, sz5, sz6, sz7, sz8, sz9, sz10, sz11, sz12]) (by have := sizeLine_big; rw [hll, List.length_nil]; omega)
      rw [List.nil_append] at lc
      have oa := o_app (xs := found.map nI) (d := nI m) (by have := sizeLine_big; rw [List.length_map]; omega)
      have en : eqD (.list (left.map nI)) (.list []) = some false := by
        rw [eq_nil (rp_nI (l := left) (n := 1001) (fun k hk => by have := h3 k hk; omega) (by omega)) (by decide), ← hL]
        rfl
      have it : itemD [.list (left.map nI), .int 0] = some (nI a, false) := by rw [← hL]; exact it0
      have ef : (left.filter fun k => !decide (k = m)) = left.erase m := by
        rw [nd.erase_eq_filter]
        refine List.filter_congr fun k _ => ?_
        by_cases z : k = m <;> simp [z, bne]
      rw [ef] at lc
      obtain ⟨l, p1, p2, kk, o6, o7, h7⟩ := ih (left.erase m) (found ++ [m]) (some (nI m)) o5 (by rw [List.length_erase_of_mem i1]; omega) (h2.sublist List.erase_sublist) (fun k hk => h3 k (List.mem_of_mem_erase hk)) (by rw [List.length_append, List.length_singleton]; omega)
      refine ⟨m :: l, (p1.cons m).trans (List.perm_cons_erase i1).symm, List.pairwise_cons.mpr ⟨fun k hk => ?_, p2⟩, kk + 1, o6, o7, ?_⟩
      · have hm := p1.mem_iff.mp hk
        obtain ⟨n1, n2⟩ := (nd.mem_erase_iff).mp hm
        rcases i2 k n2 with q | q
        · exact absurd q n1
        · exact q
      · rw [List.append_assoc, List.singleton_append] at h7
        rw [← h7]
        refine whN_t (e1 := [s0, .ow (.list (left.map nI)), .ow (.list (found.map nI)), sl o1, sl o2]) ?_ ?_
        · simp only [wc__law_first_0, en, x_runF, q_nx, q_rt, rep0, rep1, x_var, qV_im, qV_ow, x_rdS, sD_im, sD_ow, sD_io, sD_lk, x_canLk, sC_ow, sC_io, sC_im, sC_lk, sC_un, x_stSf, x_stSt, sS_un, sS_im, sS_ow, x_chS, sG_ow, sG_io, mOw_some, mIo_some, x_con, x_tup, x_lst, z_tup, z_lst, x_pr, z_pr, x_not, z_not, x_and, x_or, z_and, z_or, x_ite, z_ite, x_call, z_call, q_ok, lift2_some, x_callT, z_callT, q_okT, x_Anil, x_Bnil, x_Cnil, x_Acons, z_A, z_B, z_C, z_cons, x_Bvar, tB_some, z_var, x_Bpr, x_Bcon, x_Btup, x_Blst, x_Bcall, x_BcallT, x_Bnot, x_Bite, x_Blc, x_Cval, x_Cvar, tC_true, z_varC, t_not, t_and, t_or, t_cmp, t_var, t_call, t_isi, t_len, t_con, t_item, t_all, t_any, y_t, y_n, y_a, y_o, y_c, s_skip, s_seq, w_nx, s_set, w_set, s_put, w_put, w_put2, s_unp, w_unp, w_unpQ, w_ts0, w_tsn, w_tsi, w_ti, w_ts, s_par, w_par, w_par2, w_par3, w_par4, s_ex, w_ex, s_iff, w_if, s_whl, s_retv, q_rim, q_row, s_retpr, s_rettup, s_retlst, s_retcon, s_retcall, s_retnot, s_retand, s_retor, s_retite, s_retlc, w_ret, startE, bind_rt, bind_sexn, bind_bk, bind_ct, lift_some, go1_some, ob_some, om_some, Vm.cmpD, ordD, putI, outsE, contS, add_ii, subD, negD, absD, maxD, minD, lensD, len_l, len_t, truD, boolOf, intOf, ioIx, wb, isiD, isTy, toIntD, toListD, toTupleD, itemsOf, List.length_cons, List.length_nil, Int.reduceToNat, it0, it1, it2, it3, it4, it5, it6, ta0, ta1, ta2, eqL2, noneL1, isBL1, inL_l, inL_t, isNo_n, isNo_i, isNo_t, isNo_q, eqI, eqQ, eqSS, eq_self, decide_eq_true_eq, cut_a, cut_b, slc_l, slc_t, List.nil_append, List.cons_append, List.append_nil, List.getElem?_cons_zero, List.getElem?_cons_succ, List.set_cons_zero, List.set_cons_succ, List.set_nil, Option.isSome_some, if_true, if_false, reduceIte, reduceCtorEq, Nat.reduceSub, Nat.reduceAdd, Nat.reduceLT, decide_true, decide_false, Bool.not_true, Bool.not_false, Bool.false_eq_true, Nat.reduceEqDiff, List.nodup_nil, List.nodup_cons, List.not_mem_nil, not_false_eq_true, true_and, and_true, and_self, x_lc, z_lc2, q_lc, mw0, mw1, qW_un, qW_im, wp0, wp1, bk0, bk1, gd0, gd1, x_ofv, kWk_l, kWk_t, x_ofcall, x_ofcallT, x_ofpr, x_oftup, x_oflst, x_oflc, x_ofcon, z_of, walk_l, walk_t, x_rng1, x_rng2, z_rng2a, x_enum, x_enum2, x_zip, x_zip3, z_en, z_zp, z_zp3, s_frr, w_fr, ul_nx, ul_rt, ul0, lk0, ul1, lk1, x_lkS, x_ulS, qLk_ow, qLk_io, qUl_ow, qUl_io, srcs_ofv, srcs_ofcall, srcs_ofcallT, srcs_ofpr, srcs_oftup, srcs_oflst, srcs_oflc, srcs_ofcon, srcs_r1, srcs_r2, srcs_en, srcs_en2, srcs_zp, srcs_zp3, rv_nil, rv_var, rv_call, rv_pr, rv_con, rv_lc, rv_tup, rv_lst, fi0, fi1, g_nm, g_tp, g_nl, g_cn, w_kM, x_kM, x_lm, mOw_q, mIo_q, o_rev, o_clr, x_lcT, qT1_some, z_T2, z_T3, x_frT, qF1_some, sS_sl, qW_sl, sl_some, z_lm, q_lm, Bool.and_true, Bool.true_and, Bool.and_false, Bool.false_and, Bool.or_true, Bool.true_or, Bool.or_false, Bool.false_or, revD, pr_add, pr_sub, pr_mul, pr_fdiv, pr_mod, pr_pow, pr_neg, pr_item, pr_len, pr_abs, pr_max, pr_min, pr_toInt, pr_toList, pr_toTuple, pr_sum, pr_sorted, pr_repr, pr_all, pr_any, pr_divmod, pr_isi, pr_cmp, pr_cut, pr_rev, pr_lrg, pr_trg, sz0, sz1, sz2, sz3, sz4, sz5, sz6, sz7, sz8, sz9, sz10, sz11, sz12]
        · have oa2 : found.map nI ++ [nI m] = (found ++ [m]).map nI := by rw [List.map_append]; rfl
          rw [oa2] at oa
          simp only [wb__law_first_0, it, f1, oa, lc, x_runF, q_nx, q_rt, rep0, rep1, x_var, qV_im, qV_ow, x_rdS, sD_im, sD_ow, sD_io, sD_lk, x_canLk, sC_ow, sC_io, sC_im, sC_lk, sC_un, x_stSf, x_stSt, sS_un, sS_im, sS_ow, x_chS, sG_ow, sG_io, mOw_some, mIo_some, x_con, x_tup, x_lst, z_tup, z_lst, x_pr, z_pr, x_not, z_not, x_and, x_or, z_and, z_or, x_ite, z_ite, x_call, z_call, q_ok, lift2_some, x_callT, z_callT, q_okT, x_Anil, x_Bnil, x_Cnil, x_Acons, z_A, z_B, z_C, z_cons, x_Bvar, tB_some, z_var, x_Bpr, x_Bcon, x_Btup, x_Blst, x_Bcall, x_BcallT, x_Bnot, x_Bite, x_Blc, x_Cval, x_Cvar, tC_true, z_varC, t_not, t_and, t_or, t_cmp, t_var, t_call, t_isi, t_len, t_con, t_item, t_all, t_any, y_t, y_n, y_a, y_o, y_c, s_skip, s_seq, w_nx, s_set, w_set, s_put, w_put, w_put2, s_unp, w_unp, w_unpQ, w_ts0, w_tsn, w_tsi, w_ti, w_ts, s_par, w_par, w_par2, w_par3, w_par4, s_ex, w_ex, s_iff, w_if, s_whl, s_retv, q_rim, q_row, s_retpr, s_rettup, s_retlst, s_retcon, s_retcall, s_retnot, s_retand, s_retor, s_retite, s_retlc, w_ret, startE, bind_rt, bind_sexn, bind_bk, bind_ct, lift_some, go1_some, ob_some, om_some, Vm.cmpD, ordD, putI, outsE, contS, add_ii, subD, negD, absD, maxD, minD, lensD, len_l, len_t, truD, boolOf, intOf, ioIx, wb, isiD, isTy, toIntD, toListD, toTupleD, itemsOf, List.length_cons, List.length_nil, Int.reduceToNat, it0, it1, it2, it3, it4, it5, it6, ta0, ta1, ta2, eqL2, noneL1, isBL1, inL_l, inL_t, isNo_n, isNo_i, isNo_t, isNo_q, eqI, eqQ, eqSS, eq_self, decide_eq_true_eq, cut_a, cut_b, slc_l, slc_t, List.nil_append, List.cons_append, List.append_nil, List.getElem?_cons_zero, List.getElem?_cons_succ, List.set_cons_zero, List.set_cons_succ, List.set_nil, Option.isSome_some, if_true, if_false, reduceIte, reduceCtorEq, Nat.reduceSub, Nat.reduceAdd, Nat.reduceLT, decide_true, decide_false, Bool.not_true, Bool.not_false, Bool.false_eq_true, Nat.reduceEqDiff, List.nodup_nil, List.nodup_cons, List.not_mem_nil, not_false_eq_true, true_and, and_true, and_self, x_lc, z_lc2, q_lc, mw0, mw1, qW_un, qW_im, wp0, wp1, bk0, bk1, gd0, gd1, x_ofv, kWk_l, kWk_t, x_ofcall, x_ofcallT, x_ofpr, x_oftup, x_oflst, x_oflc, x_ofcon, z_of, walk_l, walk_t, x_rng1, x_rng2, z_rng2a, x_enum, x_enum2, x_zip, x_zip3, z_en, z_zp, z_zp3, s_frr, w_fr, ul_nx, ul_rt, ul0, lk0, ul1, lk1, x_lkS, x_ulS, qLk_ow, qLk_io, qUl_ow, qUl_io, srcs_ofv, srcs_ofcall, srcs_ofcallT, srcs_ofpr, srcs_oftup, srcs_oflst, srcs_oflc, srcs_ofcon, srcs_r1, srcs_r2, srcs_en, srcs_en2, srcs_zp, srcs_zp3, rv_nil, rv_var, rv_call, rv_pr, rv_con, rv_lc, rv_tup, rv_lst, fi0, fi1, g_nm, g_tp, g_nl, g_cn, w_kM, x_kM, x_lm, mOw_q, mIo_q, o_rev, o_clr, x_lcT, qT1_some, z_T2, z_T3, x_frT, qF1_some, sS_sl, qW_sl, sl_some, z_lm, q_lm, Bool.and_true, Bool.true_and, Bool.and_false, Bool.false_and, Bool.or_true, Bool.true_or, Bool.or_false, Bool.false_or, revD, pr_add, pr_sub, pr_mul, pr_fdiv, pr_mod, pr_pow, pr_neg, pr_item, pr_len, pr_abs, pr_max, pr_min, pr_toInt, pr_toList, pr_toTuple, pr_sum, pr_sorted, pr_repr, pr_all, pr_any, pr_divmod, pr_isi, pr_cmp, pr_cut, pr_rev, pr_lrg, pr_trg, sz0, sz1, sz2, sz3, sz4, sz5, sz6, sz7, sz8, sz9, sz10, sz11, sz12]
theorem body_first {row : List Rat} {d : D} {s0 : Slot} {K : Nat} (hs : sD (some s0) = some d) (hd : walkD d = some (row.map frQ)) (hk : ∀ q ∈ row, bq q ≤ K) (hK : K ≤ 60000000) (hl : row.length ≤ 1000) :
    ∃ o1 o2, evS b__law_first [s0, .un, .un, .un, .un] = .rt (.list ((gfirst row).map nI)) true [s0, .ow (.list []), .un, sl o1, sl o2] := by
  have len := len_w hd
  rw [List.length_map] at len
  have lr := o_lrg (n := (row.length : Int)) (by omega) (by omega)
  rw [Int.toNat_natCast, rngD0] at lr
  obtain ⟨l, p1, p2, k, o1, o2, h⟩ := step_first hs hd hk hK hl row.length (List.range row.length) [] none none List.length_range List.pairwise_lt_range (fun k hk => List.mem_range.mp hk) (by simpa using hl)
  rw [List.nil_append, sorted_one (p1.trans (gfirst_perm row).symm) p2 (gfirst_sorted row)] at h
  have h := whL_eq k h (by simp)
  have h : whL (evT wc__law_first_0) (evS wb__law_first_0) [s0, .ow (.list ((List.range row.length).map fun (k : Nat) => PyData.int (k : Int))), .ow (.list []), .un, .un] = .nx [s0, .ow (.list []), .ow (.list ((gfirst row).map nI)), sl o1, sl o2] := h
  refine ⟨o1, o2, ?_⟩
  simp only [b__law_first, hs, len, lr, h, x_runF, q_nx, q_rt, rep0, rep1, x_var, qV_im, qV_ow, x_rdS, sD_im, sD_ow, sD_io, sD_lk, x_canLk, sC_ow, sC_io, sC_im, sC_lk, sC_un, x_stSf, x_stSt, sS_un, sS_im, sS_ow, x_chS, sG_ow, sG_io, mOw_some, mIo_some, x_con, x_tup, x_lst, z_tup, z_lst, x_pr, z_pr, x_not, z_not, x_and, x_or, z_and, z_or, x_ite, z_ite, x_call, z_call, q_ok, lift2_some, x_callT, z_callT, q_okT, x_Anil, x_Bnil, x_Cnil, x_Acons, z_A, z_B, z_C, z_cons, x_Bvar, tB_some, z_var, x_Bpr, x_Bcon, x_Btup, x_Blst, x_Bcall, x_BcallT, x_Bnot, x_Bite, x_Blc, x_Cval, x_Cvar, tC_true, z_varC, t_not, t_and, t_or, t_cmp, t_var, t_call, t_isi, t_len, t_con, t_item, t_all, t_any, y_t, y_n, y_a, y_o, y_c, s_skip, s_seq, w_nx, s_set, w_set, s_put, w_put, w_put2, s_unp, w_unp, w_unpQ, w_ts0, w_tsn, w_tsi, w_ti, w_ts, s_par, w_par, w_par2, w_par3, w_par4, s_ex, w_ex, s_iff, w_if, s_whl, s_retv, q_rim, q_row, s_retpr, s_rettup, s_retlst, s_retcon, s_retcall, s_retnot, s_retand, s_retor, s_retite, s_retlc, w_ret, startE, bind_rt, bind_sexn, bind_bk, bind_ct, lift_some, go1_some, ob_some, om_some, Vm.cmpD, ordD, putI, outsE, contS, add_ii, subD, negD, absD, maxD, minD, lensD, len_l, len_t, truD, boolOf, intOf, ioIx, wb, isiD, isTy, toIntD, toListD, toTupleD, itemsOf, List.length_cons, List.length_nil, Int.reduceToNat, it0, it1, it2, it3, it4, it5, it6, ta0, ta1, ta2, eqL2, noneL1, isBL1, inL_l, inL_t, isNo_n, isNo_i, isNo_t, isNo_q, eqI, eqQ, eqSS, eq_self, decide_eq_true_eq, cut_a, cut_b, slc_l, slc_t, List.nil_append, List.cons_append, List.append_nil, List.getElem?_cons_zero, List.getElem?_cons_succ, List.set_cons_zero, List.set_cons_succ, List.set_nil, Option.isSome_some, if_true, if_false, reduceIte, reduceCtorEq, Nat.reduceSub, Nat.reduceAdd, Nat.reduceLT, decide_true, decide_false, Bool.not_true, Bool.not_false, Bool.false_eq_true, Nat.reduceEqDiff, List.nodup_nil, List.nodup_cons, List.not_mem_nil, not_false_eq_true, true_and, and_true, and_self, x_lc, z_lc2, q_lc, mw0, mw1, qW_un, qW_im, wp0, wp1, bk0, bk1, gd0, gd1, x_ofv, kWk_l, kWk_t, x_ofcall, x_ofcallT, x_ofpr, x_oftup, x_oflst, x_oflc, x_ofcon, z_of, walk_l, walk_t, x_rng1, x_rng2, z_rng2a, x_enum, x_enum2, x_zip, x_zip3, z_en, z_zp, z_zp3, s_frr, w_fr, ul_nx, ul_rt, ul0, lk0, ul1, lk1, x_lkS, x_ulS, qLk_ow, qLk_io, qUl_ow, qUl_io, srcs_ofv, srcs_ofcall, srcs_ofcallT, srcs_ofpr, srcs_oftup, srcs_oflst, srcs_oflc, srcs_ofcon, srcs_r1, srcs_r2, srcs_en, srcs_en2, srcs_zp, srcs_zp3, rv_nil, rv_var, rv_call, rv_pr, rv_con, rv_lc, rv_tup, rv_lst, fi0, fi1, g_nm, g_tp, g_nl, g_cn, w_kM, x_kM, x_lm, mOw_q, mIo_q, o_rev, o_clr, x_lcT, qT1_some, z_T2, z_T3, x_frT, qF1_some, sS_sl, qW_sl, sl_some, z_lm, q_lm, Bool.and_true, Bool.true_and, Bool.and_false, Bool.false_and, Bool.or_true, Bool.true_or, Bool.or_false, Bool.false_or, revD, pr_add, pr_sub, pr_mul, pr_fdiv, pr_mod, pr_pow, pr_neg, pr_item, pr_len, pr_abs, pr_max, pr_min, pr_toInt, pr_toList, pr_toTuple, pr_sum, pr_sorted, pr_repr, pr_all, pr_any, pr_divmod, pr_isi, pr_cmp, pr_cut, pr_rev, pr_lrg, pr_trg, sz0, sz1, sz2, sz3, sz4, sz5, sz6, sz7, sz8, sz9, sz10, sz11, sz12]
theorem Q_first {row : List Rat} {d : D} {K : Nat} (hd : walkD d = some (row.map frQ)) (hk : ∀ q ∈ row, bq q ≤ K) (hK : K ≤ 60000000) (hl : row.length ≤ 1000) : m__law_first.run [d] = .ok (.list ((gfirst row).map nI)) true [] := by
  obtain ⟨o1, o2, h⟩ := body_first (s0 := .im d) rfl hd hk hK hl
  simp only [m__law_first, h, x_runF, q_nx, q_rt, rep0, rep1, x_var, qV_im, qV_ow, x_rdS, sD_im, sD_ow, sD_io, sD_lk, x_canLk, sC_ow, sC_io, sC_im, sC_lk, sC_un, x_stSf, x_stSt, sS_un, sS_im, sS_ow, x_chS, sG_ow, sG_io, mOw_some, mIo_some, x_con, x_tup, x_lst, z_tup, z_lst, x_pr, z_pr, x_not, z_not, x_and, x_or, z_and, z_or, x_ite, z_ite, x_call, z_call, q_ok, lift2_some, x_callT, z_callT, q_okT, x_Anil, x_Bnil, x_Cnil, x_Acons, z_A, z_B, z_C, z_cons, x_Bvar, tB_some, z_var, x_Bpr, x_Bcon, x_Btup, x_Blst, x_Bcall, x_BcallT, x_Bnot, x_Bite, x_Blc, x_Cval, x_Cvar, tC_true, z_varC, t_not, t_and, t_or, t_cmp, t_var, t_call, t_isi, t_len, t_con, t_item, t_all, t_any, y_t, y_n, y_a, y_o, y_c, s_skip, s_seq, w_nx, s_set, w_set, s_put, w_put, w_put2, s_unp, w_unp, w_unpQ, w_ts0, w_tsn, w_tsi, w_ti, w_ts, s_par, w_par, w_par2, w_par3, w_par4, s_ex, w_ex, s_iff, w_if, s_whl, s_retv, q_rim, q_row, s_retpr, s_rettup, s_retlst, s_retcon, s_retcall, s_retnot, s_retand, s_retor, s_retite, s_retlc, w_ret, startE, bind_rt, bind_sexn, bind_bk, bind_ct, lift_some, go1_some, ob_some, om_some, Vm.cmpD, ordD, putI, outsE, contS, add_ii, subD, negD, absD, maxD, minD, lensD, len_l, len_t, truD, boolOf, intOf, ioIx, wb, isiD, isTy, toIntD, toListD, toTupleD, itemsOf, List.length_cons, List.length_nil, Int.reduceToNat, it0, it1, it2, it3, it4, it5, it6, ta0, ta1, ta2, eqL2, noneL1, isBL1, inL_l, inL_t, isNo_n, isNo_i, isNo_t, isNo_q, eqI, eqQ, eqSS, eq_self, decide_eq_true_eq, cut_a, cut_b, slc_l, slc_t, List.nil_append, List.cons_append, List.append_nil, List.getElem?_cons_zero, List.getElem?_cons_succ, List.set_cons_zero, List.set_cons_succ, List.set_nil, Option.isSome_some, if_true, if_false, reduceIte, reduceCtorEq, Nat.reduceSub, Nat.reduceAdd, Nat.reduceLT, decide_true, decide_false, Bool.not_true, Bool.not_false, Bool.false_eq_true, Nat.reduceEqDiff, List.nodup_nil, List.nodup_cons, List.not_mem_nil, not_false_eq_true, true_and, and_true, and_self, x_lc, z_lc2, q_lc, mw0, mw1, qW_un, qW_im, wp0, wp1, bk0, bk1, gd0, gd1, x_ofv, kWk_l, kWk_t, x_ofcall, x_ofcallT, x_ofpr, x_oftup, x_oflst, x_oflc, x_ofcon, z_of, walk_l, walk_t, x_rng1, x_rng2, z_rng2a, x_enum, x_enum2, x_zip, x_zip3, z_en, z_zp, z_zp3, s_frr, w_fr, ul_nx, ul_rt, ul0, lk0, ul1, lk1, x_lkS, x_ulS, qLk_ow, qLk_io, qUl_ow, qUl_io, srcs_ofv, srcs_ofcall, srcs_ofcallT, srcs_ofpr, srcs_oftup, srcs_oflst, srcs_oflc, srcs_ofcon, srcs_r1, srcs_r2, srcs_en, srcs_en2, srcs_zp, srcs_zp3, rv_nil, rv_var, rv_call, rv_pr, rv_con, rv_lc, rv_tup, rv_lst, fi0, fi1, g_nm, g_tp, g_nl, g_cn, w_kM, x_kM, x_lm, mOw_q, mIo_q, o_rev, o_clr, x_lcT, qT1_some, z_T2, z_T3, x_frT, qF1_some, sS_sl, qW_sl, sl_some, z_lm, q_lm, Bool.and_true, Bool.true_and, Bool.and_false, Bool.false_and, Bool.or_true, Bool.true_or, Bool.or_false, Bool.false_or, revD, pr_add, pr_sub, pr_mul, pr_fdiv, pr_mod, pr_pow, pr_neg, pr_item, pr_len, pr_abs, pr_max, pr_min, pr_toInt, pr_toList, pr_toTuple, pr_sum, pr_sorted, pr_repr, pr_all, pr_any, pr_divmod, pr_isi, pr_cmp, pr_cut, pr_rev, pr_lrg, pr_trg, sz0, sz1, sz2, sz3, sz4, sz5, sz6, sz7, sz8, sz9, sz10, sz11, sz12]
/- _law_number: 0 _law_pot_here, 1 _law_far -/
noncomputable def b__law_number : S := .seq (.set 1 (.pr .add (.cons (.pr .sub (.cons (.call Lb.m__law_digit (.cons (.var 0) (.cons (.pr .sub (.cons (.pr .mul (.cons (.con (.int 2)) (.cons (.pr .pow (.cons (.con (.int 10)) (.cons (.con (.int 29)) (.nil)))) (.nil)))) (.cons (.con (.int 1)) (.nil)))) (.nil)))) (.cons (.pr .pow (.cons (.con (.int 10)) (.cons (.con (.int 29)) (.nil)))) (.nil)))) (.cons (.con (.int 1)) (.nil))))) (.ret (.pr .item (.cons (.lst (.cons (.pr .sub (.cons (.call Lb.m__law_digit (.cons (.var 0) (.cons (.con (.int 7)) (.nil)))) (.cons (.con (.int 3)) (.nil)))) (.cons (.pr .sub (.cons (.call Lb.m__law_digit (.cons (.var 0) (.cons (.con (.int 7)) (.nil)))) (.cons (.con (.int 3)) (.nil)))) (.cons (.pr .sub (.cons (.call Lb.m__law_digit (.cons (.var 0) (.cons (.con (.int 201)) (.nil)))) (.cons (.con (.int 100)) (.nil)))) (.cons (.var 1) (.nil)))))) (.cons (.call Lb.m__law_digit (.cons (.var 0) (.cons (.con (.int 4)) (.nil)))) (.nil)))))
noncomputable def m__law_number : Fm := ⟨[true], runF [true] 2 b__law_number⟩
theorem io__law_number : m__law_number.io = [true] := rfl
theorem Q_number (p : Pot) : ∃ n p', m__law_number.run [PD p] = .ok (.int n) false [PD p'] ∧ bl n ≤ 98 := by
  obtain ⟨d1, p1, h1, l1, u1⟩ := R_digit p (n := 2 * 10 ^ 29 - 1) (by decide) (by decide +kernel)
  obtain ⟨d2, p2, h2, l2, u2⟩ := R_digit p1 (n := 7) (by decide) (by decide +kernel)
  obtain ⟨d3, p3, h3, l3, u3⟩ := R_digit p2 (n := 7) (by decide) (by decide +kernel)
  obtain ⟨d4, p4, h4, l4, u4⟩ := R_digit p3 (n := 201) (by decide) (by decide +kernel)
  obtain ⟨d5, p5, h5, l5, u5⟩ := R_digit p4 (n := 4) (by decide) (by decide +kernel)
  obtain ⟨v, hv, ev⟩ := it_pick (xs := [d2 - 3, d3 - 3, d4 - 100, d1 - 10 ^ 29 + 1]) l5 u5
  have bv : bl v ≤ 98 := by
    simp only [List.mem_cons, List.not_mem_nil, or_false] at hv
    exact bl_le 98 (by omega) (by omega)
  simp only [List.map_cons, List.map_nil] at ev
  refine ⟨v, p5, ?_, bv⟩
  simp only [m__law_number, b__law_number, io__law_digit, o_pow (i := 10) (j := 29) (by decide), o_mul (i := 2) (j := 10 ^ 29) (by decide +kernel), h1, h2, h3, h4, h5, ev, x_runF, q_nx, q_rt, rep0, rep1, x_var, qV_im, qV_ow, x_rdS, sD_im, sD_ow, sD_io, sD_lk, x_canLk, sC_ow, sC_io, sC_im, sC_lk, sC_un, x_stSf, x_stSt, sS_un, sS_im, sS_ow, x_chS, sG_ow, sG_io, mOw_some, mIo_some, x_con, x_tup, x_lst, z_tup, z_lst, x_pr, z_pr, x_not, z_not, x_and, x_or, z_and, z_or, x_ite, z_ite, x_call, z_call, q_ok, lift2_some, x_callT, z_callT, q_okT, x_Anil, x_Bnil, x_Cnil, x_Acons, z_A, z_B, z_C, z_cons, x_Bvar, tB_some, z_var, x_Bpr, x_Bcon, x_Btup, x_Blst, x_Bcall, x_BcallT, x_Bnot, x_Bite, x_Blc, x_Cval, x_Cvar, tC_true, z_varC, t_not, t_and, t_or, t_cmp, t_var, t_call, t_isi, t_len, t_con, t_item, t_all, t_any, y_t, y_n, y_a, y_o, y_c, s_skip, s_seq, w_nx, s_set, w_set, s_put, w_put, w_put2, s_unp, w_unp, w_unpQ, w_ts0, w_tsn, w_tsi, w_ti, w_ts, s_par, w_par, w_par2, w_par3, w_par4, s_ex, w_ex, s_iff, w_if, s_whl, s_retv, q_rim, q_row, s_retpr, s_rettup, s_retlst, s_retcon, s_retcall, s_retnot, s_retand, s_retor, s_retite, s_retlc, w_ret, startE, bind_rt, bind_sexn, bind_bk, bind_ct, lift_some, go1_some, ob_some, om_some, Vm.cmpD, ordD, putI, outsE, contS, add_ii, subD, negD, absD, maxD, minD, lensD, len_l, len_t, truD, boolOf, intOf, ioIx, wb, isiD, isTy, toIntD, toListD, toTupleD, itemsOf, List.length_cons, List.length_nil, Int.reduceToNat, it0, it1, it2, it3, it4, it5, it6, ta0, ta1, ta2, eqL2, noneL1, isBL1, inL_l, inL_t, isNo_n, isNo_i, isNo_t, isNo_q, eqI, eqQ, eqSS, eq_self, decide_eq_true_eq, cut_a, cut_b, slc_l, slc_t, List.nil_append, List.cons_append, List.append_nil, List.getElem?_cons_zero, List.getElem?_cons_succ, List.set_cons_zero, List.set_cons_succ, List.set_nil, Option.isSome_some, if_true, if_false, reduceIte, reduceCtorEq, Nat.reduceSub, Nat.reduceAdd, Nat.reduceLT, decide_true, decide_false, Bool.not_true, Bool.not_false, Bool.false_eq_true, Nat.reduceEqDiff, List.nodup_nil, List.nodup_cons, List.not_mem_nil, not_false_eq_true, true_and, and_true, and_self, x_lc, z_lc2, q_lc, mw0, mw1, qW_un, qW_im, wp0, wp1, bk0, bk1, gd0, gd1, x_ofv, kWk_l, kWk_t, x_ofcall, x_ofcallT, x_ofpr, x_oftup, x_oflst, x_oflc, x_ofcon, z_of, walk_l, walk_t, x_rng1, x_rng2, z_rng2a, x_enum, x_enum2, x_zip, x_zip3, z_en, z_zp, z_zp3, s_frr, w_fr, ul_nx, ul_rt, ul0, lk0, ul1, lk1, x_lkS, x_ulS, qLk_ow, qLk_io, qUl_ow, qUl_io, srcs_ofv, srcs_ofcall, srcs_ofcallT, srcs_ofpr, srcs_oftup, srcs_oflst, srcs_oflc, srcs_ofcon, srcs_r1, srcs_r2, srcs_en, srcs_en2, srcs_zp, srcs_zp3, rv_nil, rv_var, rv_call, rv_pr, rv_con, rv_lc, rv_tup, rv_lst, fi0, fi1, g_nm, g_tp, g_nl, g_cn, w_kM, x_kM, x_lm, mOw_q, mIo_q, o_rev, o_clr, x_lcT, qT1_some, z_T2, z_T3, x_frT, qF1_some, sS_sl, qW_sl, sl_some, z_lm, q_lm, Bool.and_true, Bool.true_and, Bool.and_false, Bool.false_and, Bool.or_true, Bool.true_or, Bool.or_false, Bool.false_or, revD, pr_add, pr_sub, pr_mul, pr_fdiv, pr_mod, pr_pow, pr_neg, pr_item, pr_len, pr_abs, pr_max, pr_min, pr_toInt, pr_toList, pr_toTuple, pr_sum, pr_sorted, pr_repr, pr_all, pr_any, pr_divmod, pr_isi, pr_cmp, pr_cut, pr_rev, pr_lrg, pr_trg, sz0, sz1, sz2, sz3, sz4, sz5, sz6, sz7, sz8, sz9, sz10, sz11, sz12]
theorem frQ_neg (q : Rat) : (PyData.tuple [.int (0 - q.num), .int (q.den : Int)] : D) = frQ (-q) := by
  unfold frQ
  rw [Rat.neg_num, Rat.neg_den, Int.zero_sub]
theorem o_pop {xs : List D} {k : Nat} (h : k < xs.length) (hl : xs.length ≤ 16777216) : lmD .popAt [.int (k : Int)] xs = some (xs.eraseIdx k, xs[k]) := by
  show popI xs (k : Int) = _
  unfold popI
  have e : seqIndex? (k : Int) xs.length = some k := by
    unfold seqIndex?
    simp
    omega
  have b1 : decide (-(2 ^ 63 : Int) ≤ (k : Int)) = true := decide_eq_true (by omega)
  have b2 : decide ((k : Int) < 2 ^ 63) = true := decide_eq_true (by omega)
  rw [e, b1, b2]
  simp [List.getElem?_eq_getElem h]
/-! ### permuted rows -/
def Vd (row : List Rat) : List Rat := (gfirst row).map fun i => row.getD i 0
theorem Vd_perm (row : List Rat) : (Vd row).Perm row := by
  have h := (gfirst_perm row).map fun i => row.getD i 0
  have e : (List.range row.length).map (fun i => row.getD i 0) = row := by
    apply List.ext_getElem?
    intro i
    rw [List.getElem?_map]
    by_cases hi : i < row.length
    · rw [List.getElem?_range hi, List.getElem?_eq_getElem hi]
      simp [List.getD_eq_getElem?_getD, List.getElem?_eq_getElem hi]
    · rw [List.getElem?_eq_none (by simp; omega), List.getElem?_eq_none (by omega)]
      rfl
  rw [e] at h
  exact h
theorem Vd_sorted (row : List Rat) : (Vd row).Pairwise fun a b => b ≤ a := List.pairwise_map.mpr ((gfirst_sorted row).imp bef_le)
theorem Vd_one {r s : List Rat} (h : r.Perm s) : Vd r = Vd s := ((Vd_perm r).trans (h.trans (Vd_perm s).symm)).eq_of_pairwise (fun a b _ _ h1 h2 => by grind) (Vd_sorted r) (Vd_sorted s)
theorem SG_Vd (row : List Rat) (k : Nat) : SG row k = ((Vd row).take k).sum := by
  unfold SG Sg Vd
  rw [List.map_take]
theorem SG_one {r s : List Rat} (h : r.Perm s) (k : Nat) : SG r k = SG s k := by rw [SG_Vd, SG_Vd, Vd_one h]
theorem WithinR_one {r s : List Rat} {w : Int} (h : r.Perm s) : WithinR w r ↔ WithinR w s := by
  unfold WithinR
  rw [sum_perm h, h.length_eq]
  simp only [SG_one h]
/-- what is in and what is out -/
theorem sum_split {g : Nat → Rat} {p : Nat → Bool} : ∀ l : List Nat, (l.map g).sum = ((l.filter p).map g).sum + ((l.filter fun k => !p k).map g).sum
  | [] => by
    show (0 : Rat) = 0 + 0
    grind
  | a :: l => by
    have ih := sum_split (g := g) (p := p) l
    by_cases z : p a = true
    · rw [List.filter_cons_of_pos z, List.filter_cons_of_neg (by simp [z]), List.map_cons, List.map_cons, List.sum_cons, List.sum_cons, ih]
      grind
    · rw [List.filter_cons_of_neg z, List.filter_cons_of_pos (by simp [z]), List.map_cons, List.map_cons, List.sum_cons, List.sum_cons, ih]
      grind
theorem len_split {p : Nat → Bool} : ∀ l : List Nat, l.length = (l.filter p).length + (l.filter fun k => !p k).length
  | [] => rfl
  | a :: l => by
    have ih := len_split (p := p) l
    by_cases z : p a = true
    · rw [List.filter_cons_of_pos z, List.filter_cons_of_neg (by simp [z]), List.length_cons, List.length_cons]
      omega
    · rw [List.filter_cons_of_neg z, List.filter_cons_of_pos (by simp [z]), List.length_cons, List.length_cons]
      omega
theorem row_range (row : List Rat) : (List.range row.length).map (fun i => row.getD i 0) = row := by
  apply List.ext_getElem?
  intro i
  rw [List.getElem?_map]
  by_cases hi : i < row.length
  · rw [List.getElem?_range hi, List.getElem?_eq_getElem hi]
    simp [List.getD_eq_getElem?_getD, List.getElem?_eq_getElem hi]
  · rw [List.getElem?_eq_none (by simp; omega), List.getElem?_eq_none (by omega)]
    rfl
theorem Mo_sym {w n k : Int} : Mo w n (n - k) = Mo w n k := by
  unfold Mo
  have : w * (n - k) * (n - (n - k)) = w * k * (n - k) := by grind
  rw [this]
/-- each set within both sides, just where the greatest of each number are -/
theorem within_sets {w : Int} {row : List Rat} : WithinR w row ↔ row.sum = 0 ∧ ∀ s ∈ sets row.length, (s.map fun i => row.getD i 0).sum ≤ Mo w row.length s.length ∧ -Mo w row.length s.length ≤ (s.map fun i => row.getD i 0).sum := by
  unfold WithinR
  constructor
  · rintro ⟨h0, h⟩
    refine ⟨h0, fun s hs => ?_⟩
    have nd := sets_nodup hs
    obtain ⟨_, lt⟩ := sets_mem hs
    have len := sets_slen hs
    have h1 := top_set (row := row) nd lt
    have h2 := h s.length len
    refine ⟨by grind, ?_⟩
    have sp := sum_split (g := fun i => row.getD i 0) (p := fun k => decide (k ∈ s)) (List.range row.length)
    rw [row_range, h0] at sp
    have pm : ((List.range row.length).filter fun k => decide (k ∈ s)).Perm s := by
      refine (List.perm_ext_iff_of_nodup ?_ nd).mpr fun a => ?_
      · exact List.Pairwise.sublist List.filter_sublist List.nodup_range
      · rw [List.mem_filter]
        exact ⟨fun h => of_decide_eq_true h.2, fun h => ⟨List.mem_range.mpr (lt a h), decide_eq_true h⟩⟩
    rw [sum_perm (pm.map _)] at sp
    have nd2 : ((List.range row.length).filter fun k => !decide (k ∈ s)).Nodup := List.Pairwise.sublist List.filter_sublist List.nodup_range
    have h3 := top_set (row := row) nd2 fun k hk => List.mem_range.mp (List.mem_filter.mp hk).1
    have l2 : ((List.range row.length).filter fun k => !decide (k ∈ s)).length = row.length - s.length := by
      have a1 := len_split (p := fun k => decide (k ∈ s)) (List.range row.length)
      rw [List.length_range, pm.length_eq] at a1
      omega
    rw [l2] at h3
    have h4 := h (row.length - s.length) (by omega)
    rw [show (((row.length - s.length : Nat) : Int)) = (row.length : Int) - (s.length : Int) by omega, Mo_sym] at h4
    grind
  · rintro ⟨h0, h⟩
    refine ⟨h0, fun k hk => ?_⟩
    obtain ⟨s, h1, h2, h3⟩ := top_there (row := row) hk
    rw [← h3, ← h2]
    exact (h s h1).1
end Lb
namespace K18
open PySem PySem.Spec PyProof.Rows L2 Vm
def top (i : Nat) : Stmt := PySem.Challenge.pw_whoserves_k18_whole_within_both_sides.main.body.getD i (.Pass ⟨0, 0, 0, 0⟩)
abbrev s_common : Stmt := top 2
noncomputable abbrev b_common : S := Lb.b_common
noncomputable abbrev m_common : Fm := Lb.m_common
def n_common : List Str := ["one", "other"]
noncomputable def f_common : List (Str × Fm) := []
def r_common : List Str := []
def g_common : List (Str × D) := []
abbrev s_lowest : Stmt := top 3
noncomputable abbrev b_lowest : S := Lb.b_lowest
noncomputable abbrev m_lowest : Fm := Lb.m_lowest
def n_lowest : List Str := ["above", "below", "share"]
noncomputable def f_lowest : List (Str × Fm) := [("common", m_common)]
def r_lowest : List Str := ["abs"]
def g_lowest : List (Str × D) := []
abbrev s_plus : Stmt := top 4
noncomputable abbrev b_plus : S := Lb.b_plus
noncomputable abbrev m_plus : Fm := Lb.m_plus
def n_plus : List Str := ["one", "other"]
noncomputable def f_plus : List (Str × Fm) := [("lowest", m_lowest)]
def r_plus : List Str := []
def g_plus : List (Str × D) := []
abbrev s_is_less : Stmt := top 5
noncomputable abbrev b_is_less : S := Lb.b_is_less
noncomputable abbrev m_is_less : Fm := Lb.m_is_less
def n_is_less : List Str := ["one", "other"]
noncomputable def f_is_less : List (Str × Fm) := []
def r_is_less : List Str := []
def g_is_less : List (Str × D) := []
abbrev s_greatest_first : Stmt := top 7
noncomputable abbrev b_greatest_first : S := Lb.b_greatest_first
noncomputable abbrev m_greatest_first : Fm := Lb.m_greatest_first
def n_greatest_first : List Str := ["row", "found", "place", "one", "at", "k"]
noncomputable def f_greatest_first : List (Str × Fm) := [("is_less", m_is_less)]
def r_greatest_first : List Str := ["enumerate", "len"]
def g_greatest_first : List (Str × D) := []
abbrev s_sums_ahead : Stmt := top 8
noncomputable abbrev b_sums_ahead : S := Lb.b_sums_ahead
noncomputable abbrev m_sums_ahead : Fm := Lb.m_sums_ahead
def n_sums_ahead : List Str := ["row", "found", "place"]
noncomputable def f_sums_ahead : List (Str × Fm) := [("greatest_first", m_greatest_first), ("plus", m_plus)]
def r_sums_ahead : List Str := []
def g_sums_ahead : List (Str × D) := [("NOUGHT", .tuple [.int 0, .int 1])]
abbrev s_most : Stmt := top 9
noncomputable abbrev b_most : S := Lb.b_most
noncomputable abbrev m_most : Fm := Lb.m_most
def n_most : List Str := ["weight", "seats", "many"]
noncomputable def f_most : List (Str × Fm) := [("lowest", m_lowest)]
def r_most : List Str := []
def g_most : List (Str × D) := []
abbrev s_fall : Stmt := top 10
noncomputable abbrev b_fall : S := Lb.b_fall
noncomputable abbrev m_fall : Fm := Lb.m_fall
def n_fall : List Str := ["weight", "row", "many", "one"]
noncomputable def f_fall : List (Str × Fm) := [("sums_ahead", m_sums_ahead), ("is_less", m_is_less), ("most", m_most)]
def r_fall : List Str := ["enumerate", "len"]
def g_fall : List (Str × D) := []
abbrev s_is_within : Stmt := top 11
noncomputable abbrev b_is_within : S := Lb.b_is_within
noncomputable abbrev m_is_within : Fm := Lb.m_is_within
def n_is_within : List Str := ["weight", "row"]
noncomputable def f_is_within : List (Str × Fm) := [("sums_ahead", m_sums_ahead), ("fall", m_fall)]
def r_is_within : List Str := []
def g_is_within : List (Str × D) := [("NOUGHT", .tuple [.int 0, .int 1])]
abbrev s__law_pot : Stmt := top 13
noncomputable abbrev b__law_pot : S := Lb.b__law_pot
noncomputable abbrev m__law_pot : Fm := Lb.m__law_pot
def n__law_pot : List Str := ["_law_script", "_law_k", "_law_cell"]
noncomputable def f__law_pot : List (Str × Fm) := []
def r__law_pot : List Str := ["len", "abs", "max"]
def g__law_pot : List (Str × D) := []
abbrev s__law_digit : Stmt := top 14
noncomputable abbrev b__law_digit : S := Lb.b__law_digit
noncomputable abbrev m__law_digit : Fm := Lb.m__law_digit
def n__law_digit : List Str := ["_law_pot_here", "_law_many", "_law_digit_here"]
noncomputable def f__law_digit : List (Str × Fm) := []
def r__law_digit : List Str := ["divmod"]
def g__law_digit : List (Str × D) := []
abbrev s__law_low : Stmt := top 15
noncomputable abbrev b__law_low : S := Lb.b__law_low
noncomputable abbrev m__law_low : Fm := Lb.m__law_low
def n__law_low : List Str := ["_law_above", "_law_below", "_law_one_here", "_law_other"]
noncomputable def f__law_low : List (Str × Fm) := []
def r__law_low : List Str := ["abs"]
def g__law_low : List (Str × D) := []
abbrev s__law_plus : Stmt := top 16
noncomputable abbrev b__law_plus : S := Lb.b__law_plus
noncomputable abbrev m__law_plus : Fm := Lb.m__law_plus
def n__law_plus : List Str := ["_law_one_here", "_law_other"]
noncomputable def f__law_plus : List (Str × Fm) := [("_law_low", m__law_low)]
def r__law_plus : List Str := []
def g__law_plus : List (Str × D) := []
abbrev s__law_less : Stmt := top 17
noncomputable abbrev b__law_less : S := Lb.b_is_less
noncomputable abbrev m__law_less : Fm := Lb.m_is_less
def n__law_less : List Str := ["_law_one_here", "_law_other"]
noncomputable def f__law_less : List (Str × Fm) := []
def r__law_less : List Str := []
def g__law_less : List (Str × D) := []
abbrev s__law_sum : Stmt := top 18
noncomputable def fb__law_sum_0 : S := .set 1 (.call Lb.m__law_plus (.cons (.var 1) (.cons (.var 2) (.nil))))
noncomputable def b__law_sum : S := .seq (.set 1 (.tup (.cons (.con (.int 0)) (.cons (.con (.int 1)) (.nil))))) (.seq (.frr (.nm 2) (.of (.var 0)) fb__law_sum_0) (.ret (.var 1)))
noncomputable def m__law_sum : Fm := ⟨[true], runF [true] 3 b__law_sum⟩
theorem io__law_sum : m__law_sum.io = [true] := rfl
def n__law_sum : List Str := ["_law_parts", "_law_found", "_law_one_here"]
noncomputable def f__law_sum : List (Str × Fm) := [("_law_plus", m__law_plus)]
def r__law_sum : List Str := []
def g__law_sum : List (Str × D) := []
abbrev s__law_first : Stmt := top 19
noncomputable def wc__law_first_0 : E := .pr (.cmp .ne) (.cons (.var 1) (.cons (.lst (.nil)) (.nil)))
noncomputable def fb__law_first_1 : S := .iff (.call Lb.m_is_less (.cons (.pr .item (.cons (.var 0) (.cons (.var 3) (.nil)))) (.cons (.pr .item (.cons (.var 0) (.cons (.var 4) (.nil)))) (.nil)))) (.set 3 (.var 4)) (.skip)
noncomputable def cc__law_first_2 : E := .pr (.cmp .ne) (.cons (.var 4) (.cons (.var 3) (.nil)))
noncomputable def ce__law_first_2 : E := .var 4
noncomputable def wb__law_first_0 : S := .seq (.set 3 (.pr .item (.cons (.var 1) (.cons (.con (.int 0)) (.nil))))) (.seq (.frr (.nm 4) (.of (.var 1)) fb__law_first_1) (.seq (.ex (.lm .app 2 (.cons (.var 3) (.nil)))) (.set 1 (.lc [4] (.nm 4) (.of (.var 1)) cc__law_first_2 ce__law_first_2))))
noncomputable def b__law_first : S := .seq (.set 1 (.pr .lrg (.cons (.pr .len (.cons (.var 0) (.nil))) (.nil)))) (.seq (.set 2 (.lst (.nil))) (.seq (.whl wc__law_first_0 wb__law_first_0) (.ret (.var 2))))
noncomputable def m__law_first : Fm := ⟨[true], runF [true] 5 b__law_first⟩
theorem io__law_first : m__law_first.io = [true] := rfl
def n__law_first : List Str := ["_law_row_here", "_law_left", "_law_found", "_law_at", "_law_k"]
noncomputable def f__law_first : List (Str × Fm) := [("_law_less", m__law_less)]
def r__law_first : List Str := ["list", "range", "len"]
def g__law_first : List (Str × D) := []
abbrev s__law_most : Stmt := top 20
noncomputable abbrev b__law_most : S := Lb.b__law_most
noncomputable abbrev m__law_most : Fm := Lb.m__law_most
def n__law_most : List Str := ["_law_weight_here", "_law_many", "_law_k"]
noncomputable def f__law_most : List (Str × Fm) := [("_law_low", m__law_low)]
def r__law_most : List Str := []
def g__law_most : List (Str × D) := []
abbrev s__law_number : Stmt := top 21
noncomputable abbrev b__law_number : S := Lb.b__law_number
noncomputable abbrev m__law_number : Fm := Lb.m__law_number
def n__law_number : List Str := ["_law_pot_here", "_law_far"]
noncomputable def f__law_number : List (Str × Fm) := [("_law_digit", m__law_digit)]
def r__law_number : List Str := []
def g__law_number : List (Str × D) := []
abbrev s__law_row : Stmt := top 22
noncomputable def ce__law_row_0 : E := .call Lb.m__law_low (.cons (.call Lb.m__law_number (.cons (.var 0) (.nil))) (.cons (.pr .item (.cons (.lst (.cons (.con (.int 1)) (.cons (.con (.int 1)) (.cons (.con (.int 2)) (.cons (.con (.int 3)) (.cons (.con (.int 4)) (.cons (.con (.int 12)) (.cons (.con (.int 60)) (.nil))))))))) (.cons (.call Lb.m__law_digit (.cons (.var 0) (.cons (.con (.int 7)) (.nil)))) (.nil)))) (.nil)))
noncomputable def ce__law_row_1 : E := .call Lb.m__law_plus (.cons (.var 5) (.cons (.call Lb.m__law_low (.cons (.pr .sub (.cons (.con (.int 0)) (.cons (.pr .item (.cons (.var 3) (.cons (.con (.int 0)) (.nil)))) (.nil)))) (.cons (.pr .mul (.cons (.pr .item (.cons (.var 3) (.cons (.con (.int 1)) (.nil)))) (.cons (.var 1) (.nil)))) (.nil)))) (.nil)))
noncomputable def b__law_row : S := .seq (.set 2 (.lc [4] (.nm 4) (.rng1 (.var 1)) (.con (.bool true)) ce__law_row_0)) (.seq (.set 3 (.call m__law_sum (.cons (.var 2) (.nil)))) (.ret (.lc [5] (.nm 5) (.of (.var 2)) (.con (.bool true)) ce__law_row_1)))
noncomputable def m__law_row : Fm := ⟨[true, false], runF [true, false] 6 b__law_row⟩
theorem io__law_row : m__law_row.io = [true, false] := rfl
def n__law_row : List Str := ["_law_pot_here", "_law_many", "_law_row_here", "_law_whole", "_law_k", "_law_one_here"]
noncomputable def f__law_row : List (Str × Fm) := [("_law_low", m__law_low), ("_law_digit", m__law_digit), ("_law_number", m__law_number), ("_law_sum", m__law_sum), ("_law_plus", m__law_plus)]
def r__law_row : List Str := ["range"]
def g__law_row : List (Str × D) := []
abbrev s__law_weight : Stmt := top 23
noncomputable def ce__law_weight_1 : E := .pr .item (.cons (.var 0) (.cons (.var 7) (.nil)))
noncomputable def fb__law_weight_0 : S := .seq (.unp [.nm 4, .nm 5] (.callT m__law_sum (.lc [7] (.nm 7) (.of (.pr (.cut false true) (.cons (.var 2) (.cons (.var 3) (.nil))))) (.con (.bool true)) ce__law_weight_1))) (.seq (.set 6 (.pr .mul (.cons (.pr .mul (.cons (.var 5) (.cons (.var 3) (.nil)))) (.cons (.pr .sub (.cons (.pr .len (.cons (.var 0) (.nil))) (.cons (.var 3) (.nil)))) (.nil))))) (.set 1 (.pr .max (.cons (.var 1) (.cons (.pr .fdiv (.cons (.pr .sub (.cons (.pr .add (.cons (.pr .mul (.cons (.con (.int 2)) (.cons (.var 4) (.nil)))) (.cons (.var 6) (.nil)))) (.cons (.con (.int 1)) (.nil)))) (.cons (.var 6) (.nil)))) (.nil))))))
noncomputable def b__law_weight : S := .seq (.set 1 (.con (.int 1))) (.seq (.set 2 (.call m__law_first (.cons (.var 0) (.nil)))) (.seq (.frr (.nm 3) (.rng2 (.con (.int 1)) (.pr .len (.cons (.var 0) (.nil)))) fb__law_weight_0) (.ret (.var 1))))
noncomputable def m__law_weight : Fm := ⟨[true], runF [true] 8 b__law_weight⟩
theorem io__law_weight : m__law_weight.io = [true] := rfl
def n__law_weight : List Str := ["_law_row_here", "_law_weight_here", "_law_order", "_law_k", "_law_above", "_law_below", "_law_by", "_law_at"]
noncomputable def f__law_weight : List (Str × Fm) := [("_law_first", m__law_first), ("_law_sum", m__law_sum)]
def r__law_weight : List Str := ["range", "len", "max"]
def g__law_weight : List (Str × D) := []
abbrev s__law_sets : Stmt := top 24
noncomputable abbrev b__law_sets : S := Lb.b__law_sets
noncomputable abbrev m__law_sets : Fm := Lb.m__law_sets
def n__law_sets : List Str := ["_law_many", "_law_found", "_law_k", "_law_some"]
noncomputable def f__law_sets : List (Str × Fm) := []
def r__law_sets : List Str := ["range"]
def g__law_sets : List (Str × D) := []
abbrev s__law_due : Stmt := top 25
noncomputable def ce__law_due_1 : E := .pr .item (.cons (.var 1) (.cons (.var 5) (.nil)))
noncomputable def fb__law_due_0 : S := .seq (.set 3 (.callT m__law_sum (.lc [5] (.nm 5) (.of (.var 2)) (.con (.bool true)) ce__law_due_1))) (.seq (.set 4 (.call Lb.m__law_most (.cons (.var 0) (.cons (.pr .len (.cons (.var 1) (.nil))) (.cons (.pr .len (.cons (.var 2) (.nil))) (.nil)))))) (.iff (.or (.call Lb.m_is_less (.cons (.var 4) (.cons (.var 3) (.nil)))) (.call Lb.m_is_less (.cons (.var 3) (.cons (.tup (.cons (.pr .sub (.cons (.con (.int 0)) (.cons (.pr .item (.cons (.var 4) (.cons (.con (.int 0)) (.nil)))) (.nil)))) (.cons (.pr .item (.cons (.var 4) (.cons (.con (.int 1)) (.nil)))) (.nil)))) (.nil))))) (.ret (.con (.bool false))) (.skip)))
noncomputable def b__law_due : S := .seq (.iff (.pr (.cmp .ne) (.cons (.call m__law_sum (.cons (.var 1) (.nil))) (.cons (.tup (.cons (.con (.int 0)) (.cons (.con (.int 1)) (.nil)))) (.nil)))) (.ret (.con (.bool false))) (.skip)) (.seq (.frr (.nm 2) (.of (.call Lb.m__law_sets (.cons (.pr .len (.cons (.var 1) (.nil))) (.nil)))) fb__law_due_0) (.ret (.con (.bool true))))
noncomputable def m__law_due : Fm := ⟨[false, true], runF [false, true] 6 b__law_due⟩
theorem io__law_due : m__law_due.io = [false, true] := rfl
def n__law_due : List Str := ["_law_weight_here", "_law_row_here", "_law_some", "_law_told", "_law_bound", "_law_k"]
noncomputable def f__law_due : List (Str × Fm) := [("_law_sum", m__law_sum), ("_law_sets", m__law_sets), ("_law_most", m__law_most), ("_law_less", m__law_less)]
def r__law_due : List Str := ["len"]
def g__law_due : List (Str × D) := []
abbrev s__law_turned : Stmt := top 26
noncomputable def fb__law_turned_0 : S := .ex (.lm .app 3 (.cons (.lm .popAt 2 (.cons (.call Lb.m__law_digit (.cons (.var 0) (.cons (.pr .len (.cons (.var 2) (.nil))) (.nil)))) (.nil))) (.nil)))
noncomputable def b__law_turned : S := .seq (.set 2 (.pr .toList (.cons (.var 1) (.nil)))) (.seq (.set 3 (.lst (.nil))) (.seq (.frr (.nm 4) (.rng1 (.pr .len (.cons (.var 1) (.nil)))) fb__law_turned_0) (.ret (.pr .toTuple (.cons (.var 3) (.nil))))))
noncomputable def m__law_turned : Fm := ⟨[true, true], runF [true, true] 5 b__law_turned⟩
theorem io__law_turned : m__law_turned.io = [true, true] := rfl
def n__law_turned : List Str := ["_law_pot_here", "_law_row_here", "_law_left", "_law_found", "_law_k"]
noncomputable def f__law_turned : List (Str × Fm) := [("_law_digit", m__law_digit)]
def r__law_turned : List Str := ["list", "range", "len", "tuple"]
def g__law_turned : List (Str × D) := []
abbrev s__law_one : Stmt := top 27
noncomputable def fb__law_one_0 : S := .seq (.set 7 (.call Lb.m_is_within (.cons (.var 3) (.cons (.var 6) (.nil))))) (.iff (.or (.not (.pr (.isi .bool) (.cons (.var 7) (.nil)))) (.pr (.cmp .ne) (.cons (.var 7) (.cons (.var 5) (.nil))))) (.ret (.con (.bool false))) (.skip))
noncomputable def b__law_one : S := .seq (.set 1 (.call m__law_row (.cons (.var 0) (.cons (.call Lb.m__law_digit (.cons (.var 0) (.cons (.con (.int 8)) (.nil)))) (.nil))))) (.seq (.set 2 (.ite (.pr (.cmp .ne) (.cons (.var 1) (.cons (.lst (.nil)) (.nil)))) (.call m__law_weight (.cons (.var 1) (.nil))) (.con (.int 1)))) (.seq (.set 3 (.pr .item (.cons (.lst (.cons (.var 2) (.cons (.pr .max (.cons (.con (.int 1)) (.cons (.pr .sub (.cons (.var 2) (.cons (.con (.int 1)) (.nil)))) (.nil)))) (.cons (.pr .add (.cons (.var 2) (.cons (.con (.int 1)) (.nil)))) (.cons (.pr .add (.cons (.con (.int 1)) (.cons (.call Lb.m__law_digit (.cons (.var 0) (.cons (.pr .sub (.cons (.pr .pow (.cons (.con (.int 10)) (.cons (.con (.int 30)) (.nil)))) (.cons (.con (.int 1)) (.nil)))) (.nil)))) (.nil)))) (.nil)))))) (.cons (.call Lb.m__law_digit (.cons (.var 0) (.cons (.con (.int 4)) (.nil)))) (.nil))))) (.seq (.iff (.and (.pr (.cmp .ne) (.cons (.var 1) (.cons (.lst (.nil)) (.nil)))) (.pr (.cmp .eq) (.cons (.call Lb.m__law_digit (.cons (.var 0) (.cons (.con (.int 5)) (.nil)))) (.cons (.con (.int 0)) (.nil))))) (.seq (.set 4 (.pr .item (.cons (.lst (.cons (.tup (.cons (.con (.int 1)) (.cons (.con (.int 1)) (.nil)))) (.cons (.tup (.cons (.pr .neg (.cons (.con (.int 1)) (.nil))) (.cons (.con (.int 1)) (.nil)))) (.cons (.tup (.cons (.con (.int 1)) (.cons (.con (.int 60)) (.nil)))) (.cons (.tup (.cons (.pr .neg (.cons (.con (.int 1)) (.nil))) (.cons (.pr .pow (.cons (.con (.int 10)) (.cons (.con (.int 20)) (.nil)))) (.nil)))) (.nil)))))) (.cons (.call Lb.m__law_digit (.cons (.var 0) (.cons (.con (.int 4)) (.nil)))) (.nil))))) (.put 1 (.con (.int 0)) (.call Lb.m__law_plus (.cons (.pr .item (.cons (.var 1) (.cons (.con (.int 0)) (.nil)))) (.cons (.var 4) (.nil)))))) (.skip)) (.seq (.set 5 (.call m__law_due (.cons (.var 3) (.cons (.var 1) (.nil))))) (.seq (.frr (.nm 6) (.of (.lst (.cons (.pr .toTuple (.cons (.var 1) (.nil))) (.cons (.call m__law_turned (.cons (.var 0) (.cons (.var 1) (.nil)))) (.cons (.pr .toTuple (.cons (.pr .rev (.cons (.var 1) (.nil))) (.nil))) (.nil)))))) fb__law_one_0) (.ret (.con (.bool true))))))))
noncomputable def m__law_one : Fm := ⟨[true], runF [true] 8 b__law_one⟩
theorem io__law_one : m__law_one.io = [true] := rfl
def n__law_one : List Str := ["_law_pot_here", "_law_row_here", "_law_least", "_law_weight_here", "_law_more", "_law_due_here", "_law_some", "_law_told"]
noncomputable def f__law_one : List (Str × Fm) := [("_law_row", m__law_row), ("_law_digit", m__law_digit), ("_law_weight", m__law_weight), ("_law_plus", m__law_plus), ("_law_due", m__law_due), ("_law_turned", m__law_turned), ("is_within", m_is_within)]
def r__law_one : List Str := ["max", "tuple", "isinstance", "bool"]
def g__law_one : List (Str × D) := []
abbrev s_law : Stmt := top 28
noncomputable def ce_law_0 : E := .callT m__law_one (.call Lb.m__law_pot (.cons (.var 0) (.cons (.var 1) (.nil))))
noncomputable def b_law : S := .ret (.pr .all (.cons (.lc [1] (.nm 1) (.rng1 (.pr .max (.cons (.con (.int 1)) (.cons (.pr .min (.cons (.pr .len (.cons (.var 0) (.nil))) (.cons (.con (.int 6)) (.nil)))) (.nil))))) (.con (.bool true)) ce_law_0) (.nil)))
noncomputable def m_law : Fm := ⟨[false], runF [false] 2 b_law⟩
theorem io_law : m_law.io = [false] := rfl
def n_law : List Str := ["_law_script", "_law_k"]
noncomputable def f_law : List (Str × Fm) := [("_law_one", m__law_one), ("_law_pot", m__law_pot)]
def r_law : List Str := ["all", "range", "max", "min", "len"]
def g_law : List (Str × D) := []
/-! ### the texts -/
theorem k_common : FnScope n_common ["one", "other"] (defScope s_common) := C8.fnScope_by (by kernel_rfl)
theorem c_common : cSs (cS 60 ⟨n_common, defScope s_common, fun _ => true, f_common, r_common, g_common⟩) (defBody s_common) = some b_common := by kernel_rfl
theorem k_lowest : FnScope n_lowest ["above", "below"] (defScope s_lowest) := C8.fnScope_by (by kernel_rfl)
theorem c_lowest : cSs (cS 60 ⟨n_lowest, defScope s_lowest, fun _ => true, f_lowest, r_lowest, g_lowest⟩) (defBody s_lowest) = some b_lowest := by kernel_rfl
theorem k_plus : FnScope n_plus ["one", "other"] (defScope s_plus) := C8.fnScope_by (by kernel_rfl)
theorem c_plus : cSs (cS 60 ⟨n_plus, defScope s_plus, fun _ => true, f_plus, r_plus, g_plus⟩) (defBody s_plus) = some b_plus := by kernel_rfl
theorem k_is_less : FnScope n_is_less ["one", "other"] (defScope s_is_less) := C8.fnScope_by (by kernel_rfl)
theorem c_is_less : cSs (cS 60 ⟨n_is_less, defScope s_is_less, fun _ => true, f_is_less, r_is_less, g_is_less⟩) (defBody s_is_less) = some b_is_less := by kernel_rfl
theorem k_greatest_first : FnScope n_greatest_first ["row"] (defScope s_greatest_first) := C8.fnScope_by (by kernel_rfl)
theorem c_greatest_first : cSs (cS 60 ⟨n_greatest_first, defScope s_greatest_first, fun _ => true, f_greatest_first, r_greatest_first, g_greatest_first⟩) (defBody s_greatest_first) = some b_greatest_first := by kernel_rfl
theorem k_sums_ahead : FnScope n_sums_ahead ["row"] (defScope s_sums_ahead) := C8.fnScope_by (by kernel_rfl)
theorem c_sums_ahead : cSs (cS 60 ⟨n_sums_ahead, defScope s_sums_ahead, fun _ => true, f_sums_ahead, r_sums_ahead, g_sums_ahead⟩) (defBody s_sums_ahead) = some b_sums_ahead := by kernel_rfl
theorem k_most : FnScope n_most ["weight", "seats", "many"] (defScope s_most) := C8.fnScope_by (by kernel_rfl)
theorem c_most : cSs (cS 60 ⟨n_most, defScope s_most, fun _ => true, f_most, r_most, g_most⟩) (defBody s_most) = some b_most := by kernel_rfl
theorem k_fall : FnScope n_fall ["weight", "row"] (defScope s_fall) := C8.fnScope_by (by kernel_rfl)
theorem c_fall : cSs (cS 60 ⟨n_fall, defScope s_fall, fun _ => true, f_fall, r_fall, g_fall⟩) (defBody s_fall) = some b_fall := by kernel_rfl
theorem k_is_within : FnScope n_is_within ["weight", "row"] (defScope s_is_within) := C8.fnScope_by (by kernel_rfl)
theorem c_is_within : cSs (cS 60 ⟨n_is_within, defScope s_is_within, fun _ => true, f_is_within, r_is_within, g_is_within⟩) (defBody s_is_within) = some b_is_within := by kernel_rfl
theorem k__law_pot : FnScope n__law_pot ["_law_script", "_law_k"] (defScope s__law_pot) := C8.fnScope_by (by kernel_rfl)
theorem c__law_pot : cSs (cS 60 ⟨n__law_pot, defScope s__law_pot, fun _ => true, f__law_pot, r__law_pot, g__law_pot⟩) (defBody s__law_pot) = some b__law_pot := by kernel_rfl
theorem k__law_digit : FnScope n__law_digit ["_law_pot_here", "_law_many"] (defScope s__law_digit) := C8.fnScope_by (by kernel_rfl)
theorem c__law_digit : cSs (cS 60 ⟨n__law_digit, defScope s__law_digit, fun _ => true, f__law_digit, r__law_digit, g__law_digit⟩) (defBody s__law_digit) = some b__law_digit := by kernel_rfl
theorem k__law_low : FnScope n__law_low ["_law_above", "_law_below"] (defScope s__law_low) := C8.fnScope_by (by kernel_rfl)
theorem c__law_low : cSs (cS 60 ⟨n__law_low, defScope s__law_low, fun _ => true, f__law_low, r__law_low, g__law_low⟩) (defBody s__law_low) = some b__law_low := by kernel_rfl
theorem k__law_plus : FnScope n__law_plus ["_law_one_here", "_law_other"] (defScope s__law_plus) := C8.fnScope_by (by kernel_rfl)
theorem c__law_plus : cSs (cS 60 ⟨n__law_plus, defScope s__law_plus, fun _ => true, f__law_plus, r__law_plus, g__law_plus⟩) (defBody s__law_plus) = some b__law_plus := by kernel_rfl
theorem k__law_less : FnScope n__law_less ["_law_one_here", "_law_other"] (defScope s__law_less) := C8.fnScope_by (by kernel_rfl)
theorem c__law_less : cSs (cS 60 ⟨n__law_less, defScope s__law_less, fun _ => true, f__law_less, r__law_less, g__law_less⟩) (defBody s__law_less) = some b__law_less := by kernel_rfl
theorem k__law_sum : FnScope n__law_sum ["_law_parts"] (defScope s__law_sum) := C8.fnScope_by (by kernel_rfl)
theorem c__law_sum : cSs (cS 60 ⟨n__law_sum, defScope s__law_sum, fun _ => true, f__law_sum, r__law_sum, g__law_sum⟩) (defBody s__law_sum) = some b__law_sum := by kernel_rfl
theorem k__law_first : FnScope n__law_first ["_law_row_here"] (defScope s__law_first) := C8.fnScope_by (by kernel_rfl)
theorem c__law_first : cSs (cS 60 ⟨n__law_first, defScope s__law_first, fun _ => true, f__law_first, r__law_first, g__law_first⟩) (defBody s__law_first) = some b__law_first := by kernel_rfl
theorem k__law_most : FnScope n__law_most ["_law_weight_here", "_law_many", "_law_k"] (defScope s__law_most) := C8.fnScope_by (by kernel_rfl)
theorem c__law_most : cSs (cS 60 ⟨n__law_most, defScope s__law_most, fun _ => true, f__law_most, r__law_most, g__law_most⟩) (defBody s__law_most) = some b__law_most := by kernel_rfl
theorem k__law_number : FnScope n__law_number ["_law_pot_here"] (defScope s__law_number) := C8.fnScope_by (by kernel_rfl)
theorem c__law_number : cSs (cS 60 ⟨n__law_number, defScope s__law_number, fun _ => true, f__law_number, r__law_number, g__law_number⟩) (defBody s__law_number) = some b__law_number := by kernel_rfl
theorem k__law_row : FnScope n__law_row ["_law_pot_here", "_law_many"] (defScope s__law_row) := C8.fnScope_by (by kernel_rfl)
theorem c__law_row : cSs (cS 60 ⟨n__law_row, defScope s__law_row, fun _ => true, f__law_row, r__law_row, g__law_row⟩) (defBody s__law_row) = some b__law_row := by kernel_rfl
theorem k__law_weight : FnScope n__law_weight ["_law_row_here"] (defScope s__law_weight) := C8.fnScope_by (by kernel_rfl)
theorem c__law_weight : cSs (cS 60 ⟨n__law_weight, defScope s__law_weight, fun _ => true, f__law_weight, r__law_weight, g__law_weight⟩) (defBody s__law_weight) = some b__law_weight := by kernel_rfl
theorem k__law_sets : FnScope n__law_sets ["_law_many"] (defScope s__law_sets) := C8.fnScope_by (by kernel_rfl)
theorem c__law_sets : cSs (cS 60 ⟨n__law_sets, defScope s__law_sets, fun _ => true, f__law_sets, r__law_sets, g__law_sets⟩) (defBody s__law_sets) = some b__law_sets := by kernel_rfl
theorem k__law_due : FnScope n__law_due ["_law_weight_here", "_law_row_here"] (defScope s__law_due) := C8.fnScope_by (by kernel_rfl)
theorem c__law_due : cSs (cS 60 ⟨n__law_due, defScope s__law_due, fun _ => true, f__law_due, r__law_due, g__law_due⟩) (defBody s__law_due) = some b__law_due := by kernel_rfl
theorem k__law_turned : FnScope n__law_turned ["_law_pot_here", "_law_row_here"] (defScope s__law_turned) := C8.fnScope_by (by kernel_rfl)
theorem c__law_turned : cSs (cS 60 ⟨n__law_turned, defScope s__law_turned, fun _ => true, f__law_turned, r__law_turned, g__law_turned⟩) (defBody s__law_turned) = some b__law_turned := by kernel_rfl
theorem k__law_one : FnScope n__law_one ["_law_pot_here"] (defScope s__law_one) := C8.fnScope_by (by kernel_rfl)
theorem c__law_one : cSs (cS 60 ⟨n__law_one, defScope s__law_one, fun _ => true, f__law_one, r__law_one, g__law_one⟩) (defBody s__law_one) = some b__law_one := by kernel_rfl
theorem k_law : FnScope n_law ["_law_script"] (defScope s_law) := C8.fnScope_by (by kernel_rfl)
theorem c_law : cSs (cS 60 ⟨n_law, defScope s_law, fun _ => true, f_law, r_law, g_law⟩) (defBody s_law) = some b_law := by kernel_rfl
/-! ### each def keeps its word -/
section
variable {P : Program} {w : World} {K : PySem.W.Frag} {mg : Str → Option Value} {base : Heap} {cl : Str → Option Value} {f : Addr} {fd : FuncData}
abbrev FnP (K : PySem.W.Frag) (x : Str) (st : Stmt) (f : Addr) (fd : FuncData) : Prop := FunD K x x (defArgs st) (defBody st) (defScope st) [] [] f fd
theorem v_common (F : FnP K "common" s_common f fd)    : FnV P w K mg base cl 1 f fd ["one", "other"] m_common := by
  obtain ⟨oc, od, dV, kV, doc, pm, an, cdv, ct, osl, rfl, lk, hcd, _, _⟩ := F.ex
  refine fnV_c lk hcd k_common rfl (fun x m h => ?_) (fun x h => ?_) (fun x d h => ?_) c_common
  · cases h
  · cases h
  · cases h
theorem w_common (F : FnP K "common" s_common f fd) (G : FnV P w K mg base cl 1 f fd ["one", "other"] m_common) (g : mg "common" = some (.ref f)) : FnK P w K mg base cl 1 "common" m_common :=
  ⟨f, fd, _, G, g, F.kp, F.bindsN fun _ _ _ _ _ _ us hl => match us, hl with | [_, _], _ => rfl⟩
theorem v_lowest (F : FnP K "lowest" s_lowest f fd) (h_common : FnK P w K mg base cl 1 "common" m_common) (r_abs : mg "abs" = none)  : FnV P w K mg base cl 2 f fd ["above", "below"] m_lowest := by
  obtain ⟨oc, od, dV, kV, doc, pm, an, cdv, ct, osl, rfl, lk, hcd, _, _⟩ := F.ex
  refine fnV_c lk hcd k_lowest rfl (fun x m h => ?_) (fun x h => ?_) (fun x d h => ?_) c_lowest
  · have h : List.lookup x (f_lowest) = some m := h
    unfold f_lowest at h
    rcases look_cons h with ⟨rfl, rfl⟩ | h
    · exact h_common
    cases h
  · simp only [r_lowest, List.mem_cons, List.not_mem_nil, or_false] at h
    rcases h with rfl
    · exact r_abs
  · cases h
theorem w_lowest (F : FnP K "lowest" s_lowest f fd) (G : FnV P w K mg base cl 2 f fd ["above", "below"] m_lowest) (g : mg "lowest" = some (.ref f)) : FnK P w K mg base cl 2 "lowest" m_lowest :=
  ⟨f, fd, _, G, g, F.kp, F.bindsN fun _ _ _ _ _ _ us hl => match us, hl with | [_, _], _ => rfl⟩
theorem v_plus (F : FnP K "plus" s_plus f fd) (h_lowest : FnK P w K mg base cl 2 "lowest" m_lowest)   : FnV P w K mg base cl 3 f fd ["one", "other"] m_plus := by
  obtain ⟨oc, od, dV, kV, doc, pm, an, cdv, ct, osl, rfl, lk, hcd, _, _⟩ := F.ex
  refine fnV_c lk hcd k_plus rfl (fun x m h => ?_) (fun x h => ?_) (fun x d h => ?_) c_plus
  · have h : List.lookup x (f_plus) = some m := h
    unfold f_plus at h
    rcases look_cons h with ⟨rfl, rfl⟩ | h
    · exact h_lowest
    cases h
  · cases h
  · cases h
theorem w_plus (F : FnP K "plus" s_plus f fd) (G : FnV P w K mg base cl 3 f fd ["one", "other"] m_plus) (g : mg "plus" = some (.ref f)) : FnK P w K mg base cl 3 "plus" m_plus :=
  ⟨f, fd, _, G, g, F.kp, F.bindsN fun _ _ _ _ _ _ us hl => match us, hl with | [_, _], _ => rfl⟩
theorem v_is_less (F : FnP K "is_less" s_is_less f fd)    : FnV P w K mg base cl 1 f fd ["one", "other"] m_is_less := by
  obtain ⟨oc, od, dV, kV, doc, pm, an, cdv, ct, osl, rfl, lk, hcd, _, _⟩ := F.ex
  refine fnV_c lk hcd k_is_less rfl (fun x m h => ?_) (fun x h => ?_) (fun x d h => ?_) c_is_less
  · cases h
  · cases h
  · cases h
theorem w_is_less (F : FnP K "is_less" s_is_less f fd) (G : FnV P w K mg base cl 1 f fd ["one", "other"] m_is_less) (g : mg "is_less" = some (.ref f)) : FnK P w K mg base cl 1 "is_less" m_is_less :=
  ⟨f, fd, _, G, g, F.kp, F.bindsN fun _ _ _ _ _ _ us hl => match us, hl with | [_, _], _ => rfl⟩
theorem v_greatest_first (F : FnP K "greatest_first" s_greatest_first f fd) (h_is_less : FnK P w K mg base cl 1 "is_less" m_is_less) (r_enumerate : mg "enumerate" = none) (r_len : mg "len" = none)  : FnV P w K mg base cl 2 f fd ["row"] m_greatest_first := by
  obtain ⟨oc, od, dV, kV, doc, pm, an, cdv, ct, osl, rfl, lk, hcd, _, _⟩ := F.ex
  refine fnV_c lk hcd k_greatest_first rfl (fun x m h => ?_) (fun x h => ?_) (fun x d h => ?_) c_greatest_first
  · have h : List.lookup x (f_greatest_first) = some m := h
    unfold f_greatest_first at h
    rcases look_cons h with ⟨rfl, rfl⟩ | h
    · exact h_is_less
    cases h
  · simp only [r_greatest_first, List.mem_cons, List.not_mem_nil, or_false] at h
    rcases h with rfl | rfl
    · exact r_enumerate
    · exact r_len
  · cases h
theorem w_greatest_first (F : FnP K "greatest_first" s_greatest_first f fd) (G : FnV P w K mg base cl 2 f fd ["row"] m_greatest_first) (g : mg "greatest_first" = some (.ref f)) : FnK P w K mg base cl 2 "greatest_first" m_greatest_first :=
  ⟨f, fd, _, G, g, F.kp, F.bindsN fun _ _ _ _ _ _ us hl => match us, hl with | [_], _ => rfl⟩
theorem v_sums_ahead (F : FnP K "sums_ahead" s_sums_ahead f fd) (h_greatest_first : FnK P w K mg base cl 3 "greatest_first" m_greatest_first) (h_plus : FnK P w K mg base cl 3 "plus" m_plus)  (q_NOUGHT : GcOk K mg "NOUGHT" (.tuple [.int 0, .int 1])) : FnV P w K mg base cl 4 f fd ["row"] m_sums_ahead := by
  obtain ⟨oc, od, dV, kV, doc, pm, an, cdv, ct, osl, rfl, lk, hcd, _, _⟩ := F.ex
  refine fnV_c lk hcd k_sums_ahead rfl (fun x m h => ?_) (fun x h => ?_) (fun x d h => ?_) c_sums_ahead
  · have h : List.lookup x (f_sums_ahead) = some m := h
    unfold f_sums_ahead at h
    rcases look_cons h with ⟨rfl, rfl⟩ | h
    · exact h_greatest_first
    rcases look_cons h with ⟨rfl, rfl⟩ | h
    · exact h_plus
    cases h
  · cases h
  · have h : List.lookup x (g_sums_ahead) = some d := h
    unfold g_sums_ahead at h
    rcases gc_cons h with ⟨rfl, rfl⟩ | h
    · exact q_NOUGHT
    cases h
theorem w_sums_ahead (F : FnP K "sums_ahead" s_sums_ahead f fd) (G : FnV P w K mg base cl 4 f fd ["row"] m_sums_ahead) (g : mg "sums_ahead" = some (.ref f)) : FnK P w K mg base cl 4 "sums_ahead" m_sums_ahead :=
  ⟨f, fd, _, G, g, F.kp, F.bindsN fun _ _ _ _ _ _ us hl => match us, hl with | [_], _ => rfl⟩
theorem v_most (F : FnP K "most" s_most f fd) (h_lowest : FnK P w K mg base cl 2 "lowest" m_lowest)   : FnV P w K mg base cl 3 f fd ["weight", "seats", "many"] m_most := by
  obtain ⟨oc, od, dV, kV, doc, pm, an, cdv, ct, osl, rfl, lk, hcd, _, _⟩ := F.ex
  refine fnV_c lk hcd k_most rfl (fun x m h => ?_) (fun x h => ?_) (fun x d h => ?_) c_most
  · have h : List.lookup x (f_most) = some m := h
    unfold f_most at h
    rcases look_cons h with ⟨rfl, rfl⟩ | h
    · exact h_lowest
    cases h
  · cases h
  · cases h
theorem w_most (F : FnP K "most" s_most f fd) (G : FnV P w K mg base cl 3 f fd ["weight", "seats", "many"] m_most) (g : mg "most" = some (.ref f)) : FnK P w K mg base cl 3 "most" m_most :=
  ⟨f, fd, _, G, g, F.kp, F.bindsN fun _ _ _ _ _ _ us hl => match us, hl with | [_, _, _], _ => rfl⟩
theorem v_fall (F : FnP K "fall" s_fall f fd) (h_sums_ahead : FnK P w K mg base cl 4 "sums_ahead" m_sums_ahead) (h_is_less : FnK P w K mg base cl 4 "is_less" m_is_less) (h_most : FnK P w K mg base cl 4 "most" m_most) (r_enumerate : mg "enumerate" = none) (r_len : mg "len" = none)  : FnV P w K mg base cl 5 f fd ["weight", "row"] m_fall := by
  obtain ⟨oc, od, dV, kV, doc, pm, an, cdv, ct, osl, rfl, lk, hcd, _, _⟩ := F.ex
  refine fnV_c lk hcd k_fall rfl (fun x m h => ?_) (fun x h => ?_) (fun x d h => ?_) c_fall
  · have h : List.lookup x (f_fall) = some m := h
    unfold f_fall at h
    rcases look_cons h with ⟨rfl, rfl⟩ | h
    · exact h_sums_ahead
    rcases look_cons h with ⟨rfl, rfl⟩ | h
    · exact h_is_less
    rcases look_cons h with ⟨rfl, rfl⟩ | h
    · exact h_most
    cases h
  · simp only [r_fall, List.mem_cons, List.not_mem_nil, or_false] at h
    rcases h with rfl | rfl
    · exact r_enumerate
    · exact r_len
  · cases h
theorem w_fall (F : FnP K "fall" s_fall f fd) (G : FnV P w K mg base cl 5 f fd ["weight", "row"] m_fall) (g : mg "fall" = some (.ref f)) : FnK P w K mg base cl 5 "fall" m_fall :=
  ⟨f, fd, _, G, g, F.kp, F.bindsN fun _ _ _ _ _ _ us hl => match us, hl with | [_, _], _ => rfl⟩
theorem v_is_within (F : FnP K "is_within" s_is_within f fd) (h_sums_ahead : FnK P w K mg base cl 5 "sums_ahead" m_sums_ahead) (h_fall : FnK P w K mg base cl 5 "fall" m_fall)  (q_NOUGHT : GcOk K mg "NOUGHT" (.tuple [.int 0, .int 1])) : FnV P w K mg base cl 6 f fd ["weight", "row"] m_is_within := by
  obtain ⟨oc, od, dV, kV, doc, pm, an, cdv, ct, osl, rfl, lk, hcd, _, _⟩ := F.ex
  refine fnV_c lk hcd k_is_within rfl (fun x m h => ?_) (fun x h => ?_) (fun x d h => ?_) c_is_within
  · have h : List.lookup x (f_is_within) = some m := h
    unfold f_is_within at h
    rcases look_cons h with ⟨rfl, rfl⟩ | h
    · exact h_sums_ahead
    rcases look_cons h with ⟨rfl, rfl⟩ | h
    · exact h_fall
    cases h
  · cases h
  · have h : List.lookup x (g_is_within) = some d := h
    unfold g_is_within at h
    rcases gc_cons h with ⟨rfl, rfl⟩ | h
    · exact q_NOUGHT
    cases h
theorem w_is_within (F : FnP K "is_within" s_is_within f fd) (G : FnV P w K mg base cl 6 f fd ["weight", "row"] m_is_within) (g : mg "is_within" = some (.ref f)) : FnK P w K mg base cl 6 "is_within" m_is_within :=
  ⟨f, fd, _, G, g, F.kp, F.bindsN fun _ _ _ _ _ _ us hl => match us, hl with | [_, _], _ => rfl⟩
theorem v__law_pot (F : FnP K "_law_pot" s__law_pot f fd)  (r_len : mg "len" = none) (r_abs : mg "abs" = none) (r_max : mg "max" = none)  : FnV P w K mg base cl 1 f fd ["_law_script", "_law_k"] m__law_pot := by
  obtain ⟨oc, od, dV, kV, doc, pm, an, cdv, ct, osl, rfl, lk, hcd, _, _⟩ := F.ex
  refine fnV_c lk hcd k__law_pot rfl (fun x m h => ?_) (fun x h => ?_) (fun x d h => ?_) c__law_pot
  · cases h
  · simp only [r__law_pot, List.mem_cons, List.not_mem_nil, or_false] at h
    rcases h with rfl | rfl | rfl
    · exact r_len
    · exact r_abs
    · exact r_max
  · cases h
theorem w__law_pot (F : FnP K "_law_pot" s__law_pot f fd) (G : FnV P w K mg base cl 1 f fd ["_law_script", "_law_k"] m__law_pot) (g : mg "_law_pot" = some (.ref f)) : FnK P w K mg base cl 1 "_law_pot" m__law_pot :=
  ⟨f, fd, _, G, g, F.kp, F.bindsN fun _ _ _ _ _ _ us hl => match us, hl with | [_, _], _ => rfl⟩
theorem v__law_digit (F : FnP K "_law_digit" s__law_digit f fd)  (r_divmod : mg "divmod" = none)  : FnV P w K mg base cl 1 f fd ["_law_pot_here", "_law_many"] m__law_digit := by
  obtain ⟨oc, od, dV, kV, doc, pm, an, cdv, ct, osl, rfl, lk, hcd, _, _⟩ := F.ex
  refine fnV_c lk hcd k__law_digit rfl (fun x m h => ?_) (fun x h => ?_) (fun x d h => ?_) c__law_digit
  · cases h
  · simp only [r__law_digit, List.mem_cons, List.not_mem_nil, or_false] at h
    rcases h with rfl
    · exact r_divmod
  · cases h
theorem w__law_digit (F : FnP K "_law_digit" s__law_digit f fd) (G : FnV P w K mg base cl 1 f fd ["_law_pot_here", "_law_many"] m__law_digit) (g : mg "_law_digit" = some (.ref f)) : FnK P w K mg base cl 1 "_law_digit" m__law_digit :=
  ⟨f, fd, _, G, g, F.kp, F.bindsN fun _ _ _ _ _ _ us hl => match us, hl with | [_, _], _ => rfl⟩
theorem v__law_low (F : FnP K "_law_low" s__law_low f fd)  (r_abs : mg "abs" = none)  : FnV P w K mg base cl 1 f fd ["_law_above", "_law_below"] m__law_low := by
  obtain ⟨oc, od, dV, kV, doc, pm, an, cdv, ct, osl, rfl, lk, hcd, _, _⟩ := F.ex
  refine fnV_c lk hcd k__law_low rfl (fun x m h => ?_) (fun x h => ?_) (fun x d h => ?_) c__law_low
  · cases h
  · simp only [r__law_low, List.mem_cons, List.not_mem_nil, or_false] at h
    rcases h with rfl
    · exact r_abs
  · cases h
theorem w__law_low (F : FnP K "_law_low" s__law_low f fd) (G : FnV P w K mg base cl 1 f fd ["_law_above", "_law_below"] m__law_low) (g : mg "_law_low" = some (.ref f)) : FnK P w K mg base cl 1 "_law_low" m__law_low :=
  ⟨f, fd, _, G, g, F.kp, F.bindsN fun _ _ _ _ _ _ us hl => match us, hl with | [_, _], _ => rfl⟩
theorem v__law_plus (F : FnP K "_law_plus" s__law_plus f fd) (h__law_low : FnK P w K mg base cl 1 "_law_low" m__law_low)   : FnV P w K mg base cl 2 f fd ["_law_one_here", "_law_other"] m__law_plus := by
  obtain ⟨oc, od, dV, kV, doc, pm, an, cdv, ct, osl, rfl, lk, hcd, _, _⟩ := F.ex
  refine fnV_c lk hcd k__law_plus rfl (fun x m h => ?_) (fun x h => ?_) (fun x d h => ?_) c__law_plus
  · have h : List.lookup x (f__law_plus) = some m := h
    unfold f__law_plus at h
    rcases look_cons h with ⟨rfl, rfl⟩ | h
    · exact h__law_low
    cases h
  · cases h
  · cases h
theorem w__law_plus (F : FnP K "_law_plus" s__law_plus f fd) (G : FnV P w K mg base cl 2 f fd ["_law_one_here", "_law_other"] m__law_plus) (g : mg "_law_plus" = some (.ref f)) : FnK P w K mg base cl 2 "_law_plus" m__law_plus :=
  ⟨f, fd, _, G, g, F.kp, F.bindsN fun _ _ _ _ _ _ us hl => match us, hl with | [_, _], _ => rfl⟩
theorem v__law_less (F : FnP K "_law_less" s__law_less f fd)    : FnV P w K mg base cl 1 f fd ["_law_one_here", "_law_other"] m__law_less := by
  obtain ⟨oc, od, dV, kV, doc, pm, an, cdv, ct, osl, rfl, lk, hcd, _, _⟩ := F.ex
  refine fnV_c lk hcd k__law_less rfl (fun x m h => ?_) (fun x h => ?_) (fun x d h => ?_) c__law_less
  · cases h
  · cases h
  · cases h
theorem w__law_less (F : FnP K "_law_less" s__law_less f fd) (G : FnV P w K mg base cl 1 f fd ["_law_one_here", "_law_other"] m__law_less) (g : mg "_law_less" = some (.ref f)) : FnK P w K mg base cl 1 "_law_less" m__law_less :=
  ⟨f, fd, _, G, g, F.kp, F.bindsN fun _ _ _ _ _ _ us hl => match us, hl with | [_, _], _ => rfl⟩
theorem v__law_sum (F : FnP K "_law_sum" s__law_sum f fd) (h__law_plus : FnK P w K mg base cl 2 "_law_plus" m__law_plus)   : FnV P w K mg base cl 3 f fd ["_law_parts"] m__law_sum := by
  obtain ⟨oc, od, dV, kV, doc, pm, an, cdv, ct, osl, rfl, lk, hcd, _, _⟩ := F.ex
  refine fnV_c lk hcd k__law_sum rfl (fun x m h => ?_) (fun x h => ?_) (fun x d h => ?_) c__law_sum
  · have h : List.lookup x (f__law_sum) = some m := h
    unfold f__law_sum at h
    rcases look_cons h with ⟨rfl, rfl⟩ | h
    · exact h__law_plus
    cases h
  · cases h
  · cases h
theorem w__law_sum (F : FnP K "_law_sum" s__law_sum f fd) (G : FnV P w K mg base cl 3 f fd ["_law_parts"] m__law_sum) (g : mg "_law_sum" = some (.ref f)) : FnK P w K mg base cl 3 "_law_sum" m__law_sum :=
  ⟨f, fd, _, G, g, F.kp, F.bindsN fun _ _ _ _ _ _ us hl => match us, hl with | [_], _ => rfl⟩
theorem v__law_first (F : FnP K "_law_first" s__law_first f fd) (h__law_less : FnK P w K mg base cl 1 "_law_less" m__law_less) (r_list : mg "list" = none) (r_range : mg "range" = none) (r_len : mg "len" = none)  : FnV P w K mg base cl 2 f fd ["_law_row_here"] m__law_first := by
  obtain ⟨oc, od, dV, kV, doc, pm, an, cdv, ct, osl, rfl, lk, hcd, _, _⟩ := F.ex
  refine fnV_c lk hcd k__law_first rfl (fun x m h => ?_) (fun x h => ?_) (fun x d h => ?_) c__law_first
  · have h : List.lookup x (f__law_first) = some m := h
    unfold f__law_first at h
    rcases look_cons h with ⟨rfl, rfl⟩ | h
    · exact h__law_less
    cases h
  · simp only [r__law_first, List.mem_cons, List.not_mem_nil, or_false] at h
    rcases h with rfl | rfl | rfl
    · exact r_list
    · exact r_range
    · exact r_len
  · cases h
theorem w__law_first (F : FnP K "_law_first" s__law_first f fd) (G : FnV P w K mg base cl 2 f fd ["_law_row_here"] m__law_first) (g : mg "_law_first" = some (.ref f)) : FnK P w K mg base cl 2 "_law_first" m__law_first :=
  ⟨f, fd, _, G, g, F.kp, F.bindsN fun _ _ _ _ _ _ us hl => match us, hl with | [_], _ => rfl⟩
theorem v__law_most (F : FnP K "_law_most" s__law_most f fd) (h__law_low : FnK P w K mg base cl 1 "_law_low" m__law_low)   : FnV P w K mg base cl 2 f fd ["_law_weight_here", "_law_many", "_law_k"] m__law_most := by
  obtain ⟨oc, od, dV, kV, doc, pm, an, cdv, ct, osl, rfl, lk, hcd, _, _⟩ := F.ex
  refine fnV_c lk hcd k__law_most rfl (fun x m h => ?_) (fun x h => ?_) (fun x d h => ?_) c__law_most
  · have h : List.lookup x (f__law_most) = some m := h
    unfold f__law_most at h
    rcases look_cons h with ⟨rfl, rfl⟩ | h
    · exact h__law_low
    cases h
  · cases h
  · cases h
theorem w__law_most (F : FnP K "_law_most" s__law_most f fd) (G : FnV P w K mg base cl 2 f fd ["_law_weight_here", "_law_many", "_law_k"] m__law_most) (g : mg "_law_most" = some (.ref f)) : FnK P w K mg base cl 2 "_law_most" m__law_most :=
  ⟨f, fd, _, G, g, F.kp, F.bindsN fun _ _ _ _ _ _ us hl => match us, hl with | [_, _, _], _ => rfl⟩
theorem v__law_number (F : FnP K "_law_number" s__law_number f fd) (h__law_digit : FnK P w K mg base cl 1 "_law_digit" m__law_digit)   : FnV P w K mg base cl 2 f fd ["_law_pot_here"] m__law_number := by
  obtain ⟨oc, od, dV, kV, doc, pm, an, cdv, ct, osl, rfl, lk, hcd, _, _⟩ := F.ex
  refine fnV_c lk hcd k__law_number rfl (fun x m h => ?_) (fun x h => ?_) (fun x d h => ?_) c__law_number
  · have h : List.lookup x (f__law_number) = some m := h
    unfold f__law_number at h
    rcases look_cons h with ⟨rfl, rfl⟩ | h
    · exact h__law_digit
    cases h
  · cases h
  · cases h
theorem w__law_number (F : FnP K "_law_number" s__law_number f fd) (G : FnV P w K mg base cl 2 f fd ["_law_pot_here"] m__law_number) (g : mg "_law_number" = some (.ref f)) : FnK P w K mg base cl 2 "_law_number" m__law_number :=
  ⟨f, fd, _, G, g, F.kp, F.bindsN fun _ _ _ _ _ _ us hl => match us, hl with | [_], _ => rfl⟩
theorem v__law_row (F : FnP K "_law_row" s__law_row f fd) (h__law_low : FnK P w K mg base cl 3 "_law_low" m__law_low) (h__law_digit : FnK P w K mg base cl 3 "_law_digit" m__law_digit) (h__law_number : FnK P w K mg base cl 3 "_law_number" m__law_number) (h__law_sum : FnK P w K mg base cl 3 "_law_sum" m__law_sum) (h__law_plus : FnK P w K mg base cl 3 "_law_plus" m__law_plus) (r_range : mg "range" = none)  : FnV P w K mg base cl 4 f fd ["_law_pot_here", "_law_many"] m__law_row := by
  obtain ⟨oc, od, dV, kV, doc, pm, an, cdv, ct, osl, rfl, lk, hcd, _, _⟩ := F.ex
  refine fnV_c lk hcd k__law_row rfl (fun x m h => ?_) (fun x h => ?_) (fun x d h => ?_) c__law_row
  · have h : List.lookup x (f__law_row) = some m := h
    unfold f__law_row at h
    rcases look_cons h with ⟨rfl, rfl⟩ | h
    · exact h__law_low
    rcases look_cons h with ⟨rfl, rfl⟩ | h
    · exact h__law_digit
    rcases look_cons h with ⟨rfl, rfl⟩ | h
    · exact h__law_number
    rcases look_cons h with ⟨rfl, rfl⟩ | h
    · exact h__law_sum
    rcases look_cons h with ⟨rfl, rfl⟩ | h
    · exact h__law_plus
    cases h
  · simp only [r__law_row, List.mem_cons, List.not_mem_nil, or_false] at h
    rcases h with rfl
    · exact r_range
  · cases h
theorem w__law_row (F : FnP K "_law_row" s__law_row f fd) (G : FnV P w K mg base cl 4 f fd ["_law_pot_here", "_law_many"] m__law_row) (g : mg "_law_row" = some (.ref f)) : FnK P w K mg base cl 4 "_law_row" m__law_row :=
  ⟨f, fd, _, G, g, F.kp, F.bindsN fun _ _ _ _ _ _ us hl => match us, hl with | [_, _], _ => rfl⟩
theorem v__law_weight (F : FnP K "_law_weight" s__law_weight f fd) (h__law_first : FnK P w K mg base cl 3 "_law_first" m__law_first) (h__law_sum : FnK P w K mg base cl 3 "_law_sum" m__law_sum) (r_range : mg "range" = none) (r_len : mg "len" = none) (r_max : mg "max" = none)  : FnV P w K mg base cl 4 f fd ["_law_row_here"] m__law_weight := by
  obtain ⟨oc, od, dV, kV, doc, pm, an, cdv, ct, osl, rfl, lk, hcd, _, _⟩ := F.ex
  refine fnV_c lk hcd k__law_weight rfl (fun x m h => ?_) (fun x h => ?_) (fun x d h => ?_) c__law_weight
  · have h : List.lookup x (f__law_weight) = some m := h
    unfold f__law_weight at h
    rcases look_cons h with ⟨rfl, rfl⟩ | h
    · exact h__law_first
    rcases look_cons h with ⟨rfl, rfl⟩ | h
    · exact h__law_sum
    cases h
  · simp only [r__law_weight, List.mem_cons, List.not_mem_nil, or_false] at h
    rcases h with rfl | rfl | rfl
    · exact r_range
    · exact r_len
    · exact r_max
  · cases h
theorem w__law_weight (F : FnP K "_law_weight" s__law_weight f fd) (G : FnV P w K mg base cl 4 f fd ["_law_row_here"] m__law_weight) (g : mg "_law_weight" = some (.ref f)) : FnK P w K mg base cl 4 "_law_weight" m__law_weight :=
  ⟨f, fd, _, G, g, F.kp, F.bindsN fun _ _ _ _ _ _ us hl => match us, hl with | [_], _ => rfl⟩
theorem v__law_sets (F : FnP K "_law_sets" s__law_sets f fd)  (r_range : mg "range" = none)  : FnV P w K mg base cl 1 f fd ["_law_many"] m__law_sets := by
  obtain ⟨oc, od, dV, kV, doc, pm, an, cdv, ct, osl, rfl, lk, hcd, _, _⟩ := F.ex
  refine fnV_c lk hcd k__law_sets rfl (fun x m h => ?_) (fun x h => ?_) (fun x d h => ?_) c__law_sets
  · cases h
  · simp only [r__law_sets, List.mem_cons, List.not_mem_nil, or_false] at h
    rcases h with rfl
    · exact r_range
  · cases h
theorem w__law_sets (F : FnP K "_law_sets" s__law_sets f fd) (G : FnV P w K mg base cl 1 f fd ["_law_many"] m__law_sets) (g : mg "_law_sets" = some (.ref f)) : FnK P w K mg base cl 1 "_law_sets" m__law_sets :=
  ⟨f, fd, _, G, g, F.kp, F.bindsN fun _ _ _ _ _ _ us hl => match us, hl with | [_], _ => rfl⟩
theorem v__law_due (F : FnP K "_law_due" s__law_due f fd) (h__law_sum : FnK P w K mg base cl 3 "_law_sum" m__law_sum) (h__law_sets : FnK P w K mg base cl 3 "_law_sets" m__law_sets) (h__law_most : FnK P w K mg base cl 3 "_law_most" m__law_most) (h__law_less : FnK P w K mg base cl 3 "_law_less" m__law_less) (r_len : mg "len" = none)  : FnV P w K mg base cl 4 f fd ["_law_weight_here", "_law_row_here"] m__law_due := by
  obtain ⟨oc, od, dV, kV, doc, pm, an, cdv, ct, osl, rfl, lk, hcd, _, _⟩ := F.ex
  refine fnV_c lk hcd k__law_due rfl (fun x m h => ?_) (fun x h => ?_) (fun x d h => ?_) c__law_due
  · have h : List.lookup x (f__law_due) = some m := h
    unfold f__law_due at h
    rcases look_cons h with ⟨rfl, rfl⟩ | h
    · exact h__law_sum
    rcases look_cons h with ⟨rfl, rfl⟩ | h
    · exact h__law_sets
    rcases look_cons h with ⟨rfl, rfl⟩ | h
    · exact h__law_most
    rcases look_cons h with ⟨rfl, rfl⟩ | h
    · exact h__law_less
    cases h
  · simp only [r__law_due, List.mem_cons, List.not_mem_nil, or_false] at h
    rcases h with rfl
    · exact r_len
  · cases h
theorem w__law_due (F : FnP K "_law_due" s__law_due f fd) (G : FnV P w K mg base cl 4 f fd ["_law_weight_here", "_law_row_here"] m__law_due) (g : mg "_law_due" = some (.ref f)) : FnK P w K mg base cl 4 "_law_due" m__law_due :=
  ⟨f, fd, _, G, g, F.kp, F.bindsN fun _ _ _ _ _ _ us hl => match us, hl with | [_, _], _ => rfl⟩
theorem v__law_turned (F : FnP K "_law_turned" s__law_turned f fd) (h__law_digit : FnK P w K mg base cl 1 "_law_digit" m__law_digit) (r_list : mg "list" = none) (r_range : mg "range" = none) (r_len : mg "len" = none) (r_tuple : mg "tuple" = none)  : FnV P w K mg base cl 2 f fd ["_law_pot_here", "_law_row_here"] m__law_turned := by
  obtain ⟨oc, od, dV, kV, doc, pm, an, cdv, ct, osl, rfl, lk, hcd, _, _⟩ := F.ex
  refine fnV_c lk hcd k__law_turned rfl (fun x m h => ?_) (fun x h => ?_) (fun x d h => ?_) c__law_turned
  · have h : List.lookup x (f__law_turned) = some m := h
    unfold f__law_turned at h
    rcases look_cons h with ⟨rfl, rfl⟩ | h
    · exact h__law_digit
    cases h
  · simp only [r__law_turned, List.mem_cons, List.not_mem_nil, or_false] at h
    rcases h with rfl | rfl | rfl | rfl
    · exact r_list
    · exact r_range
    · exact r_len
    · exact r_tuple
  · cases h
theorem w__law_turned (F : FnP K "_law_turned" s__law_turned f fd) (G : FnV P w K mg base cl 2 f fd ["_law_pot_here", "_law_row_here"] m__law_turned) (g : mg "_law_turned" = some (.ref f)) : FnK P w K mg base cl 2 "_law_turned" m__law_turned :=
  ⟨f, fd, _, G, g, F.kp, F.bindsN fun _ _ _ _ _ _ us hl => match us, hl with | [_, _], _ => rfl⟩
theorem v__law_one (F : FnP K "_law_one" s__law_one f fd) (h__law_row : FnK P w K mg base cl 6 "_law_row" m__law_row) (h__law_digit : FnK P w K mg base cl 6 "_law_digit" m__law_digit) (h__law_weight : FnK P w K mg base cl 6 "_law_weight" m__law_weight) (h__law_plus : FnK P w K mg base cl 6 "_law_plus" m__law_plus) (h__law_due : FnK P w K mg base cl 6 "_law_due" m__law_due) (h__law_turned : FnK P w K mg base cl 6 "_law_turned" m__law_turned) (h_is_within : FnK P w K mg base cl 6 "is_within" m_is_within) (r_max : mg "max" = none) (r_tuple : mg "tuple" = none) (r_isinstance : mg "isinstance" = none) (r_bool : mg "bool" = none)  : FnV P w K mg base cl 7 f fd ["_law_pot_here"] m__law_one := by
  obtain ⟨oc, od, dV, kV, doc, pm, an, cdv, ct, osl, rfl, lk, hcd, _, _⟩ := F.ex
  refine fnV_c lk hcd k__law_one rfl (fun x m h => ?_) (fun x h => ?_) (fun x d h => ?_) c__law_one
  · have h : List.lookup x (f__law_one) = some m := h
    unfold f__law_one at h
    rcases look_cons h with ⟨rfl, rfl⟩ | h
    · exact h__law_row
    rcases look_cons h with ⟨rfl, rfl⟩ | h
    · exact h__law_digit
    rcases look_cons h with ⟨rfl, rfl⟩ | h
    · exact h__law_weight
    rcases look_cons h with ⟨rfl, rfl⟩ | h
    · exact h__law_plus
    rcases look_cons h with ⟨rfl, rfl⟩ | h
    · exact h__law_due
    rcases look_cons h with ⟨rfl, rfl⟩ | h
    · exact h__law_turned
    rcases look_cons h with ⟨rfl, rfl⟩ | h
    · exact h_is_within
    cases h
  · simp only [r__law_one, List.mem_cons, List.not_mem_nil, or_false] at h
    rcases h with rfl | rfl | rfl | rfl
    · exact r_max
    · exact r_tuple
    · exact r_isinstance
    · exact r_bool
  · cases h
theorem w__law_one (F : FnP K "_law_one" s__law_one f fd) (G : FnV P w K mg base cl 7 f fd ["_law_pot_here"] m__law_one) (g : mg "_law_one" = some (.ref f)) : FnK P w K mg base cl 7 "_law_one" m__law_one :=
  ⟨f, fd, _, G, g, F.kp, F.bindsN fun _ _ _ _ _ _ us hl => match us, hl with | [_], _ => rfl⟩
theorem v_law (F : FnP K "law" s_law f fd) (h__law_one : FnK P w K mg base cl 7 "_law_one" m__law_one) (h__law_pot : FnK P w K mg base cl 7 "_law_pot" m__law_pot) (r_all : mg "all" = none) (r_range : mg "range" = none) (r_max : mg "max" = none) (r_min : mg "min" = none) (r_len : mg "len" = none)  : FnV P w K mg base cl 8 f fd ["_law_script"] m_law := by
  obtain ⟨oc, od, dV, kV, doc, pm, an, cdv, ct, osl, rfl, lk, hcd, _, _⟩ := F.ex
  refine fnV_c lk hcd k_law rfl (fun x m h => ?_) (fun x h => ?_) (fun x d h => ?_) c_law
  · have h : List.lookup x (f_law) = some m := h
    unfold f_law at h
    rcases look_cons h with ⟨rfl, rfl⟩ | h
    · exact h__law_one
    rcases look_cons h with ⟨rfl, rfl⟩ | h
    · exact h__law_pot
    cases h
  · simp only [r_law, List.mem_cons, List.not_mem_nil, or_false] at h
    rcases h with rfl | rfl | rfl | rfl | rfl
    · exact r_all
    · exact r_range
    · exact r_max
    · exact r_min
    · exact r_len
  · cases h
end
/-! ### the head -/
def d_common : He.DefD := ⟨("common", none), "common", "common", defArgs s_common, defBody s_common, defScope s_common, [], []⟩
def d_lowest : He.DefD := ⟨("lowest", none), "lowest", "lowest", defArgs s_lowest, defBody s_lowest, defScope s_lowest, [], []⟩
def d_plus : He.DefD := ⟨("plus", none), "plus", "plus", defArgs s_plus, defBody s_plus, defScope s_plus, [], []⟩
def d_is_less : He.DefD := ⟨("is_less", none), "is_less", "is_less", defArgs s_is_less, defBody s_is_less, defScope s_is_less, [], []⟩
def d_greatest_first : He.DefD := ⟨("greatest_first", none), "greatest_first", "greatest_first", defArgs s_greatest_first, defBody s_greatest_first, defScope s_greatest_first, [], []⟩
def d_sums_ahead : He.DefD := ⟨("sums_ahead", none), "sums_ahead", "sums_ahead", defArgs s_sums_ahead, defBody s_sums_ahead, defScope s_sums_ahead, [], []⟩
def d_most : He.DefD := ⟨("most", none), "most", "most", defArgs s_most, defBody s_most, defScope s_most, [], []⟩
def d_fall : He.DefD := ⟨("fall", none), "fall", "fall", defArgs s_fall, defBody s_fall, defScope s_fall, [], []⟩
def d_is_within : He.DefD := ⟨("is_within", none), "is_within", "is_within", defArgs s_is_within, defBody s_is_within, defScope s_is_within, [], []⟩
def d__law_pot : He.DefD := ⟨("_law_pot", none), "_law_pot", "_law_pot", defArgs s__law_pot, defBody s__law_pot, defScope s__law_pot, [], []⟩
def d__law_digit : He.DefD := ⟨("_law_digit", none), "_law_digit", "_law_digit", defArgs s__law_digit, defBody s__law_digit, defScope s__law_digit, [], []⟩
def d__law_low : He.DefD := ⟨("_law_low", none), "_law_low", "_law_low", defArgs s__law_low, defBody s__law_low, defScope s__law_low, [], []⟩
def d__law_plus : He.DefD := ⟨("_law_plus", none), "_law_plus", "_law_plus", defArgs s__law_plus, defBody s__law_plus, defScope s__law_plus, [], []⟩
def d__law_less : He.DefD := ⟨("_law_less", none), "_law_less", "_law_less", defArgs s__law_less, defBody s__law_less, defScope s__law_less, [], []⟩
def d__law_sum : He.DefD := ⟨("_law_sum", none), "_law_sum", "_law_sum", defArgs s__law_sum, defBody s__law_sum, defScope s__law_sum, [], []⟩
def d__law_first : He.DefD := ⟨("_law_first", none), "_law_first", "_law_first", defArgs s__law_first, defBody s__law_first, defScope s__law_first, [], []⟩
def d__law_most : He.DefD := ⟨("_law_most", none), "_law_most", "_law_most", defArgs s__law_most, defBody s__law_most, defScope s__law_most, [], []⟩
def d__law_number : He.DefD := ⟨("_law_number", none), "_law_number", "_law_number", defArgs s__law_number, defBody s__law_number, defScope s__law_number, [], []⟩
def d__law_row : He.DefD := ⟨("_law_row", none), "_law_row", "_law_row", defArgs s__law_row, defBody s__law_row, defScope s__law_row, [], []⟩
def d__law_weight : He.DefD := ⟨("_law_weight", none), "_law_weight", "_law_weight", defArgs s__law_weight, defBody s__law_weight, defScope s__law_weight, [], []⟩
def d__law_sets : He.DefD := ⟨("_law_sets", none), "_law_sets", "_law_sets", defArgs s__law_sets, defBody s__law_sets, defScope s__law_sets, [], []⟩
def d__law_due : He.DefD := ⟨("_law_due", none), "_law_due", "_law_due", defArgs s__law_due, defBody s__law_due, defScope s__law_due, [], []⟩
def d__law_turned : He.DefD := ⟨("_law_turned", none), "_law_turned", "_law_turned", defArgs s__law_turned, defBody s__law_turned, defScope s__law_turned, [], []⟩
def d__law_one : He.DefD := ⟨("_law_one", none), "_law_one", "_law_one", defArgs s__law_one, defBody s__law_one, defScope s__law_one, [], []⟩
def d_law : He.DefD := ⟨("law", none), "law", "law", defArgs s_law, defBody s_law, defScope s_law, [], []⟩
def fn : List He.DefD := [d_common, d_lowest, d_plus, d_is_less, d_greatest_first, d_sums_ahead, d_most, d_fall, d_is_within, d__law_pot, d__law_digit, d__law_low, d__law_plus, d__law_less, d__law_sum, d__law_first, d__law_most, d__law_number, d__law_row, d__law_weight, d__law_sets, d__law_due, d__law_turned, d__law_one, d_law]
def gs : List (Str × D) := [("NOUGHT", .tuple [.int 0, .int 1])]
def fa : List He.Fa := [.glo "common", .glo "lowest", .glo "plus", .glo "is_less", .glo "greatest_first", .glo "sums_ahead", .glo "most", .glo "fall", .glo "is_within", .glo "_law_pot", .glo "_law_digit", .glo "_law_low", .glo "_law_plus", .glo "_law_less", .glo "_law_sum", .glo "_law_first", .glo "_law_most", .glo "_law_number", .glo "_law_row", .glo "_law_weight", .glo "_law_sets", .glo "_law_due", .glo "_law_turned", .glo "_law_one", .glo "law", .free "abs", .free "enumerate", .free "len", .free "max", .free "divmod", .free "list", .free "range", .free "tuple", .free "isinstance", .free "bool", .free "all", .free "min"]
abbrev R : PySem.W.OpenRow := PySem.W.OpenLaw.row PySem.Challenge.rw_whoserves_k18_whole_within_both_sides
abbrev hk : PySem.W.Hook := hookC 4 fa fn gs
def ob (s : PySem.W.SharedT) : AlC := obsCG 4 fa fn gs (HandSHeadRun.getT s)
theorem ob_eq (s : PySem.W.SharedT) : ob s = hk.obs s.abs := obsCG_eq (HandSHeadRun.getT_eq s)
abbrev lo : List Str := ["__name__", "NOUGHT", "common", "lowest", "plus", "is_less", "greatest_first", "sums_ahead", "most", "fall", "is_within", "_law_pot", "_law_digit", "_law_low", "_law_plus", "_law_less", "_law_sum", "_law_first", "_law_most", "_law_number", "_law_row", "_law_weight", "_law_sets", "_law_due", "_law_turned", "_law_one"]
theorem run (w : World) : HandSHeadRun.RunEq R (PySem.W.view R.prog [28]) hk ob 4000 lo w := by
  intro os
  kernel_rfl
theorem facts {P : Program} {w : World} {K : PySem.W.Frag} {h : Heap} {mg : Str → Option Value} {f : Addr} (X : K.In h) (G : h.Ns mainGlobals mg) (hfa : mg ("law" : Str) = some (.ref f)) (cc : SaysC fa fn gs K) :
    ∃ fd : FuncData, (∀ (s : Shared) (v : Value), BindsTo s fd ⟨[v], []⟩ [("_law_script", v)]) ∧ ∀ base : Heap, FnV P w K mg base (fun _ => none) 8 f fd ["_law_script"] m_law := by
  have c := cc.d
  have gc := gc_all X G cc
  obtain ⟨fd_common, F_common⟩ := c.def_ 0 (d := d_common) rfl
  obtain ⟨fd_lowest, F_lowest⟩ := c.def_ 1 (d := d_lowest) rfl
  obtain ⟨fd_plus, F_plus⟩ := c.def_ 2 (d := d_plus) rfl
  obtain ⟨fd_is_less, F_is_less⟩ := c.def_ 3 (d := d_is_less) rfl
  obtain ⟨fd_greatest_first, F_greatest_first⟩ := c.def_ 4 (d := d_greatest_first) rfl
  obtain ⟨fd_sums_ahead, F_sums_ahead⟩ := c.def_ 5 (d := d_sums_ahead) rfl
  obtain ⟨fd_most, F_most⟩ := c.def_ 6 (d := d_most) rfl
  obtain ⟨fd_fall, F_fall⟩ := c.def_ 7 (d := d_fall) rfl
  obtain ⟨fd_is_within, F_is_within⟩ := c.def_ 8 (d := d_is_within) rfl
  obtain ⟨fd__law_pot, F__law_pot⟩ := c.def_ 9 (d := d__law_pot) rfl
  obtain ⟨fd__law_digit, F__law_digit⟩ := c.def_ 10 (d := d__law_digit) rfl
  obtain ⟨fd__law_low, F__law_low⟩ := c.def_ 11 (d := d__law_low) rfl
  obtain ⟨fd__law_plus, F__law_plus⟩ := c.def_ 12 (d := d__law_plus) rfl
  obtain ⟨fd__law_less, F__law_less⟩ := c.def_ 13 (d := d__law_less) rfl
  obtain ⟨fd__law_sum, F__law_sum⟩ := c.def_ 14 (d := d__law_sum) rfl
  obtain ⟨fd__law_first, F__law_first⟩ := c.def_ 15 (d := d__law_first) rfl
  obtain ⟨fd__law_most, F__law_most⟩ := c.def_ 16 (d := d__law_most) rfl
  obtain ⟨fd__law_number, F__law_number⟩ := c.def_ 17 (d := d__law_number) rfl
  obtain ⟨fd__law_row, F__law_row⟩ := c.def_ 18 (d := d__law_row) rfl
  obtain ⟨fd__law_weight, F__law_weight⟩ := c.def_ 19 (d := d__law_weight) rfl
  obtain ⟨fd__law_sets, F__law_sets⟩ := c.def_ 20 (d := d__law_sets) rfl
  obtain ⟨fd__law_due, F__law_due⟩ := c.def_ 21 (d := d__law_due) rfl
  obtain ⟨fd__law_turned, F__law_turned⟩ := c.def_ 22 (d := d__law_turned) rfl
  obtain ⟨fd__law_one, F__law_one⟩ := c.def_ 23 (d := d__law_one) rfl
  obtain ⟨fd, F⟩ := c.def_ 24 (d := d_law) rfl
  have e := hfa.symm.trans (He.glo_ok X G (c.fact 24 (f := .glo "law") rfl))
  cases e
  have b := FunD.bindsA (ps := ["_law_script"]) F fun _ _ _ _ _ _ us hl => match us, hl with | [_], _ => rfl
  have r_abs : mg "abs" = none := He.free_ok X G (c.fact 25 (f := .free "abs") rfl)
  have r_enumerate : mg "enumerate" = none := He.free_ok X G (c.fact 26 (f := .free "enumerate") rfl)
  have r_len : mg "len" = none := He.free_ok X G (c.fact 27 (f := .free "len") rfl)
  have r_max : mg "max" = none := He.free_ok X G (c.fact 28 (f := .free "max") rfl)
  have r_divmod : mg "divmod" = none := He.free_ok X G (c.fact 29 (f := .free "divmod") rfl)
  have r_list : mg "list" = none := He.free_ok X G (c.fact 30 (f := .free "list") rfl)
  have r_range : mg "range" = none := He.free_ok X G (c.fact 31 (f := .free "range") rfl)
  have r_tuple : mg "tuple" = none := He.free_ok X G (c.fact 32 (f := .free "tuple") rfl)
  have r_isinstance : mg "isinstance" = none := He.free_ok X G (c.fact 33 (f := .free "isinstance") rfl)
  have r_bool : mg "bool" = none := He.free_ok X G (c.fact 34 (f := .free "bool") rfl)
  have r_all : mg "all" = none := He.free_ok X G (c.fact 35 (f := .free "all") rfl)
  have r_min : mg "min" = none := He.free_ok X G (c.fact 36 (f := .free "min") rfl)
  refine ⟨fd, fun s v => b s [v] rfl, fun base => ?_⟩
  have h_common : FnK P w K mg base (fun _ => none) 1 "common" m_common := w_common F_common (v_common F_common   ) (He.glo_ok X G (c.fact 0 (f := .glo "common") rfl))
  have h_lowest : FnK P w K mg base (fun _ => none) 2 "lowest" m_lowest := w_lowest F_lowest (v_lowest F_lowest (h_common.mono (by decide)) r_abs ) (He.glo_ok X G (c.fact 1 (f := .glo "lowest") rfl))
  have h_plus : FnK P w K mg base (fun _ => none) 3 "plus" m_plus := w_plus F_plus (v_plus F_plus (h_lowest.mono (by decide))  ) (He.glo_ok X G (c.fact 2 (f := .glo "plus") rfl))
  have h_is_less : FnK P w K mg base (fun _ => none) 1 "is_less" m_is_less := w_is_less F_is_less (v_is_less F_is_less   ) (He.glo_ok X G (c.fact 3 (f := .glo "is_less") rfl))
  have h_greatest_first : FnK P w K mg base (fun _ => none) 2 "greatest_first" m_greatest_first := w_greatest_first F_greatest_first (v_greatest_first F_greatest_first (h_is_less.mono (by decide)) r_enumerate r_len ) (He.glo_ok X G (c.fact 4 (f := .glo "greatest_first") rfl))
  have h_sums_ahead : FnK P w K mg base (fun _ => none) 4 "sums_ahead" m_sums_ahead := w_sums_ahead F_sums_ahead (v_sums_ahead F_sums_ahead (h_greatest_first.mono (by decide)) (h_plus.mono (by decide))  (gc _ _ (by rfl))) (He.glo_ok X G (c.fact 5 (f := .glo "sums_ahead") rfl))
  have h_most : FnK P w K mg base (fun _ => none) 3 "most" m_most := w_most F_most (v_most F_most (h_lowest.mono (by decide))  ) (He.glo_ok X G (c.fact 6 (f := .glo "most") rfl))
  have h_fall : FnK P w K mg base (fun _ => none) 5 "fall" m_fall := w_fall F_fall (v_fall F_fall (h_sums_ahead.mono (by decide)) (h_is_less.mono (by decide)) (h_most.mono (by decide)) r_enumerate r_len ) (He.glo_ok X G (c.fact 7 (f := .glo "fall") rfl))
  have h_is_within : FnK P w K mg base (fun _ => none) 6 "is_within" m_is_within := w_is_within F_is_within (v_is_within F_is_within (h_sums_ahead.mono (by decide)) (h_fall.mono (by decide))  (gc _ _ (by rfl))) (He.glo_ok X G (c.fact 8 (f := .glo "is_within") rfl))
  have h__law_pot : FnK P w K mg base (fun _ => none) 1 "_law_pot" m__law_pot := w__law_pot F__law_pot (v__law_pot F__law_pot  r_len r_abs r_max ) (He.glo_ok X G (c.fact 9 (f := .glo "_law_pot") rfl))
  have h__law_digit : FnK P w K mg base (fun _ => none) 1 "_law_digit" m__law_digit := w__law_digit F__law_digit (v__law_digit F__law_digit  r_divmod ) (He.glo_ok X G (c.fact 10 (f := .glo "_law_digit") rfl))
  have h__law_low : FnK P w K mg base (fun _ => none) 1 "_law_low" m__law_low := w__law_low F__law_low (v__law_low F__law_low  r_abs ) (He.glo_ok X G (c.fact 11 (f := .glo "_law_low") rfl))
  have h__law_plus : FnK P w K mg base (fun _ => none) 2 "_law_plus" m__law_plus := w__law_plus F__law_plus (v__law_plus F__law_plus (h__law_low.mono (by decide))  ) (He.glo_ok X G (c.fact 12 (f := .glo "_law_plus") rfl))
  have h__law_less : FnK P w K mg base (fun _ => none) 1 "_law_less" m__law_less := w__law_less F__law_less (v__law_less F__law_less   ) (He.glo_ok X G (c.fact 13 (f := .glo "_law_less") rfl))
  have h__law_sum : FnK P w K mg base (fun _ => none) 3 "_law_sum" m__law_sum := w__law_sum F__law_sum (v__law_sum F__law_sum (h__law_plus.mono (by decide))  ) (He.glo_ok X G (c.fact 14 (f := .glo "_law_sum") rfl))
  have h__law_first : FnK P w K mg base (fun _ => none) 2 "_law_first" m__law_first := w__law_first F__law_first (v__law_first F__law_first (h__law_less.mono (by decide)) r_list r_range r_len ) (He.glo_ok X G (c.fact 15 (f := .glo "_law_first") rfl))
  have h__law_most : FnK P w K mg base (fun _ => none) 2 "_law_most" m__law_most := w__law_most F__law_most (v__law_most F__law_most (h__law_low.mono (by decide))  ) (He.glo_ok X G (c.fact 16 (f := .glo "_law_most") rfl))
  have h__law_number : FnK P w K mg base (fun _ => none) 2 "_law_number" m__law_number := w__law_number F__law_number (v__law_number F__law_number (h__law_digit.mono (by decide))  ) (He.glo_ok X G (c.fact 17 (f := .glo "_law_number") rfl))
  have h__law_row : FnK P w K mg base (fun _ => none) 4 "_law_row" m__law_row := w__law_row F__law_row (v__law_row F__law_row (h__law_low.mono (by decide)) (h__law_digit.mono (by decide)) (h__law_number.mono (by decide)) (h__law_sum.mono (by decide)) (h__law_plus.mono (by decide)) r_range ) (He.glo_ok X G (c.fact 18 (f := .glo "_law_row") rfl))
  have h__law_weight : FnK P w K mg base (fun _ => none) 4 "_law_weight" m__law_weight := w__law_weight F__law_weight (v__law_weight F__law_weight (h__law_first.mono (by decide)) (h__law_sum.mono (by decide)) r_range r_len r_max ) (He.glo_ok X G (c.fact 19 (f := .glo "_law_weight") rfl))
  have h__law_sets : FnK P w K mg base (fun _ => none) 1 "_law_sets" m__law_sets := w__law_sets F__law_sets (v__law_sets F__law_sets  r_range ) (He.glo_ok X G (c.fact 20 (f := .glo "_law_sets") rfl))
  have h__law_due : FnK P w K mg base (fun _ => none) 4 "_law_due" m__law_due := w__law_due F__law_due (v__law_due F__law_due (h__law_sum.mono (by decide)) (h__law_sets.mono (by decide)) (h__law_most.mono (by decide)) (h__law_less.mono (by decide)) r_len ) (He.glo_ok X G (c.fact 21 (f := .glo "_law_due") rfl))
  have h__law_turned : FnK P w K mg base (fun _ => none) 2 "_law_turned" m__law_turned := w__law_turned F__law_turned (v__law_turned F__law_turned (h__law_digit.mono (by decide)) r_list r_range r_len r_tuple ) (He.glo_ok X G (c.fact 22 (f := .glo "_law_turned") rfl))
  have h__law_one : FnK P w K mg base (fun _ => none) 7 "_law_one" m__law_one := w__law_one F__law_one (v__law_one F__law_one (h__law_row.mono (by decide)) (h__law_digit.mono (by decide)) (h__law_weight.mono (by decide)) (h__law_plus.mono (by decide)) (h__law_due.mono (by decide)) (h__law_turned.mono (by decide)) (h_is_within.mono (by decide)) r_max r_tuple r_isinstance r_bool ) (He.glo_ok X G (c.fact 23 (f := .glo "_law_one") rfl))
  exact v_law F (h__law_one.mono (by decide)) (h__law_pot.mono (by decide)) r_all r_range r_max r_min r_len 
end K18

namespace K18
open PySem PySem.Spec PyProof.Rows L2 Vm Lb
theorem S_sum {row : List Rat} {k : Nat} (hk : ∀ q ∈ row, bq q ≤ k) (hz : (k + 1) * (row.length + 1) ≤ 7000) : m__law_sum.run [.list (row.map frQ)] = .ok (frQ row.sum) false [.list (row.map frQ)] := by
  obtain ⟨o', h1, h2⟩ := frL_fold (t := .nm 2) (b := evS fb__law_sum_0) (rep := frQ) (fun (s : Rat) (o : Option D) => [.lk true (.list (row.map frQ)), .im (frQ s), sl o]) (· + ·) (fun r s => ∃ pre, pre ++ r = row ∧ s = pre.sum) (xs := row) (s := 0) (o := none)
    (fun x r s o ⟨pre, h1, h2⟩ => by
      subst h2
      have hp : ∀ q ∈ pre, bq q ≤ k := fun q hq => hk q (by rw [← h1]; exact List.mem_append_left _ hq)
      have hx : bq x ≤ k := hk x (by rw [← h1]; exact List.mem_append_right _ List.mem_cons_self)
      have b1 := bq_sum hp
      have hl : pre.length + 1 ≤ row.length := by rw [← h1]; simp
      have hm : (k + 1) * pre.length + (k + 1) + (k + 1) ≤ (k + 1) * (row.length + 1) := by
        have : (k + 1) * (pre.length + 2) ≤ (k + 1) * (row.length + 1) := Nat.mul_le_mul_left _ (by omega)
        have e : (k + 1) * (pre.length + 2) = (k + 1) * pre.length + (k + 1) + (k + 1) := by rw [Nat.mul_add]; omega
        omega
      have hq := Q_plus (p := pre.sum) (q := x) (by omega)
      refine ⟨[.lk true (.list (row.map frQ)), .im (frQ pre.sum), .im (frQ x)], some (frQ x), ?_, .inl ?_, pre ++ [x], by simpa using h1, ?_⟩
      · simp only [x_runF, q_nx, q_rt, rep0, rep1, x_var, qV_im, qV_ow, x_rdS, sD_im, sD_ow, sD_io, sD_lk, x_canLk, sC_ow, sC_io, sC_im, sC_lk, sC_un, x_stSf, x_stSt, sS_un, sS_im, sS_ow, x_chS, sG_ow, sG_io, mOw_some, mIo_some, x_con, x_tup, x_lst, z_tup, z_lst, x_pr, z_pr, x_not, z_not, x_and, x_or, z_and, z_or, x_ite, z_ite, x_call, z_call, q_ok, lift2_some, x_callT, z_callT, q_okT, x_Anil, x_Bnil, x_Cnil, x_Acons, z_A, z_B, z_C, z_cons, x_Bvar, tB_some, z_var, x_Bpr, x_Bcon, x_Btup, x_Blst, x_Bcall, x_BcallT, x_Bnot, x_Bite, x_Blc, x_Cval, x_Cvar, tC_true, z_varC, t_not, t_and, t_or, t_cmp, t_var, t_call, t_isi, t_len, t_con, t_item, t_all, t_any, y_t, y_n, y_a, y_o, y_c, s_skip, s_seq, w_nx, s_set, w_set, s_put, w_put, w_put2, s_unp, w_unp, w_unpQ, w_ts0, w_tsn, w_tsi, w_ti, w_ts, s_par, w_par, w_par2, w_par3, w_par4, s_ex, w_ex, s_iff, w_if, s_whl, s_retv, q_rim, q_row, s_retpr, s_rettup, s_retlst, s_retcon, s_retcall, s_retnot, s_retand, s_retor, s_retite, s_retlc, w_ret, startE, bind_rt, bind_sexn, bind_bk, bind_ct, lift_some, go1_some, ob_some, om_some, Vm.cmpD, ordD, putI, outsE, contS, add_ii, subD, negD, absD, maxD, minD, lensD, len_l, len_t, truD, boolOf, intOf, ioIx, wb, isiD, isTy, toIntD, toListD, toTupleD, itemsOf, List.length_cons, List.length_nil, Int.reduceToNat, it0, it1, it2, it3, it4, it5, it6, ta0, ta1, ta2, eqL2, noneL1, isBL1, inL_l, inL_t, isNo_n, isNo_i, isNo_t, isNo_q, eqI, eqQ, eqSS, eq_self, decide_eq_true_eq, cut_a, cut_b, slc_l, slc_t, List.nil_append, List.cons_append, List.append_nil, List.getElem?_cons_zero, List.getElem?_cons_succ, List.set_cons_zero, List.set_cons_succ, List.set_nil, Option.isSome_some, if_true, if_false, reduceIte, reduceCtorEq, Nat.reduceSub, Nat.reduceAdd, Nat.reduceLT, decide_true, decide_false, Bool.not_true, Bool.not_false, Bool.false_eq_true, Nat.reduceEqDiff, List.nodup_nil, List.nodup_cons, List.not_mem_nil, not_false_eq_true, true_and, and_true, and_self, x_lc, z_lc2, q_lc, mw0, mw1, qW_un, qW_im, wp0, wp1, bk0, bk1, gd0, gd1, x_ofv, kWk_l, kWk_t, x_ofcall, x_ofcallT, x_ofpr, x_oftup, x_oflst, x_oflc, x_ofcon, z_of, walk_l, walk_t, x_rng1, x_rng2, z_rng2a, x_enum, x_enum2, x_zip, x_zip3, z_en, z_zp, z_zp3, s_frr, w_fr, ul_nx, ul_rt, ul0, lk0, ul1, lk1, x_lkS, x_ulS, qLk_ow, qLk_io, qUl_ow, qUl_io, srcs_ofv, srcs_ofcall, srcs_ofcallT, srcs_ofpr, srcs_oftup, srcs_oflst, srcs_oflc, srcs_ofcon, srcs_r1, srcs_r2, srcs_en, srcs_en2, srcs_zp, srcs_zp3, rv_nil, rv_var, rv_call, rv_pr, rv_con, rv_lc, rv_tup, rv_lst, fi0, fi1, g_nm, g_tp, g_nl, g_cn, w_kM, x_kM, x_lm, mOw_q, mIo_q, o_rev, o_clr, x_lcT, qT1_some, z_T2, z_T3, x_frT, qF1_some, sS_sl, qW_sl, sl_some, z_lm, q_lm, Bool.and_true, Bool.true_and, Bool.and_false, Bool.false_and, Bool.or_true, Bool.true_or, Bool.or_false, Bool.false_or, revD, pr_add, pr_sub, pr_mul, pr_fdiv, pr_mod, pr_pow, pr_neg, pr_item, pr_len, pr_abs, pr_max, pr_min, pr_toInt, pr_toList, pr_toTuple, pr_sum, pr_sorted, pr_repr, pr_all, pr_any, pr_divmod, pr_isi, pr_cmp, pr_cut, pr_rev, pr_lrg, pr_trg, sz0, sz1, sz2, sz3, sz4, sz5, sz6, sz7, sz8, sz9, sz10, sz11, sz12]
      · simp only [fb__law_sum_0, io__law_plus, hq, x_runF, q_nx, q_rt, rep0, rep1, x_var, qV_im, qV_ow, x_rdS, sD_im, sD_ow, sD_io, sD_lk, x_canLk, sC_ow, sC_io, sC_im, sC_lk, sC_un, x_stSf, x_stSt, sS_un, sS_im, sS_ow, x_chS, sG_ow, sG_io, mOw_some, mIo_some, x_con, x_tup, x_lst, z_tup, z_lst, x_pr, z_pr, x_not, z_not, x_and, x_or, z_and, z_or, x_ite, z_ite, x_call, z_call, q_ok, lift2_some, x_callT, z_callT, q_okT, x_Anil, x_Bnil, x_Cnil, x_Acons, z_A, z_B, z_C, z_cons, x_Bvar, tB_some, z_var, x_Bpr, x_Bcon, x_Btup, x_Blst, x_Bcall, x_BcallT, x_Bnot, x_Bite, x_Blc, x_Cval, x_Cvar, tC_true, z_varC, t_not, t_and, t_or, t_cmp, t_var, t_call, t_isi, t_len, t_con, t_item, t_all, t_any, y_t, y_n, y_a, y_o, y_c, s_skip, s_seq, w_nx, s_set, w_set, s_put, w_put, w_put2, s_unp, w_unp, w_unpQ, w_ts0, w_tsn, w_tsi, w_ti, w_ts, s_par, w_par, w_par2, w_par3, w_par4, s_ex, w_ex, s_iff, w_if, s_whl, s_retv, q_rim, q_row, s_retpr, s_rettup, s_retlst, s_retcon, s_retcall, s_retnot, s_retand, s_retor, s_retite, s_retlc, w_ret, startE, bind_rt, bind_sexn, bind_bk, bind_ct, lift_some, go1_some, ob_some, om_some, Vm.cmpD, ordD, putI, outsE, contS, add_ii, subD, negD, absD, maxD, minD, lensD, len_l, len_t, truD, boolOf, intOf, ioIx, wb, isiD, isTy, toIntD, toListD, toTupleD, itemsOf, List.length_cons, List.length_nil, Int.reduceToNat, it0, it1, it2, it3, it4, it5, it6, ta0, ta1, ta2, eqL2, noneL1, isBL1, inL_l, inL_t, isNo_n, isNo_i, isNo_t, isNo_q, eqI, eqQ, eqSS, eq_self, decide_eq_true_eq, cut_a, cut_b, slc_l, slc_t, List.nil_append, List.cons_append, List.append_nil, List.getElem?_cons_zero, List.getElem?_cons_succ, List.set_cons_zero, List.set_cons_succ, List.set_nil, Option.isSome_some, if_true, if_false, reduceIte, reduceCtorEq, Nat.reduceSub, Nat.reduceAdd, Nat.reduceLT, decide_true, decide_false, Bool.not_true, Bool.not_false, Bool.false_eq_true, Nat.reduceEqDiff, List.nodup_nil, List.nodup_cons, List.not_mem_nil, not_false_eq_true, true_and, and_true, and_self, x_lc, z_lc2, q_lc, mw0, mw1, qW_un, qW_im, wp0, wp1, bk0, bk1, gd0, gd1, x_ofv, kWk_l, kWk_t, x_ofcall, x_ofcallT, x_ofpr, x_oftup, x_oflst, x_oflc, x_ofcon, z_of, walk_l, walk_t, x_rng1, x_rng2, z_rng2a, x_enum, x_enum2, x_zip, x_zip3, z_en, z_zp, z_zp3, s_frr, w_fr, ul_nx, ul_rt, ul0, lk0, ul1, lk1, x_lkS, x_ulS, qLk_ow, qLk_io, qUl_ow, qUl_io, srcs_ofv, srcs_ofcall, srcs_ofcallT, srcs_ofpr, srcs_oftup, srcs_oflst, srcs_oflc, srcs_ofcon, srcs_r1, srcs_r2, srcs_en, srcs_en2, srcs_zp, srcs_zp3, rv_nil, rv_var, rv_call, rv_pr, rv_con, rv_lc, rv_tup, rv_lst, fi0, fi1, g_nm, g_tp, g_nl, g_cn, w_kM, x_kM, x_lm, mOw_q, mIo_q, o_rev, o_clr, x_lcT, qT1_some, z_T2, z_T3, x_frT, qF1_some, sS_sl, qW_sl, sl_some, z_lm, q_lm, Bool.and_true, Bool.true_and, Bool.and_false, Bool.false_and, Bool.or_true, Bool.true_or, Bool.or_false, Bool.false_or, revD, pr_add, pr_sub, pr_mul, pr_fdiv, pr_mod, pr_pow, pr_neg, pr_item, pr_len, pr_abs, pr_max, pr_min, pr_toInt, pr_toList, pr_toTuple, pr_sum, pr_sorted, pr_repr, pr_all, pr_any, pr_divmod, pr_isi, pr_cmp, pr_cut, pr_rev, pr_lrg, pr_trg, sz0, sz1, sz2, sz3, sz4, sz5, sz6, sz7, sz8, sz9, sz10, sz11, sz12]
      · rw [List.sum_append, List.sum_cons, List.sum_nil]
        show pre.sum + x = _
        grind) ⟨[], rfl, rfl⟩
  have e0 : row.foldl (· + ·) (0 : Rat) = row.sum := by rw [Vm.foldl_add]; grind
  rw [e0] at h1
  have h1 : frL (.nm 2) (evS fb__law_sum_0) (row.map frQ) [.lk true (.list (row.map frQ)), .im (frQ 0), .un] = .nx [.lk true (.list (row.map frQ)), .im (frQ row.sum), sl o'] := h1
  simp only [m__law_sum, b__law_sum, nought, h1, x_runF, q_nx, q_rt, rep0, rep1, x_var, qV_im, qV_ow, x_rdS, sD_im, sD_ow, sD_io, sD_lk, x_canLk, sC_ow, sC_io, sC_im, sC_lk, sC_un, x_stSf, x_stSt, sS_un, sS_im, sS_ow, x_chS, sG_ow, sG_io, mOw_some, mIo_some, x_con, x_tup, x_lst, z_tup, z_lst, x_pr, z_pr, x_not, z_not, x_and, x_or, z_and, z_or, x_ite, z_ite, x_call, z_call, q_ok, lift2_some, x_callT, z_callT, q_okT, x_Anil, x_Bnil, x_Cnil, x_Acons, z_A, z_B, z_C, z_cons, x_Bvar, tB_some, z_var, x_Bpr, x_Bcon, x_Btup, x_Blst, x_Bcall, x_BcallT, x_Bnot, x_Bite, x_Blc, x_Cval, x_Cvar, tC_true, z_varC, t_not, t_and, t_or, t_cmp, t_var, t_call, t_isi, t_len, t_con, t_item, t_all, t_any, y_t, y_n, y_a, y_o, y_c, s_skip, s_seq, w_nx, s_set, w_set, s_put, w_put, w_put2, s_unp, w_unp, w_unpQ, w_ts0, w_tsn, w_tsi, w_ti, w_ts, s_par, w_par, w_par2, w_par3, w_par4, s_ex, w_ex, s_iff, w_if, s_whl, s_retv, q_rim, q_row, s_retpr, s_rettup, s_retlst, s_retcon, s_retcall, s_retnot, s_retand, s_retor, s_retite, s_retlc, w_ret, startE, bind_rt, bind_sexn, bind_bk, bind_ct, lift_some, go1_some, ob_some, om_some, Vm.cmpD, ordD, putI, outsE, contS, add_ii, subD, negD, absD, maxD, minD, lensD, len_l, len_t, truD, boolOf, intOf, ioIx, wb, isiD, isTy, toIntD, toListD, toTupleD, itemsOf, List.length_cons, List.length_nil, Int.reduceToNat, it0, it1, it2, it3, it4, it5, it6, ta0, ta1, ta2, eqL2, noneL1, isBL1, inL_l, inL_t, isNo_n, isNo_i, isNo_t, isNo_q, eqI, eqQ, eqSS, eq_self, decide_eq_true_eq, cut_a, cut_b, slc_l, slc_t, List.nil_append, List.cons_append, List.append_nil, List.getElem?_cons_zero, List.getElem?_cons_succ, List.set_cons_zero, List.set_cons_succ, List.set_nil, Option.isSome_some, if_true, if_false, reduceIte, reduceCtorEq, Nat.reduceSub, Nat.reduceAdd, Nat.reduceLT, decide_true, decide_false, Bool.not_true, Bool.not_false, Bool.false_eq_true, Nat.reduceEqDiff, List.nodup_nil, List.nodup_cons, List.not_mem_nil, not_false_eq_true, true_and, and_true, and_self, x_lc, z_lc2, q_lc, mw0, mw1, qW_un, qW_im, wp0, wp1, bk0, bk1, gd0, gd1, x_ofv, kWk_l, kWk_t, x_ofcall, x_ofcallT, x_ofpr, x_oftup, x_oflst, x_oflc, x_ofcon, z_of, walk_l, walk_t, x_rng1, x_rng2, z_rng2a, x_enum, x_enum2, x_zip, x_zip3, z_en, z_zp, z_zp3, s_frr, w_fr, ul_nx, ul_rt, ul0, lk0, ul1, lk1, x_lkS, x_ulS, qLk_ow, qLk_io, qUl_ow, qUl_io, srcs_ofv, srcs_ofcall, srcs_ofcallT, srcs_ofpr, srcs_oftup, srcs_oflst, srcs_oflc, srcs_ofcon, srcs_r1, srcs_r2, srcs_en, srcs_en2, srcs_zp, srcs_zp3, rv_nil, rv_var, rv_call, rv_pr, rv_con, rv_lc, rv_tup, rv_lst, fi0, fi1, g_nm, g_tp, g_nl, g_cn, w_kM, x_kM, x_lm, mOw_q, mIo_q, o_rev, o_clr, x_lcT, qT1_some, z_T2, z_T3, x_frT, qF1_some, sS_sl, qW_sl, sl_some, z_lm, q_lm, Bool.and_true, Bool.true_and, Bool.and_false, Bool.false_and, Bool.or_true, Bool.true_or, Bool.or_false, Bool.false_or, revD, pr_add, pr_sub, pr_mul, pr_fdiv, pr_mod, pr_pow, pr_neg, pr_item, pr_len, pr_abs, pr_max, pr_min, pr_toInt, pr_toList, pr_toTuple, pr_sum, pr_sorted, pr_repr, pr_all, pr_any, pr_divmod, pr_isi, pr_cmp, pr_cut, pr_rev, pr_lrg, pr_trg, sz0, sz1, sz2, sz3, sz4, sz5, sz6, sz7, sz8, sz9, sz10, sz11, sz12]
theorem S_first {row : List Rat} {K : Nat} (hk : ∀ q ∈ row, bq q ≤ K) (hK : K ≤ 60000000) (hl : row.length ≤ 1000) : m__law_first.run [.list (row.map frQ)] = .ok (.list ((gfirst row).map nI)) true [.list (row.map frQ)] := by
  obtain ⟨o1, o2, h⟩ := body_first (s0 := .io (.list (row.map frQ))) (d := .list (row.map frQ)) rfl rfl hk hK hl
  have h : evS b__law_first _ = _ := h
  simp only [m__law_first, h, x_runF, q_nx, q_rt, rep0, rep1, x_var, qV_im, qV_ow, x_rdS, sD_im, sD_ow, sD_io, sD_lk, x_canLk, sC_ow, sC_io, sC_im, sC_lk, sC_un, x_stSf, x_stSt, sS_un, sS_im, sS_ow, x_chS, sG_ow, sG_io, mOw_some, mIo_some, x_con, x_tup, x_lst, z_tup, z_lst, x_pr, z_pr, x_not, z_not, x_and, x_or, z_and, z_or, x_ite, z_ite, x_call, z_call, q_ok, lift2_some, x_callT, z_callT, q_okT, x_Anil, x_Bnil, x_Cnil, x_Acons, z_A, z_B, z_C, z_cons, x_Bvar, tB_some, z_var, x_Bpr, x_Bcon, x_Btup, x_Blst, x_Bcall, x_BcallT, x_Bnot, x_Bite, x_Blc, x_Cval, x_Cvar, tC_true, z_varC, t_not, t_and, t_or, t_cmp, t_var, t_call, t_isi, t_len, t_con, t_item, t_all, t_any, y_t, y_n, y_a, y_o, y_c, s_skip, s_seq, w_nx, s_set, w_set, s_put, w_put, w_put2, s_unp, w_unp, w_unpQ, w_ts0, w_tsn, w_tsi, w_ti, w_ts, s_par, w_par, w_par2, w_par3, w_par4, s_ex, w_ex, s_iff, w_if, s_whl, s_retv, q_rim, q_row, s_retpr, s_rettup, s_retlst, s_retcon, s_retcall, s_retnot, s_retand, s_retor, s_retite, s_retlc, w_ret, startE, bind_rt, bind_sexn, bind_bk, bind_ct, lift_some, go1_some, ob_some, om_some, Vm.cmpD, ordD, putI, outsE, contS, add_ii, subD, negD, absD, maxD, minD, lensD, len_l, len_t, truD, boolOf, intOf, ioIx, wb, isiD, isTy, toIntD, toListD, toTupleD, itemsOf, List.length_cons, List.length_nil, Int.reduceToNat, it0, it1, it2, it3, it4, it5, it6, ta0, ta1, ta2, eqL2, noneL1, isBL1, inL_l, inL_t, isNo_n, isNo_i, isNo_t, isNo_q, eqI, eqQ, eqSS, eq_self, decide_eq_true_eq, cut_a, cut_b, slc_l, slc_t, List.nil_append, List.cons_append, List.append_nil, List.getElem?_cons_zero, List.getElem?_cons_succ, List.set_cons_zero, List.set_cons_succ, List.set_nil, Option.isSome_some, if_true, if_false, reduceIte, reduceCtorEq, Nat.reduceSub, Nat.reduceAdd, Nat.reduceLT, decide_true, decide_false, Bool.not_true, Bool.not_false, Bool.false_eq_true, Nat.reduceEqDiff, List.nodup_nil, List.nodup_cons, List.not_mem_nil, not_false_eq_true, true_and, and_true, and_self, x_lc, z_lc2, q_lc, mw0, mw1, qW_un, qW_im, wp0, wp1, bk0, bk1, gd0, gd1, x_ofv, kWk_l, kWk_t, x_ofcall, x_ofcallT, x_ofpr, x_oftup, x_oflst, x_oflc, x_ofcon, z_of, walk_l, walk_t, x_rng1, x_rng2, z_rng2a, x_enum, x_enum2, x_zip, x_zip3, z_en, z_zp, z_zp3, s_frr, w_fr, ul_nx, ul_rt, ul0, lk0, ul1, lk1, x_lkS, x_ulS, qLk_ow, qLk_io, qUl_ow, qUl_io, srcs_ofv, srcs_ofcall, srcs_ofcallT, srcs_ofpr, srcs_oftup, srcs_oflst, srcs_oflc, srcs_ofcon, srcs_r1, srcs_r2, srcs_en, srcs_en2, srcs_zp, srcs_zp3, rv_nil, rv_var, rv_call, rv_pr, rv_con, rv_lc, rv_tup, rv_lst, fi0, fi1, g_nm, g_tp, g_nl, g_cn, w_kM, x_kM, x_lm, mOw_q, mIo_q, o_rev, o_clr, x_lcT, qT1_some, z_T2, z_T3, x_frT, qF1_some, sS_sl, qW_sl, sl_some, z_lm, q_lm, Bool.and_true, Bool.true_and, Bool.and_false, Bool.false_and, Bool.or_true, Bool.true_or, Bool.or_false, Bool.false_or, revD, pr_add, pr_sub, pr_mul, pr_fdiv, pr_mod, pr_pow, pr_neg, pr_item, pr_len, pr_abs, pr_max, pr_min, pr_toInt, pr_toList, pr_toTuple, pr_sum, pr_sorted, pr_repr, pr_all, pr_any, pr_divmod, pr_isi, pr_cmp, pr_cut, pr_rev, pr_lrg, pr_trg, sz0, sz1, sz2, sz3, sz4, sz5, sz6, sz7, sz8, sz9, sz10, sz11, sz12]
theorem S_number (p : Pot) : ∃ n p', m__law_number.run [PD p] = .ok (.int n) false [PD p'] ∧ bl n ≤ 98 := Q_number p
theorem S_row (p : Pot) {n : Nat} (hn : n ≤ 7) : ∃ (row : List Rat) (p' : Pot), m__law_row.run [PD p, .int (n : Int)] = .ok (.list (row.map frQ)) true [PD p'] ∧ row.length = n ∧ ∀ q ∈ row, bq q ≤ 796 := by
  have ir : Vm.inR (n : Int) = true := by unfold Vm.inR; simp; omega
  obtain ⟨ys, p1, f1, r1, f2, f3, f4⟩ := lcL_st (vs := [4]) (t := .nm 4) (c := .con (.bool true)) (el := ce__law_row_0) (rep := fun (k : Nat) => (PyData.int (k : Int) : D)) (fun (p : Pot) => [.io (PD p), .im (.int (n : Int)), .un, .un, .un, .un])
    (fun r acc p => ∃ row : List Rat, acc = row.map frQ ∧ row.length + r.length = n ∧ ∀ q ∈ row, bq q ≤ 98) (xs := List.range n) (acc := []) (s := p) (fun x r acc p ⟨row, h1, h2, h3⟩ => by
      have h2 : row.length + (r.length + 1) = n := h2
      obtain ⟨v0, p1, e1, b1⟩ := S_number p
      obtain ⟨d2, p2, e2, l2, u2⟩ := R_digit p1 (n := 7) (by decide) (by decide +kernel)
      obtain ⟨v, hv, ev⟩ := it_pick (xs := [1, 1, 2, 3, 4, 12, 60]) l2 u2
      have v1 : 0 < v ∧ v ≤ 60 := by
        have : ∀ x ∈ ([1, 1, 2, 3, 4, 12, 60] : List Int), 0 < x ∧ x ≤ 60 := by decide
        exact this v hv
      simp only [List.map_cons, List.map_nil] at ev
      have bv : bl v ≤ 6 := bl_le 6 (by omega) (by omega)
      have hl := R_low (a := v0) (b := v) v1.1 (by omega)
      have bl1 := Nat.le_trans (bq_frac v0 v1.1) (show max (bl v0) (bl v) ≤ 98 by omega)
      generalize (v0 : Rat) / (v : Rat) = q1 at hl bl1
      refine ⟨some (frQ q1), p2, ?_, ?_, row ++ [q1], ?_, by simp; omega, fun q hq => ?_⟩
      · simp only [ce__law_row_0, io__law_number, io__law_digit, io__law_low, e1, e2, ev, hl, x_runF, q_nx, q_rt, rep0, rep1, x_var, qV_im, qV_ow, x_rdS, sD_im, sD_ow, sD_io, sD_lk, x_canLk, sC_ow, sC_io, sC_im, sC_lk, sC_un, x_stSf, x_stSt, sS_un, sS_im, sS_ow, x_chS, sG_ow, sG_io, mOw_some, mIo_some, x_con, x_tup, x_lst, z_tup, z_lst, x_pr, z_pr, x_not, z_not, x_and, x_or, z_and, z_or, x_ite, z_ite, x_call, z_call, q_ok, lift2_some, x_callT, z_callT, q_okT, x_Anil, x_Bnil, x_Cnil, x_Acons, z_A, z_B, z_C, z_cons, x_Bvar, tB_some, z_var, x_Bpr, x_Bcon, x_Btup, x_Blst, x_Bcall, x_BcallT, x_Bnot, x_Bite, x_Blc, x_Cval, x_Cvar, tC_true, z_varC, t_not, t_and, t_or, t_cmp, t_var, t_call, t_isi, t_len, t_con, t_item, t_all, t_any, y_t, y_n, y_a, y_o, y_c, s_skip, s_seq, w_nx, s_set, w_set, s_put, w_put, w_put2, s_unp, w_unp, w_unpQ, w_ts0, w_tsn, w_tsi, w_ti, w_ts, s_par, w_par, w_par2, w_par3, w_par4, s_ex, w_ex, s_iff, w_if, s_whl, s_retv, q_rim, q_row, s_retpr, s_rettup, s_retlst, s_retcon, s_retcall, s_retnot, s_retand, s_retor, s_retite, s_retlc, w_ret, startE, bind_rt, bind_sexn, bind_bk, bind_ct, lift_some, go1_some, ob_some, om_some, Vm.cmpD, ordD, putI, outsE, contS, add_ii, subD, negD, absD, maxD, minD, lensD, len_l, len_t, truD, boolOf, intOf, ioIx, wb, isiD, isTy, toIntD, toListD, toTupleD, itemsOf, List.length_cons, List.length_nil, Int.reduceToNat, it0, it1, it2, it3, it4, it5, it6, ta0, ta1, ta2, eqL2, noneL1, isBL1, inL_l, inL_t, isNo_n, isNo_i, isNo_t, isNo_q, eqI, eqQ, eqSS, eq_self, decide_eq_true_eq, cut_a, cut_b, slc_l, slc_t, List.nil_append, List.cons_append, List.append_nil, List.getElem?_cons_zero, List.getElem?_cons_succ, List.set_cons_zero, List.set_cons_succ, List.set_nil, Option.isSome_some, if_true, if_false, reduceIte, reduceCtorEq, Nat.reduceSub, Nat.reduceAdd, Nat.reduceLT, decide_true, decide_false, Bool.not_true, Bool.not_false, Bool.false_eq_true, Nat.reduceEqDiff, List.nodup_nil, List.nodup_cons, List.not_mem_nil, not_false_eq_true, true_and, and_true, and_self, x_lc, z_lc2, q_lc, mw0, mw1, qW_un, qW_im, wp0, wp1, bk0, bk1, gd0, gd1, x_ofv, kWk_l, kWk_t, x_ofcall, x_ofcallT, x_ofpr, x_oftup, x_oflst, x_oflc, x_ofcon, z_of, walk_l, walk_t, x_rng1, x_rng2, z_rng2a, x_enum, x_enum2, x_zip, x_zip3, z_en, z_zp, z_zp3, s_frr, w_fr, ul_nx, ul_rt, ul0, lk0, ul1, lk1, x_lkS, x_ulS, qLk_ow, qLk_io, qUl_ow, qUl_io, srcs_ofv, srcs_ofcall, srcs_ofcallT, srcs_ofpr, srcs_oftup, srcs_oflst, srcs_oflc, srcs_ofcon, srcs_r1, srcs_r2, srcs_en, srcs_en2, srcs_zp, srcs_zp3, rv_nil, rv_var, rv_call, rv_pr, rv_con, rv_lc, rv_tup, rv_lst, fi0, fi1, g_nm, g_tp, g_nl, g_cn, w_kM, x_kM, x_lm, mOw_q, mIo_q, o_rev, o_clr, x_lcT, qT1_some, z_T2, z_T3, x_frT, qF1_some, sS_sl, qW_sl, sl_some, z_lm, q_lm, Bool.and_true, Bool.true_and, Bool.and_false, Bool.false_and, Bool.or_true, Bool.true_or, Bool.or_false, Bool.false_or, revD, pr_add, pr_sub, pr_mul, pr_fdiv, pr_mod, pr_pow, pr_neg, pr_item, pr_len, pr_abs, pr_max, pr_min, pr_toInt, pr_toList, pr_toTuple, pr_sum, pr_sorted, pr_repr, pr_all, pr_any, pr_divmod, pr_isi, pr_cmp, pr_cut, pr_rev, pr_lrg, pr_trg, sz0, sz1, sz2, sz3, sz4, sz5, sz6, sz7, sz8, sz9, sz10, sz11, sz12]
      · have := sizeLine_big
        rw [h1, List.length_map]
        omega
      · rw [h1, List.map_append]
        rfl
      · rcases List.mem_append.mp hq with hq | hq
        · exact h3 q hq
        · rw [List.mem_singleton.mp hq]; exact bl1) ⟨[], rfl, by simp, by simp⟩
  rw [List.length_nil, Nat.add_zero] at f3
  have hz : (98 + 1) * (r1.length + 1) ≤ 7000 := by
    have : (98 + 1) * (r1.length + 1) ≤ (98 + 1) * 8 := Nat.mul_le_mul_left _ (by omega)
    omega
  have hs := S_sum f4 hz
  have bs : bq r1.sum ≤ 694 := by
    have := bq_sum f4
    have : (98 + 1) * r1.length ≤ (98 + 1) * 7 := Nat.mul_le_mul_left _ (by omega)
    omega
  generalize r1.sum = s at hs bs
  have bn : bl (n : Int) ≤ 3 := bl_le 3 (by omega) (by omega)
  have b1 := bq_num s
  have b2 := bq_den s
  have b3 := bl_mul s.den n
  have o1 := o_mul (i := (s.den : Int)) (j := n) (by omega)
  have h0 : ∀ q ∈ r1, 0 < n := fun q hq => by have := List.length_pos_of_mem hq; omega
  have lc := lcL_m (vs := [5]) (t := .nm 5) (c := .con (.bool true)) (el := ce__law_row_1) (rep := frQ) (g := fun q => frQ (q + (((0 - s.num : Int) : Rat) / ((s.den * n : Int) : Rat)))) (xs := r1) (e := [.io (PD p1), .im (.int (n : Int)), .lk false (.list (r1.map frQ)), .im (frQ s), .un, .un]) (fun q hq => by
    have n0 := h0 q hq
    have pos : 0 < (s.den : Int) * (n : Int) := Int.mul_pos (den_pos s) (by omega)
    have hl := R_low (a := 0 - s.num) pos (by omega)
    have b4 := bl_neg s.num
    have b5 := Nat.le_trans (bq_frac (0 - s.num) pos) (show max (bl (0 - s.num)) (bl ((s.den : Int) * n)) ≤ 697 by rw [Int.zero_sub, b4]; omega)
    have hp := Q_plus (p := q) (q := (((0 - s.num : Int) : Rat) / ((s.den * n : Int) : Rat))) (by have := f4 q hq; omega)
    simp only [ce__law_row_1, io__law_low, io__law_plus, at0Q, at1Q, o1, hl, hp, x_runF, q_nx, q_rt, rep0, rep1, x_var, qV_im, qV_ow, x_rdS, sD_im, sD_ow, sD_io, sD_lk, x_canLk, sC_ow, sC_io, sC_im, sC_lk, sC_un, x_stSf, x_stSt, sS_un, sS_im, sS_ow, x_chS, sG_ow, sG_io, mOw_some, mIo_some, x_con, x_tup, x_lst, z_tup, z_lst, x_pr, z_pr, x_not, z_not, x_and, x_or, z_and, z_or, x_ite, z_ite, x_call, z_call, q_ok, lift2_some, x_callT, z_callT, q_okT, x_Anil, x_Bnil, x_Cnil, x_Acons, z_A, z_B, z_C, z_cons, x_Bvar, tB_some, z_var, x_Bpr, x_Bcon, x_Btup, x_Blst, x_Bcall, x_BcallT, x_Bnot, x_Bite, x_Blc, x_Cval, x_Cvar, tC_true, z_varC, t_not, t_and, t_or, t_cmp, t_var, t_call, t_isi, t_len, t_con, t_item, t_all, t_any, y_t, y_n, y_a, y_o, y_c, s_skip, s_seq, w_nx, s_set, w_set, s_put, w_put, w_put2, s_unp, w_unp, w_unpQ, w_ts0, w_tsn, w_tsi, w_ti, w_ts, s_par, w_par, w_par2, w_par3, w_par4, s_ex, w_ex, s_iff, w_if, s_whl, s_retv, q_rim, q_row, s_retpr, s_rettup, s_retlst, s_retcon, s_retcall, s_retnot, s_retand, s_retor, s_retite, s_retlc, w_ret, startE, bind_rt, bind_sexn, bind_bk, bind_ct, lift_some, go1_some, ob_some, om_some, Vm.cmpD, ordD, putI, outsE, contS, add_ii, subD, negD, absD, maxD, minD, lensD, len_l, len_t, truD, boolOf, intOf, ioIx, wb, isiD, isTy, toIntD, toListD, toTupleD, itemsOf, List.length_cons, List.length_nil, Int.reduceToNat, it0, it1, it2, it3, it4, it5, it6, ta0, ta1, ta2, eqL2, noneL1, isBL1, inL_l, inL_t, isNo_n, isNo_i, isNo_t, isNo_q, eqI, eqQ, eqSS, eq_self, decide_eq_true_eq, cut_a, cut_b, slc_l, slc_t, List.nil_append, List.cons_append, List.append_nil, List.getElem?_cons_zero, List.getElem?_cons_succ, List.set_cons_zero, List.set_cons_succ, List.set_nil, Option.isSome_some, if_true, if_false, reduceIte, reduceCtorEq, Nat.reduceSub, Nat.reduceAdd, Nat.reduceLT, decide_true, decide_false, Bool.not_true, Bool.not_false, Bool.false_eq_true, Nat.reduceEqDiff, List.nodup_nil, List.nodup_cons, List.not_mem_nil, not_false_eq_true, true_and, and_true, and_self, x_lc, z_lc2, q_lc, mw0, mw1, qW_un, qW_im, wp0, wp1, bk0, bk1, gd0, gd1, x_ofv, kWk_l, kWk_t, x_ofcall, x_ofcallT, x_ofpr, x_oftup, x_oflst, x_oflc, x_ofcon, z_of, walk_l, walk_t, x_rng1, x_rng2, z_rng2a, x_enum, x_enum2, x_zip, x_zip3, z_en, z_zp, z_zp3, s_frr, w_fr, ul_nx, ul_rt, ul0, lk0, ul1, lk1, x_lkS, x_ulS, qLk_ow, qLk_io, qUl_ow, qUl_io, srcs_ofv, srcs_ofcall, srcs_ofcallT, srcs_ofpr, srcs_oftup, srcs_oflst, srcs_oflc, srcs_ofcon, srcs_r1, srcs_r2, srcs_en, srcs_en2, srcs_zp, srcs_zp3, rv_nil, rv_var, rv_call, rv_pr, rv_con, rv_lc, rv_tup, rv_lst, fi0, fi1, g_nm, g_tp, g_nl, g_cn, w_kM, x_kM, x_lm, mOw_q, mIo_q, o_rev, o_clr, x_lcT, qT1_some, z_T2, z_T3, x_frT, qF1_some, sS_sl, qW_sl, sl_some, z_lm, q_lm, Bool.and_true, Bool.true_and, Bool.and_false, Bool.false_and, Bool.or_true, Bool.true_or, Bool.or_false, Bool.false_or, revD, pr_add, pr_sub, pr_mul, pr_fdiv, pr_mod, pr_pow, pr_neg, pr_item, pr_len, pr_abs, pr_max, pr_min, pr_toInt, pr_toList, pr_toTuple, pr_sum, pr_sorted, pr_repr, pr_all, pr_any, pr_divmod, pr_isi, pr_cmp, pr_cut, pr_rev, pr_lrg, pr_trg, sz0, sz1, sz2, sz3, sz4, sz5, sz6, sz7, sz8, sz9, sz10, sz11, sz12]) (by have := sizeLine_big; omega)
  have e1 : r1.map (fun q => frQ (q + (((0 - s.num : Int) : Rat) / ((s.den * n : Int) : Rat)))) = (r1.map fun q => (q + (((0 - s.num : Int) : Rat) / ((s.den * n : Int) : Rat)))).map frQ := by rw [List.map_map]; rfl
  rw [e1] at lc
  refine ⟨r1.map fun q => (q + (((0 - s.num : Int) : Rat) / ((s.den * n : Int) : Rat))), p1, ?_, by rw [List.length_map]; exact f3, fun q hq => ?_⟩
  · generalize (r1.map fun q => (q + (((0 - s.num : Int) : Rat) / ((s.den * n : Int) : Rat)))) = r2 at lc
    subst f2
    have f1 : lcL [4] (.nm 4) (evT (.con (.bool true))) (evE ce__law_row_0) ((List.range n).map fun (k : Nat) => (PyData.int (k : Int) : D)) [] [.io (PD p), .im (.int (n : Int)), .un, .un, .un, .un] = .ok (r1.map frQ) [.io (PD p1), .im (.int (n : Int)), .un, .un, .un, .un] := f1
    simp only [m__law_row, b__law_row, io__law_sum, z_rng1 ir, Int.toNat_natCast, rngD0, f1, hs, lc, x_runF, q_nx, q_rt, rep0, rep1, x_var, qV_im, qV_ow, x_rdS, sD_im, sD_ow, sD_io, sD_lk, x_canLk, sC_ow, sC_io, sC_im, sC_lk, sC_un, x_stSf, x_stSt, sS_un, sS_im, sS_ow, x_chS, sG_ow, sG_io, mOw_some, mIo_some, x_con, x_tup, x_lst, z_tup, z_lst, x_pr, z_pr, x_not, z_not, x_and, x_or, z_and, z_or, x_ite, z_ite, x_call, z_call, q_ok, lift2_some, x_callT, z_callT, q_okT, x_Anil, x_Bnil, x_Cnil, x_Acons, z_A, z_B, z_C, z_cons, x_Bvar, tB_some, z_var, x_Bpr, x_Bcon, x_Btup, x_Blst, x_Bcall, x_BcallT, x_Bnot, x_Bite, x_Blc, x_Cval, x_Cvar, tC_true, z_varC, t_not, t_and, t_or, t_cmp, t_var, t_call, t_isi, t_len, t_con, t_item, t_all, t_any, y_t, y_n, y_a, y_o, y_c, s_skip, s_seq, w_nx, s_set, w_set, s_put, w_put, w_put2, s_unp, w_unp, w_unpQ, w_ts0, w_tsn, w_tsi, w_ti, w_ts, s_par, w_par, w_par2, w_par3, w_par4, s_ex, w_ex, s_iff, w_if, s_whl, s_retv, q_rim, q_row, s_retpr, s_rettup, s_retlst, s_retcon, s_retcall, s_retnot, s_retand, s_retor, s_retite, s_retlc, w_ret, startE, bind_rt, bind_sexn, bind_bk, bind_ct, lift_some, go1_some, ob_some, om_some, Vm.cmpD, ordD, putI, outsE, contS, add_ii, subD, negD, absD, maxD, minD, lensD, len_l, len_t, truD, boolOf, intOf, ioIx, wb, isiD, isTy, toIntD, toListD, toTupleD, itemsOf, List.length_cons, List.length_nil, Int.reduceToNat, it0, it1, it2, it3, it4, it5, it6, ta0, ta1, ta2, eqL2, noneL1, isBL1, inL_l, inL_t, isNo_n, isNo_i, isNo_t, isNo_q, eqI, eqQ, eqSS, eq_self, decide_eq_true_eq, cut_a, cut_b, slc_l, slc_t, List.nil_append, List.cons_append, List.append_nil, List.getElem?_cons_zero, List.getElem?_cons_succ, List.set_cons_zero, List.set_cons_succ, List.set_nil, Option.isSome_some, if_true, if_false, reduceIte, reduceCtorEq, Nat.reduceSub, Nat.reduceAdd, Nat.reduceLT, decide_true, decide_false, Bool.not_true, Bool.not_false, Bool.false_eq_true, Nat.reduceEqDiff, List.nodup_nil, List.nodup_cons, List.not_mem_nil, not_false_eq_true, true_and, and_true, and_self, x_lc, z_lc2, q_lc, mw0, mw1, qW_un, qW_im, wp0, wp1, bk0, bk1, gd0, gd1, x_ofv, kWk_l, kWk_t, x_ofcall, x_ofcallT, x_ofpr, x_oftup, x_oflst, x_oflc, x_ofcon, z_of, walk_l, walk_t, x_rng1, x_rng2, z_rng2a, x_enum, x_enum2, x_zip, x_zip3, z_en, z_zp, z_zp3, s_frr, w_fr, ul_nx, ul_rt, ul0, lk0, ul1, lk1, x_lkS, x_ulS, qLk_ow, qLk_io, qUl_ow, qUl_io, srcs_ofv, srcs_ofcall, srcs_ofcallT, srcs_ofpr, srcs_oftup, srcs_oflst, srcs_oflc, srcs_ofcon, srcs_r1, srcs_r2, srcs_en, srcs_en2, srcs_zp, srcs_zp3, rv_nil, rv_var, rv_call, rv_pr, rv_con, rv_lc, rv_tup, rv_lst, fi0, fi1, g_nm, g_tp, g_nl, g_cn, w_kM, x_kM, x_lm, mOw_q, mIo_q, o_rev, o_clr, x_lcT, qT1_some, z_T2, z_T3, x_frT, qF1_some, sS_sl, qW_sl, sl_some, z_lm, q_lm, Bool.and_true, Bool.true_and, Bool.and_false, Bool.false_and, Bool.or_true, Bool.true_or, Bool.or_false, Bool.false_or, revD, pr_add, pr_sub, pr_mul, pr_fdiv, pr_mod, pr_pow, pr_neg, pr_item, pr_len, pr_abs, pr_max, pr_min, pr_toInt, pr_toList, pr_toTuple, pr_sum, pr_sorted, pr_repr, pr_all, pr_any, pr_divmod, pr_isi, pr_cmp, pr_cut, pr_rev, pr_lrg, pr_trg, sz0, sz1, sz2, sz3, sz4, sz5, sz6, sz7, sz8, sz9, sz10, sz11, sz12]
  · obtain ⟨q0, hq0, rfl⟩ := List.mem_map.mp hq
    have n0 := h0 q0 hq0
    have pos : 0 < (s.den : Int) * (n : Int) := Int.mul_pos (den_pos s) (by omega)
    have b4 := bl_neg s.num
    have b5 := Nat.le_trans (bq_frac (0 - s.num) pos) (show max (bl (0 - s.num)) (bl ((s.den : Int) * n)) ≤ 697 by rw [Int.zero_sub, b4]; omega)
    have b6 := bq_add q0 (((0 - s.num : Int) : Rat) / ((s.den * n : Int) : Rat))
    have := f4 q0 hq0
    omega
theorem S_weight {row : List Rat} (hk : ∀ q ∈ row, bq q ≤ 796) (hl : row.length ≤ 7) : ∃ w, m__law_weight.run [.list (row.map frQ)] = .ok (.int w) false [.list (row.map frQ)] ∧ bl w ≤ 6400 := by
  have ir1 : Vm.inR 1 = true := by decide
  have ir : Vm.inR (row.length : Int) = true := by unfold Vm.inR; simp; omega
  have gf := S_first hk (by decide) (by omega)
  obtain ⟨a', f1, f2⟩ := frL_st (t := .nm 3) (s := fb__law_weight_0) (rep := fun (k : Nat) => (PyData.int (1 + (k : Int)) : D)) (fun (a : Int × Option D × Option D × Option D × Option D) => [.io (.list (row.map frQ)), .im (.int a.1), .ow (.list ((gfirst row).map nI)), sl a.2.1, sl a.2.2.1, sl a.2.2.2.1, sl a.2.2.2.2, .un])
    (fun r a => (∀ k ∈ r, k + 1 < row.length) ∧ bl a.1 ≤ 6400) (xs := List.range (row.length - 1)) (a := (1, none, none, none, none)) (fun k r ⟨w, o1, o2, o3, o4⟩ ⟨h1, h2⟩ => by
      have h2 : bl w ≤ 6400 := h2
      have hk1 := h1 k List.mem_cons_self
      have lc := lcL_m (vs := [7]) (t := .nm 7) (c := .con (.bool true)) (el := ce__law_weight_1) (rep := nI) (g := fun i => frQ (row.getD i 0)) (xs := (gfirst row).take (k + 1)) (e := [.io (.list (row.map frQ)), .im (.int w), .ow (.list ((gfirst row).map nI)), .im (.int (1 + (k : Int))), sl o2, sl o3, sl o4, .un]) (fun i hi => by
        simp only [ce__law_weight_1, nI, itemD_r (d := .list (row.map frQ)) rfl (gfirst_lt (List.mem_of_mem_take hi)), x_runF, q_nx, q_rt, rep0, rep1, x_var, qV_im, qV_ow, x_rdS, sD_im, sD_ow, sD_io, sD_lk, x_canLk, sC_ow, sC_io, sC_im, sC_lk, sC_un, x_stSf, x_stSt, sS_un, sS_im, sS_ow, x_chS, sG_ow, sG_io, mOw_some, mIo_some, x_con, x_tup, x_lst, z_tup, z_lst, x_pr, z_pr, x_not, z_not, x_and, x_or, z_and, z_or, x_ite, z_ite, x_call, z_call, q_ok, lift2_some, x_callT, z_callT, q_okT, x_Anil, x_Bnil, x_Cnil, x_Acons, z_A, z_B, z_C, z_cons, x_Bvar, tB_some, z_var, x_Bpr, x_Bcon, x_Btup, x_Blst, x_Bcall, x_BcallT, x_Bnot, x_Bite, x_Blc, x_Cval, x_Cvar, tC_true, z_varC, t_not, t_and, t_or, t_cmp, t_var, t_call, t_isi, t_len, t_con, t_item, t_all, t_any, y_t, y_n, y_a, y_o, y_c, s_skip, s_seq, w_nx, s_set, w_set, s_put, w_put, w_put2, s_unp, w_unp, w_unpQ, w_ts0, w_tsn, w_tsi, w_ti, w_ts, s_par, w_par, w_par2, w_par3, w_par4, s_ex, w_ex, s_iff, w_if, s_whl, s_retv, q_rim, q_row, s_retpr, s_rettup, s_retlst, s_retcon, s_retcall, s_retnot, s_retand, s_retor, s_retite, s_retlc, w_ret, startE, bind_rt, bind_sexn, bind_bk, bind_ct, lift_some, go1_some, ob_some, om_some, Vm.cmpD, ordD, putI, outsE, contS, add_ii, subD, negD, absD, maxD, minD, lensD, len_l, len_t, truD, boolOf, intOf, ioIx, wb, isiD, isTy, toIntD, toListD, toTupleD, itemsOf, List.length_cons, List.length_nil, Int.reduceToNat, it0, it1, it2, it3, it4, it5, it6, ta0, ta1, ta2, eqL2, noneL1, isBL1, inL_l, inL_t, isNo_n, isNo_i, isNo_t, isNo_q, eqI, eqQ, eqSS, eq_self, decide_eq_true_eq, cut_a, cut_b, slc_l, slc_t, List.nil_append, List.cons_append, List.append_nil, List.getElem?_cons_zero, List.getElem?_cons_succ, List.set_cons_zero, List.set_cons_succ, List.set_nil, Option.isSome_some, if_true, if_false, reduceIte, reduceCtorEq, Nat.reduceSub, Nat.reduceAdd, Nat.reduceLT, decide_true, decide_false, Bool.not_true, Bool.not_false, Bool.false_eq_true, Nat.reduceEqDiff, List.nodup_nil, List.nodup_cons, List.not_mem_nil, not_false_eq_true, true_and, and_true, and_self, x_lc, z_lc2, q_lc, mw0, mw1, qW_un, qW_im, wp0, wp1, bk0, bk1, gd0, gd1, x_ofv, kWk_l, kWk_t, x_ofcall, x_ofcallT, x_ofpr, x_oftup, x_oflst, x_oflc, x_ofcon, z_of, walk_l, walk_t, x_rng1, x_rng2, z_rng2a, x_enum, x_enum2, x_zip, x_zip3, z_en, z_zp, z_zp3, s_frr, w_fr, ul_nx, ul_rt, ul0, lk0, ul1, lk1, x_lkS, x_ulS, qLk_ow, qLk_io, qUl_ow, qUl_io, srcs_ofv, srcs_ofcall, srcs_ofcallT, srcs_ofpr, srcs_oftup, srcs_oflst, srcs_oflc, srcs_ofcon, srcs_r1, srcs_r2, srcs_en, srcs_en2, srcs_zp, srcs_zp3, rv_nil, rv_var, rv_call, rv_pr, rv_con, rv_lc, rv_tup, rv_lst, fi0, fi1, g_nm, g_tp, g_nl, g_cn, w_kM, x_kM, x_lm, mOw_q, mIo_q, o_rev, o_clr, x_lcT, qT1_some, z_T2, z_T3, x_frT, qF1_some, sS_sl, qW_sl, sl_some, z_lm, q_lm, Bool.and_true, Bool.true_and, Bool.and_false, Bool.false_and, Bool.or_true, Bool.true_or, Bool.or_false, Bool.false_or, revD, pr_add, pr_sub, pr_mul, pr_fdiv, pr_mod, pr_pow, pr_neg, pr_item, pr_len, pr_abs, pr_max, pr_min, pr_toInt, pr_toList, pr_toTuple, pr_sum, pr_sorted, pr_repr, pr_all, pr_any, pr_divmod, pr_isi, pr_cmp, pr_cut, pr_rev, pr_lrg, pr_trg, sz0, sz1, sz2, sz3, sz4, sz5, sz6, sz7, sz8, sz9, sz10, sz11, sz12]) (by have := sizeLine_big; have := gfirst_len row; rw [List.length_take]; omega)
      have e1 : ((gfirst row).take (k + 1)).map (fun i => frQ (row.getD i 0)) = (((gfirst row).take (k + 1)).map fun i => row.getD i 0).map frQ := by rw [List.map_map]; rfl
      rw [e1] at lc
      have hT : ∀ q ∈ ((gfirst row).take (k + 1)).map fun i => row.getD i 0, bq q ≤ 796 := fun q hq => by
        obtain ⟨i, hi, rfl⟩ := List.mem_map.mp hq
        exact getD_bq hk (gfirst_lt (List.mem_of_mem_take hi))
      have lT : (((gfirst row).take (k + 1)).map fun i => row.getD i 0).length ≤ 6 := by
        rw [List.length_map, List.length_take]
        omega
      have b1 := bq_sum hT
      generalize (((gfirst row).take (k + 1)).map fun i => row.getD i 0) = T at *
      have hz : (796 + 1) * (T.length + 1) ≤ (796 + 1) * 7 := Nat.mul_le_mul_left _ (by omega)
      have hz2 : (796 + 1) * T.length ≤ (796 + 1) * 6 := Nat.mul_le_mul_left _ lT
      have hs := S_sum hT (by omega)
      have ck := cutk (l := gfirst row) (k := k + 1)
      rw [show ((k + 1 : Nat) : Int) = 1 + (k : Int) by omega] at ck
      generalize T.sum = q at *
      have bn := bq_num q
      have bd := bq_den q
      have bk : bl (1 + (k : Int)) ≤ 4 := bl_le 4 (by omega) (by omega)
      have bm : bl ((row.length : Int) - (1 + (k : Int))) ≤ 4 := bl_le 4 (by omega) (by omega)
      have m1 := bl_mul q.den (1 + (k : Int))
      have m2 := bl_mul ((q.den : Int) * (1 + (k : Int))) ((row.length : Int) - (1 + (k : Int)))
      have pos : 0 < (q.den : Int) * (1 + (k : Int)) * ((row.length : Int) - (1 + (k : Int))) := Int.mul_pos (Int.mul_pos (den_pos q) (by omega)) (by omega)
      have m3 := bl_mul 2 q.num
      have b2 : bl 2 ≤ 2 := by decide
      have b11 : bl 1 ≤ 1 := by decide
      have o1' := o_mul (i := (q.den : Int)) (j := 1 + (k : Int)) (by omega)
      have o2' := o_mul (i := (q.den : Int) * (1 + (k : Int))) (j := (row.length : Int) - (1 + (k : Int))) (by omega)
      have o3' := o_mul (i := 2) (j := q.num) (by omega)
      generalize hby : (q.den : Int) * (1 + (k : Int)) * ((row.length : Int) - (1 + (k : Int))) = by_ at *
      have m4 := bl_add (2 * q.num) by_
      have m5 := bl_sub (2 * q.num + by_) 1
      have m6 := bl_ediv (2 * q.num + by_ - 1) pos
      have o4' := o_fdiv (i := 2 * q.num + by_ - 1) pos (by omega)
      refine ⟨(if (2 * q.num + by_ - 1) / by_ > w then (2 * q.num + by_ - 1) / by_ else w, some (.int (1 + (k : Int))), some (.int q.num), some (.int q.den), some (.int by_)), .inl ?_, fun j hj => h1 j (List.mem_cons_of_mem _ hj), ?_⟩
      · have ln : (row.map frQ).length = row.length := List.length_map _
        simp only [fb__law_weight_0, io__law_sum, ck, lc, hs, ln, o1', o2', o3', o4', x_runF, q_nx, q_rt, rep0, rep1, x_var, qV_im, qV_ow, x_rdS, sD_im, sD_ow, sD_io, sD_lk, x_canLk, sC_ow, sC_io, sC_im, sC_lk, sC_un, x_stSf, x_stSt, sS_un, sS_im, sS_ow, x_chS, sG_ow, sG_io, mOw_some, mIo_some, x_con, x_tup, x_lst, z_tup, z_lst, x_pr, z_pr, x_not, z_not, x_and, x_or, z_and, z_or, x_ite, z_ite, x_call, z_call, q_ok, lift2_some, x_callT, z_callT, q_okT, x_Anil, x_Bnil, x_Cnil, x_Acons, z_A, z_B, z_C, z_cons, x_Bvar, tB_some, z_var, x_Bpr, x_Bcon, x_Btup, x_Blst, x_Bcall, x_BcallT, x_Bnot, x_Bite, x_Blc, x_Cval, x_Cvar, tC_true, z_varC, t_not, t_and, t_or, t_cmp, t_var, t_call, t_isi, t_len, t_con, t_item, t_all, t_any, y_t, y_n, y_a, y_o, y_c, s_skip, s_seq, w_nx, s_set, w_set, s_put, w_put, w_put2, s_unp, w_unp, w_unpQ, w_ts0, w_tsn, w_tsi, w_ti, w_ts, s_par, w_par, w_par2, w_par3, w_par4, s_ex, w_ex, s_iff, w_if, s_whl, s_retv, q_rim, q_row, s_retpr, s_rettup, s_retlst, s_retcon, s_retcall, s_retnot, s_retand, s_retor, s_retite, s_retlc, w_ret, startE, bind_rt, bind_sexn, bind_bk, bind_ct, lift_some, go1_some, ob_some, om_some, Vm.cmpD, ordD, putI, outsE, contS, add_ii, subD, negD, absD, maxD, minD, lensD, len_l, len_t, truD, boolOf, intOf, ioIx, wb, isiD, isTy, toIntD, toListD, toTupleD, itemsOf, List.length_cons, List.length_nil, Int.reduceToNat, it0, it1, it2, it3, it4, it5, it6, ta0, ta1, ta2, eqL2, noneL1, isBL1, inL_l, inL_t, isNo_n, isNo_i, isNo_t, isNo_q, eqI, eqQ, eqSS, eq_self, decide_eq_true_eq, cut_a, cut_b, slc_l, slc_t, List.nil_append, List.cons_append, List.append_nil, List.getElem?_cons_zero, List.getElem?_cons_succ, List.set_cons_zero, List.set_cons_succ, List.set_nil, Option.isSome_some, if_true, if_false, reduceIte, reduceCtorEq, Nat.reduceSub, Nat.reduceAdd, Nat.reduceLT, decide_true, decide_false, Bool.not_true, Bool.not_false, Bool.false_eq_true, Nat.reduceEqDiff, List.nodup_nil, List.nodup_cons, List.not_mem_nil, not_false_eq_true, true_and, and_true, and_self, x_lc, z_lc2, q_lc, mw0, mw1, qW_un, qW_im, wp0, wp1, bk0, bk1, gd0, gd1, x_ofv, kWk_l, kWk_t, x_ofcall, x_ofcallT, x_ofpr, x_oftup, x_oflst, x_oflc, x_ofcon, z_of, walk_l, walk_t, x_rng1, x_rng2, z_rng2a, x_enum, x_enum2, x_zip, x_zip3, z_en, z_zp, z_zp3, s_frr, w_fr, ul_nx, ul_rt, ul0, lk0, ul1, lk1, x_lkS, x_ulS, qLk_ow, qLk_io, qUl_ow, qUl_io, srcs_ofv, srcs_ofcall, srcs_ofcallT, srcs_ofpr, srcs_oftup, srcs_oflst, srcs_oflc, srcs_ofcon, srcs_r1, srcs_r2, srcs_en, srcs_en2, srcs_zp, srcs_zp3, rv_nil, rv_var, rv_call, rv_pr, rv_con, rv_lc, rv_tup, rv_lst, fi0, fi1, g_nm, g_tp, g_nl, g_cn, w_kM, x_kM, x_lm, mOw_q, mIo_q, o_rev, o_clr, x_lcT, qT1_some, z_T2, z_T3, x_frT, qF1_some, sS_sl, qW_sl, sl_some, z_lm, q_lm, Bool.and_true, Bool.true_and, Bool.and_false, Bool.false_and, Bool.or_true, Bool.true_or, Bool.or_false, Bool.false_or, revD, pr_add, pr_sub, pr_mul, pr_fdiv, pr_mod, pr_pow, pr_neg, pr_item, pr_len, pr_abs, pr_max, pr_min, pr_toInt, pr_toList, pr_toTuple, pr_sum, pr_sorted, pr_repr, pr_all, pr_any, pr_divmod, pr_isi, pr_cmp, pr_cut, pr_rev, pr_lrg, pr_trg, sz0, sz1, sz2, sz3, sz4, sz5, sz6, sz7, sz8, sz9, sz10, sz11, sz12]
      · show bl (if _ then _ else _) ≤ 6400
        split
        · omega
        · exact h2) ⟨fun k hk => by have := List.mem_range.mp hk; omega, Nat.le_trans (show bl 1 ≤ 1 by decide) (by decide)⟩
  obtain ⟨w, o1, o2, o3, o4⟩ := a'
  refine ⟨w, ?_, f2.2⟩
  have er : rngD 1 ((row.length : Int) - 1).toNat = (List.range (row.length - 1)).map fun (k : Nat) => (PyData.int (1 + (k : Int)) : D) := by
    unfold rngD
    rw [show ((row.length : Int) - 1).toNat = row.length - 1 by omega]
  have z2 := z_rng2 (i := 1) (j := (row.length : Int)) (f := false) (g := false) (e := [.io (.list (row.map frQ)), .im (.int 1), .ow (.list ((gfirst row).map nI)), .un, .un, .un, .un, .un]) ir1 ir
  rw [er] at z2
  have f1 : frL (.nm 3) (evS fb__law_weight_0) ((List.range (row.length - 1)).map fun (k : Nat) => (PyData.int (1 + (k : Int)) : D)) [.io (.list (row.map frQ)), .im (.int 1), .ow (.list ((gfirst row).map nI)), .un, .un, .un, .un, .un] = .nx [.io (.list (row.map frQ)), .im (.int w), .ow (.list ((gfirst row).map nI)), sl o1, sl o2, sl o3, sl o4, .un] := f1
  have ln : (row.map frQ).length = row.length := List.length_map _
  simp only [m__law_weight, b__law_weight, io__law_first, gf, ln, z2, f1, x_runF, q_nx, q_rt, rep0, rep1, x_var, qV_im, qV_ow, x_rdS, sD_im, sD_ow, sD_io, sD_lk, x_canLk, sC_ow, sC_io, sC_im, sC_lk, sC_un, x_stSf, x_stSt, sS_un, sS_im, sS_ow, x_chS, sG_ow, sG_io, mOw_some, mIo_some, x_con, x_tup, x_lst, z_tup, z_lst, x_pr, z_pr, x_not, z_not, x_and, x_or, z_and, z_or, x_ite, z_ite, x_call, z_call, q_ok, lift2_some, x_callT, z_callT, q_okT, x_Anil, x_Bnil, x_Cnil, x_Acons, z_A, z_B, z_C, z_cons, x_Bvar, tB_some, z_var, x_Bpr, x_Bcon, x_Btup, x_Blst, x_Bcall, x_BcallT, x_Bnot, x_Bite, x_Blc, x_Cval, x_Cvar, tC_true, z_varC, t_not, t_and, t_or, t_cmp, t_var, t_call, t_isi, t_len, t_con, t_item, t_all, t_any, y_t, y_n, y_a, y_o, y_c, s_skip, s_seq, w_nx, s_set, w_set, s_put, w_put, w_put2, s_unp, w_unp, w_unpQ, w_ts0, w_tsn, w_tsi, w_ti, w_ts, s_par, w_par, w_par2, w_par3, w_par4, s_ex, w_ex, s_iff, w_if, s_whl, s_retv, q_rim, q_row, s_retpr, s_rettup, s_retlst, s_retcon, s_retcall, s_retnot, s_retand, s_retor, s_retite, s_retlc, w_ret, startE, bind_rt, bind_sexn, bind_bk, bind_ct, lift_some, go1_some, ob_some, om_some, Vm.cmpD, ordD, putI, outsE, contS, add_ii, subD, negD, absD, maxD, minD, lensD, len_l, len_t, truD, boolOf, intOf, ioIx, wb, isiD, isTy, toIntD, toListD, toTupleD, itemsOf, List.length_cons, List.length_nil, Int.reduceToNat, it0, it1, it2, it3, it4, it5, it6, ta0, ta1, ta2, eqL2, noneL1, isBL1, inL_l, inL_t, isNo_n, isNo_i, isNo_t, isNo_q, eqI, eqQ, eqSS, eq_self, decide_eq_true_eq, cut_a, cut_b, slc_l, slc_t, List.nil_append, List.cons_append, List.append_nil, List.getElem?_cons_zero, List.getElem?_cons_succ, List.set_cons_zero, List.set_cons_succ, List.set_nil, Option.isSome_some, if_true, if_false, reduceIte, reduceCtorEq, Nat.reduceSub, Nat.reduceAdd, Nat.reduceLT, decide_true, decide_false, Bool.not_true, Bool.not_false, Bool.false_eq_true, Nat.reduceEqDiff, List.nodup_nil, List.nodup_cons, List.not_mem_nil, not_false_eq_true, true_and, and_true, and_self, x_lc, z_lc2, q_lc, mw0, mw1, qW_un, qW_im, wp0, wp1, bk0, bk1, gd0, gd1, x_ofv, kWk_l, kWk_t, x_ofcall, x_ofcallT, x_ofpr, x_oftup, x_oflst, x_oflc, x_ofcon, z_of, walk_l, walk_t, x_rng1, x_rng2, z_rng2a, x_enum, x_enum2, x_zip, x_zip3, z_en, z_zp, z_zp3, s_frr, w_fr, ul_nx, ul_rt, ul0, lk0, ul1, lk1, x_lkS, x_ulS, qLk_ow, qLk_io, qUl_ow, qUl_io, srcs_ofv, srcs_ofcall, srcs_ofcallT, srcs_ofpr, srcs_oftup, srcs_oflst, srcs_oflc, srcs_ofcon, srcs_r1, srcs_r2, srcs_en, srcs_en2, srcs_zp, srcs_zp3, rv_nil, rv_var, rv_call, rv_pr, rv_con, rv_lc, rv_tup, rv_lst, fi0, fi1, g_nm, g_tp, g_nl, g_cn, w_kM, x_kM, x_lm, mOw_q, mIo_q, o_rev, o_clr, x_lcT, qT1_some, z_T2, z_T3, x_frT, qF1_some, sS_sl, qW_sl, sl_some, z_lm, q_lm, Bool.and_true, Bool.true_and, Bool.and_false, Bool.false_and, Bool.or_true, Bool.true_or, Bool.or_false, Bool.false_or, revD, pr_add, pr_sub, pr_mul, pr_fdiv, pr_mod, pr_pow, pr_neg, pr_item, pr_len, pr_abs, pr_max, pr_min, pr_toInt, pr_toList, pr_toTuple, pr_sum, pr_sorted, pr_repr, pr_all, pr_any, pr_divmod, pr_isi, pr_cmp, pr_cut, pr_rev, pr_lrg, pr_trg, sz0, sz1, sz2, sz3, sz4, sz5, sz6, sz7, sz8, sz9, sz10, sz11, sz12]
def okS (w : Int) (row : List Rat) (s : List Nat) : Prop := (s.map fun i => row.getD i 0).sum ≤ Mo w row.length s.length ∧ -Mo w row.length s.length ≤ (s.map fun i => row.getD i 0).sum
theorem S_due {w : Int} {row : List Rat} (hk : ∀ q ∈ row, bq q ≤ 864) (hl : row.length ≤ 7) (hw : bl w ≤ 10000) : ∃ b : Bool, (b = true ↔ WithinR w row) ∧ m__law_due.run [.int w, .list (row.map frQ)] = .ok (.bool b) false [.list (row.map frQ)] := by
  have ln : (row.map frQ).length = row.length := List.length_map _
  have hz : (864 + 1) * (row.length + 1) ≤ (864 + 1) * 8 := Nat.mul_le_mul_left _ (by omega)
  have hs := S_sum hk (by omega)
  have ne0 : eqD (frQ row.sum) (.tuple [.int 0, .int 1]) = some (decide (row.sum = 0)) := eqQ (q := 0)
  by_cases h0 : row.sum = 0
  · rw [decide_eq_true h0] at ne0
    have sq := Q_sets (n := row.length) (by omega)
    have key : ∀ (l : List (List Nat)), (∀ s ∈ l, s ∈ sets row.length) → ∀ o2 o3 o4 : Option D,
        ((∀ s ∈ l, okS w row s) ∧ ∃ o5 o6 o7 : Option D, frL (.nm 2) (evS fb__law_due_0) (l.map lI) [.im (.int w), .io (.list (row.map frQ)), sl o2, sl o3, sl o4, .un] = .nx [.im (.int w), .io (.list (row.map frQ)), sl o5, sl o6, sl o7, .un]) ∨
        (¬ (∀ s ∈ l, okS w row s) ∧ ∃ o5 o6 o7 : Option D, frL (.nm 2) (evS fb__law_due_0) (l.map lI) [.im (.int w), .io (.list (row.map frQ)), sl o2, sl o3, sl o4, .un] = .rt (.bool false) false [.im (.int w), .io (.list (row.map frQ)), sl o5, sl o6, sl o7, .un]) := by
      intro l
      induction l with
      | nil => exact fun _ o2 o3 o4 => .inl ⟨by simp, o2, o3, o4, rfl⟩
      | cons s l ih =>
        intro hm o2 o3 o4
        obtain ⟨s1, s2⟩ := sets_mem (hm s List.mem_cons_self)
        have s3 := sets_slen (hm s List.mem_cons_self)
        have lc := lcL_m (vs := [5]) (t := .nm 5) (c := .con (.bool true)) (el := ce__law_due_1) (rep := nI) (g := fun i => frQ (row.getD i 0)) (xs := s) (e := [.im (.int w), .io (.list (row.map frQ)), .im (lI s), sl o3, sl o4, .un]) (fun i hi => by
          simp only [ce__law_due_1, nI, itemD_r (d := .list (row.map frQ)) rfl (s2 i hi), x_runF, q_nx, q_rt, rep0, rep1, x_var, qV_im, qV_ow, x_rdS, sD_im, sD_ow, sD_io, sD_lk, x_canLk, sC_ow, sC_io, sC_im, sC_lk, sC_un, x_stSf, x_stSt, sS_un, sS_im, sS_ow, x_chS, sG_ow, sG_io, mOw_some, mIo_some, x_con, x_tup, x_lst, z_tup, z_lst, x_pr, z_pr, x_not, z_not, x_and, x_or, z_and, z_or, x_ite, z_ite, x_call, z_call, q_ok, lift2_some, x_callT, z_callT, q_okT, x_Anil, x_Bnil, x_Cnil, x_Acons, z_A, z_B, z_C, z_cons, x_Bvar, tB_some, z_var, x_Bpr, x_Bcon, x_Btup, x_Blst, x_Bcall, x_BcallT, x_Bnot, x_Bite, x_Blc, x_Cval, x_Cvar, tC_true, z_varC, t_not, t_and, t_or, t_cmp, t_var, t_call, t_isi, t_len, t_con, t_item, t_all, t_any, y_t, y_n, y_a, y_o, y_c, s_skip, s_seq, w_nx, s_set, w_set, s_put, w_put, w_put2, s_unp, w_unp, w_unpQ, w_ts0, w_tsn, w_tsi, w_ti, w_ts, s_par, w_par, w_par2, w_par3, w_par4, s_ex, w_ex, s_iff, w_if, s_whl, s_retv, q_rim, q_row, s_retpr, s_rettup, s_retlst, s_retcon, s_retcall, s_retnot, s_retand, s_retor, s_retite, s_retlc, w_ret, startE, bind_rt, bind_sexn, bind_bk, bind_ct, lift_some, go1_some, ob_some, om_some, Vm.cmpD, ordD, putI, outsE, contS, add_ii, subD, negD, absD, maxD, minD, lensD, len_l, len_t, truD, boolOf, intOf, ioIx, wb, isiD, isTy, toIntD, toListD, toTupleD, itemsOf, List.length_cons, List.length_nil, Int.reduceToNat, it0, it1, it2, it3, it4, it5, it6, ta0, ta1, ta2, eqL2, noneL1, isBL1, inL_l, inL_t, isNo_n, isNo_i, isNo_t, isNo_q, eqI, eqQ, eqSS, eq_self, decide_eq_true_eq, cut_a, cut_b, slc_l, slc_t, List.nil_append, List.cons_append, List.append_nil, List.getElem?_cons_zero, List.getElem?_cons_succ, List.set_cons_zero, List.set_cons_succ, List.set_nil, Option.isSome_some, if_true, if_false, reduceIte, reduceCtorEq, Nat.reduceSub, Nat.reduceAdd, Nat.reduceLT, decide_true, decide_false, Bool.not_true, Bool.not_false, Bool.false_eq_true, Nat.reduceEqDiff, List.nodup_nil, List.nodup_cons, List.not_mem_nil, not_false_eq_true, true_and, and_true, and_self, x_lc, z_lc2, q_lc, mw0, mw1, qW_un, qW_im, wp0, wp1, bk0, bk1, gd0, gd1, x_ofv, kWk_l, kWk_t, x_ofcall, x_ofcallT, x_ofpr, x_oftup, x_oflst, x_oflc, x_ofcon, z_of, walk_l, walk_t, x_rng1, x_rng2, z_rng2a, x_enum, x_enum2, x_zip, x_zip3, z_en, z_zp, z_zp3, s_frr, w_fr, ul_nx, ul_rt, ul0, lk0, ul1, lk1, x_lkS, x_ulS, qLk_ow, qLk_io, qUl_ow, qUl_io, srcs_ofv, srcs_ofcall, srcs_ofcallT, srcs_ofpr, srcs_oftup, srcs_oflst, srcs_oflc, srcs_ofcon, srcs_r1, srcs_r2, srcs_en, srcs_en2, srcs_zp, srcs_zp3, rv_nil, rv_var, rv_call, rv_pr, rv_con, rv_lc, rv_tup, rv_lst, fi0, fi1, g_nm, g_tp, g_nl, g_cn, w_kM, x_kM, x_lm, mOw_q, mIo_q, o_rev, o_clr, x_lcT, qT1_some, z_T2, z_T3, x_frT, qF1_some, sS_sl, qW_sl, sl_some, z_lm, q_lm, Bool.and_true, Bool.true_and, Bool.and_false, Bool.false_and, Bool.or_true, Bool.true_or, Bool.or_false, Bool.false_or, revD, pr_add, pr_sub, pr_mul, pr_fdiv, pr_mod, pr_pow, pr_neg, pr_item, pr_len, pr_abs, pr_max, pr_min, pr_toInt, pr_toList, pr_toTuple, pr_sum, pr_sorted, pr_repr, pr_all, pr_any, pr_divmod, pr_isi, pr_cmp, pr_cut, pr_rev, pr_lrg, pr_trg, sz0, sz1, sz2, sz3, sz4, sz5, sz6, sz7, sz8, sz9, sz10, sz11, sz12]) (by have := sizeLine_big; omega)
        have e1 : s.map (fun i => frQ (row.getD i 0)) = (s.map fun i => row.getD i 0).map frQ := by rw [List.map_map]; rfl
        rw [e1] at lc
        have hT : ∀ q ∈ s.map fun i => row.getD i 0, bq q ≤ 864 := fun q hq => by
          obtain ⟨i, hi, rfl⟩ := List.mem_map.mp hq
          exact getD_bq hk (s2 i hi)
        have lT : (s.map fun i => row.getD i 0).length ≤ 7 := by rw [List.length_map]; omega
        have hz1 : (864 + 1) * ((s.map fun i => row.getD i 0).length + 1) ≤ (864 + 1) * 8 := Nat.mul_le_mul_left _ (by omega)
        have hz2 : (864 + 1) * (s.map fun i => row.getD i 0).length ≤ (864 + 1) * 7 := Nat.mul_le_mul_left _ (by omega)
        have hs := S_sum hT (by omega)
        have bs := bq_sum hT
        have b1 : bl (s.length : Int) ≤ 4 := bl_le 4 (by omega) (by omega)
        have b2 : bl ((row.length : Int) - (s.length : Int)) ≤ 4 := bl_le 4 (by omega) (by omega)
        have hq : m__law_most.run [.int w, .int (row.length : Int), .int (s.length : Int)] = .ok (frQ (Mo w row.length s.length)) false [] := Q_most (by omega)
        have bM := Mo_bq (w := w) (n := row.length) (k := s.length) (b := 20000) (by omega)
        have bM2 := bq_neg (Mo w row.length s.length)
        have iff0 : okS w row s ↔ (s.map fun i => row.getD i 0).sum ≤ Mo w row.length s.length ∧ -Mo w row.length s.length ≤ (s.map fun i => row.getD i 0).sum := Iff.rfl
        generalize (s.map fun i => row.getD i 0) = T at *
        generalize T.sum = t at *
        generalize Mo w row.length s.length = M at *
        have q1 := R_is_less (p := M) (q := t) (by omega)
        have q2 := R_is_less (p := t) (q := -M) (by omega)
        have fn := frQ_neg M
        have len : (s.map nI).length = s.length := List.length_map _
        by_cases z1 : M < t
        · rw [decide_eq_true z1] at q1
          refine .inr ⟨fun h => absurd (iff0.mp (h s List.mem_cons_self)).1 (by grind), some (lI s), some (frQ t), some (frQ M), ?_⟩
          have st : frT (.nm 2) fb__law_due_0 (lI s) [.im (.int w), .io (.list (row.map frQ)), sl o2, sl o3, sl o4, .un] = .rt (.bool false) false [.im (.int w), .io (.list (row.map frQ)), sl (some (lI s)), sl (some (frQ t)), sl (some (frQ M)), .un] := by
            unfold lI at *
            simp only [fb__law_due_0, io__law_sum, io__law_most, io_is_less, lc, hs, ln, len, hq, q1, x_runF, q_nx, q_rt, rep0, rep1, x_var, qV_im, qV_ow, x_rdS, sD_im, sD_ow, sD_io, sD_lk, x_canLk, sC_ow, sC_io, sC_im, sC_lk, sC_un, x_stSf, x_stSt, sS_un, sS_im, sS_ow, x_chS, sG_ow, sG_io, mOw_some, mIo_some, x_con, x_tup, x_lst, z_tup, z_lst, x_pr, z_pr, x_not, z_not, x_and, x_or, z_and, z_or, x_ite, z_ite, x_call, z_call, q_ok, lift2_some, x_callT, z_callT, q_okT, x_Anil, x_Bnil, x_Cnil, x_Acons, z_A, z_B, z_C, z_cons, x_Bvar, tB_some, z_var, x_Bpr, x_Bcon, x_Btup, x_Blst, x_Bcall, x_BcallT, x_Bnot, x_Bite, x_Blc, x_Cval, x_Cvar, tC_true, z_varC, t_not, t_and, t_or, t_cmp, t_var, t_call, t_isi, t_len, t_con, t_item, t_all, t_any, y_t, y_n, y_a, y_o, y_c, s_skip, s_seq, w_nx, s_set, w_set, s_put, w_put, w_put2, s_unp, w_unp, w_unpQ, w_ts0, w_tsn, w_tsi, w_ti, w_ts, s_par, w_par, w_par2, w_par3, w_par4, s_ex, w_ex, s_iff, w_if, s_whl, s_retv, q_rim, q_row, s_retpr, s_rettup, s_retlst, s_retcon, s_retcall, s_retnot, s_retand, s_retor, s_retite, s_retlc, w_ret, startE, bind_rt, bind_sexn, bind_bk, bind_ct, lift_some, go1_some, ob_some, om_some, Vm.cmpD, ordD, putI, outsE, contS, add_ii, subD, negD, absD, maxD, minD, lensD, len_l, len_t, truD, boolOf, intOf, ioIx, wb, isiD, isTy, toIntD, toListD, toTupleD, itemsOf, List.length_cons, List.length_nil, Int.reduceToNat, it0, it1, it2, it3, it4, it5, it6, ta0, ta1, ta2, eqL2, noneL1, isBL1, inL_l, inL_t, isNo_n, isNo_i, isNo_t, isNo_q, eqI, eqQ, eqSS, eq_self, decide_eq_true_eq, cut_a, cut_b, slc_l, slc_t, List.nil_append, List.cons_append, List.append_nil, List.getElem?_cons_zero, List.getElem?_cons_succ, List.set_cons_zero, List.set_cons_succ, List.set_nil, Option.isSome_some, if_true, if_false, reduceIte, reduceCtorEq, Nat.reduceSub, Nat.reduceAdd, Nat.reduceLT, decide_true, decide_false, Bool.not_true, Bool.not_false, Bool.false_eq_true, Nat.reduceEqDiff, List.nodup_nil, List.nodup_cons, List.not_mem_nil, not_false_eq_true, true_and, and_true, and_self, x_lc, z_lc2, q_lc, mw0, mw1, qW_un, qW_im, wp0, wp1, bk0, bk1, gd0, gd1, x_ofv, kWk_l, kWk_t, x_ofcall, x_ofcallT, x_ofpr, x_oftup, x_oflst, x_oflc, x_ofcon, z_of, walk_l, walk_t, x_rng1, x_rng2, z_rng2a, x_enum, x_enum2, x_zip, x_zip3, z_en, z_zp, z_zp3, s_frr, w_fr, ul_nx, ul_rt, ul0, lk0, ul1, lk1, x_lkS, x_ulS, qLk_ow, qLk_io, qUl_ow, qUl_io, srcs_ofv, srcs_ofcall, srcs_ofcallT, srcs_ofpr, srcs_oftup, srcs_oflst, srcs_oflc, srcs_ofcon, srcs_r1, srcs_r2, srcs_en, srcs_en2, srcs_zp, srcs_zp3, rv_nil, rv_var, rv_call, rv_pr, rv_con, rv_lc, rv_tup, rv_lst, fi0, fi1, g_nm, g_tp, g_nl, g_cn, w_kM, x_kM, x_lm, mOw_q, mIo_q, o_rev, o_clr, x_lcT, qT1_some, z_T2, z_T3, x_frT, qF1_some, sS_sl, qW_sl, sl_some, z_lm, q_lm, Bool.and_true, Bool.true_and, Bool.and_false, Bool.false_and, Bool.or_true, Bool.true_or, Bool.or_false, Bool.false_or, revD, pr_add, pr_sub, pr_mul, pr_fdiv, pr_mod, pr_pow, pr_neg, pr_item, pr_len, pr_abs, pr_max, pr_min, pr_toInt, pr_toList, pr_toTuple, pr_sum, pr_sorted, pr_repr, pr_all, pr_any, pr_divmod, pr_isi, pr_cmp, pr_cut, pr_rev, pr_lrg, pr_trg, sz0, sz1, sz2, sz3, sz4, sz5, sz6, sz7, sz8, sz9, sz10, sz11, sz12]
          rw [List.map_cons, frL_rt st]
        · rw [decide_eq_false z1] at q1
          by_cases z2 : t < -M
          · rw [decide_eq_true z2] at q2
            refine .inr ⟨fun h => absurd (iff0.mp (h s List.mem_cons_self)).2 (by grind), some (lI s), some (frQ t), some (frQ M), ?_⟩
            have st : frT (.nm 2) fb__law_due_0 (lI s) [.im (.int w), .io (.list (row.map frQ)), sl o2, sl o3, sl o4, .un] = .rt (.bool false) false [.im (.int w), .io (.list (row.map frQ)), sl (some (lI s)), sl (some (frQ t)), sl (some (frQ M)), .un] := by
              unfold lI at *
              simp only [fb__law_due_0, io__law_sum, io__law_most, io_is_less, lc, hs, ln, len, hq, q1, at0Q, at1Q, fn, q2, x_runF, q_nx, q_rt, rep0, rep1, x_var, qV_im, qV_ow, x_rdS, sD_im, sD_ow, sD_io, sD_lk, x_canLk, sC_ow, sC_io, sC_im, sC_lk, sC_un, x_stSf, x_stSt, sS_un, sS_im, sS_ow, x_chS, sG_ow, sG_io, mOw_some, mIo_some, x_con, x_tup, x_lst, z_tup, z_lst, x_pr, z_pr, x_not, z_not, x_and, x_or, z_and, z_or, x_ite, z_ite, x_call, z_call, q_ok, lift2_some, x_callT, z_callT, q_okT, x_Anil, x_Bnil, x_Cnil, x_Acons, z_A, z_B, z_C, z_cons, x_Bvar, tB_some, z_var, x_Bpr, x_Bcon, x_Btup, x_Blst, x_Bcall, x_BcallT, x_Bnot, x_Bite, x_Blc, x_Cval, x_Cvar, tC_true, z_varC, t_not, t_and, t_or, t_cmp, t_var, t_call, t_isi, t_len, t_con, t_item, t_all, t_any, y_t, y_n, y_a, y_o, y_c, s_skip, s_seq, w_nx, s_set, w_set, s_put, w_put, w_put2, s_unp, w_unp, w_unpQ, w_ts0, w_tsn, w_tsi, w_ti, w_ts, s_par, w_par, w_par2, w_par3, w_par4, s_ex, w_ex, s_iff, w_if, s_whl, s_retv, q_rim, q_row, s_retpr, s_rettup, s_retlst, s_retcon, s_retcall, s_retnot, s_retand, s_retor, s_retite, s_retlc, w_ret, startE, bind_rt, bind_sexn, bind_bk, bind_ct, lift_some, go1_some, ob_some, om_some, Vm.cmpD, ordD, putI, outsE, contS, add_ii, subD, negD, absD, maxD, minD, lensD, len_l, len_t, truD, boolOf, intOf, ioIx, wb, isiD, isTy, toIntD, toListD, toTupleD, itemsOf, List.length_cons, List.length_nil, Int.reduceToNat, it0, it1, it2, it3, it4, it5, it6, ta0, ta1, ta2, eqL2, noneL1, isBL1, inL_l, inL_t, isNo_n, isNo_i, isNo_t, isNo_q, eqI, eqQ, eqSS, eq_self, decide_eq_true_eq, cut_a, cut_b, slc_l, slc_t, List.nil_append, List.cons_append, List.append_nil, List.getElem?_cons_zero, List.getElem?_cons_succ, List.set_cons_zero, List.set_cons_succ, List.set_nil, Option.isSome_some, if_true, if_false, reduceIte, reduceCtorEq, Nat.reduceSub, Nat.reduceAdd, Nat.reduceLT, decide_true, decide_false, Bool.not_true, Bool.not_false, Bool.false_eq_true, Nat.reduceEqDiff, List.nodup_nil, List.nodup_cons, List.not_mem_nil, not_false_eq_true, true_and, and_true, and_self, x_lc, z_lc2, q_lc, mw0, mw1, qW_un, qW_im, wp0, wp1, bk0, bk1, gd0, gd1, x_ofv, kWk_l, kWk_t, x_ofcall, x_ofcallT, x_ofpr, x_oftup, x_oflst, x_oflc, x_ofcon, z_of, walk_l, walk_t, x_rng1, x_rng2, z_rng2a, x_enum, x_enum2, x_zip, x_zip3, z_en, z_zp, z_zp3, s_frr, w_fr, ul_nx, ul_rt, ul0, lk0, ul1, lk1, x_lkS, x_ulS, qLk_ow, qLk_io, qUl_ow, qUl_io, srcs_ofv, srcs_ofcall, srcs_ofcallT, srcs_ofpr, srcs_oftup, srcs_oflst, srcs_oflc, srcs_ofcon, srcs_r1, srcs_r2, srcs_en, srcs_en2, srcs_zp, srcs_zp3, rv_nil, rv_var, rv_call, rv_pr, rv_con, rv_lc, rv_tup, rv_lst, fi0, fi1, g_nm, g_tp, g_nl, g_cn, w_kM, x_kM, x_lm, mOw_q, mIo_q, o_rev, o_clr, x_lcT, qT1_some, z_T2, z_T3, x_frT, qF1_some, sS_sl, qW_sl, sl_some, z_lm, q_lm, Bool.and_true, Bool.true_and, Bool.and_false, Bool.false_and, Bool.or_true, Bool.true_or, Bool.or_false, Bool.false_or, revD, pr_add, pr_sub, pr_mul, pr_fdiv, pr_mod, pr_pow, pr_neg, pr_item, pr_len, pr_abs, pr_max, pr_min, pr_toInt, pr_toList, pr_toTuple, pr_sum, pr_sorted, pr_repr, pr_all, pr_any, pr_divmod, pr_isi, pr_cmp, pr_cut, pr_rev, pr_lrg, pr_trg, sz0, sz1, sz2, sz3, sz4, sz5, sz6, sz7, sz8, sz9, sz10, sz11, sz12]
            rw [List.map_cons, frL_rt st]
          · rw [decide_eq_false z2] at q2
            have st : frT (.nm 2) fb__law_due_0 (lI s) [.im (.int w), .io (.list (row.map frQ)), sl o2, sl o3, sl o4, .un] = .nx [.im (.int w), .io (.list (row.map frQ)), sl (some (lI s)), sl (some (frQ t)), sl (some (frQ M)), .un] := by
              unfold lI at *
              simp only [fb__law_due_0, io__law_sum, io__law_most, io_is_less, lc, hs, ln, len, hq, q1, at0Q, at1Q, fn, q2, x_runF, q_nx, q_rt, rep0, rep1, x_var, qV_im, qV_ow, x_rdS, sD_im, sD_ow, sD_io, sD_lk, x_canLk, sC_ow, sC_io, sC_im, sC_lk, sC_un, x_stSf, x_stSt, sS_un, sS_im, sS_ow, x_chS, sG_ow, sG_io, mOw_some, mIo_some, x_con, x_tup, x_lst, z_tup, z_lst, x_pr, z_pr, x_not, z_not, x_and, x_or, z_and, z_or, x_ite, z_ite, x_call, z_call, q_ok, lift2_some, x_callT, z_callT, q_okT, x_Anil, x_Bnil, x_Cnil, x_Acons, z_A, z_B, z_C, z_cons, x_Bvar, tB_some, z_var, x_Bpr, x_Bcon, x_Btup, x_Blst, x_Bcall, x_BcallT, x_Bnot, x_Bite, x_Blc, x_Cval, x_Cvar, tC_true, z_varC, t_not, t_and, t_or, t_cmp, t_var, t_call, t_isi, t_len, t_con, t_item, t_all, t_any, y_t, y_n, y_a, y_o, y_c, s_skip, s_seq, w_nx, s_set, w_set, s_put, w_put, w_put2, s_unp, w_unp, w_unpQ, w_ts0, w_tsn, w_tsi, w_ti, w_ts, s_par, w_par, w_par2, w_par3, w_par4, s_ex, w_ex, s_iff, w_if, s_whl, s_retv, q_rim, q_row, s_retpr, s_rettup, s_retlst, s_retcon, s_retcall, s_retnot, s_retand, s_retor, s_retite, s_retlc, w_ret, startE, bind_rt, bind_sexn, bind_bk, bind_ct, lift_some, go1_some, ob_some, om_some, Vm.cmpD, ordD, putI, outsE, contS, add_ii, subD, negD, absD, maxD, minD, lensD, len_l, len_t, truD, boolOf, intOf, ioIx, wb, isiD, isTy, toIntD, toListD, toTupleD, itemsOf, List.length_cons, List.length_nil, Int.reduceToNat, it0, it1, it2, it3, it4, it5, it6, ta0, ta1, ta2, eqL2, noneL1, isBL1, inL_l, inL_t, isNo_n, isNo_i, isNo_t, isNo_q, eqI, eqQ, eqSS, eq_self, decide_eq_true_eq, cut_a, cut_b, slc_l, slc_t, List.nil_append, List.cons_append, List.append_nil, List.getElem?_cons_zero, List.getElem?_cons_succ, List.set_cons_zero, List.set_cons_succ, List.set_nil, Option.isSome_some, if_true, if_false, reduceIte, reduceCtorEq, Nat.reduceSub, Nat.reduceAdd, Nat.reduceLT, decide_true, decide_false, Bool.not_true, Bool.not_false, Bool.false_eq_true, Nat.reduceEqDiff, List.nodup_nil, List.nodup_cons, List.not_mem_nil, not_false_eq_true, true_and, and_true, and_self, x_lc, z_lc2, q_lc, mw0, mw1, qW_un, qW_im, wp0, wp1, bk0, bk1, gd0, gd1, x_ofv, kWk_l, kWk_t, x_ofcall, x_ofcallT, x_ofpr, x_oftup, x_oflst, x_oflc, x_ofcon, z_of, walk_l, walk_t, x_rng1, x_rng2, z_rng2a, x_enum, x_enum2, x_zip, x_zip3, z_en, z_zp, z_zp3, s_frr, w_fr, ul_nx, ul_rt, ul0, lk0, ul1, lk1, x_lkS, x_ulS, qLk_ow, qLk_io, qUl_ow, qUl_io, srcs_ofv, srcs_ofcall, srcs_ofcallT, srcs_ofpr, srcs_oftup, srcs_oflst, srcs_oflc, srcs_ofcon, srcs_r1, srcs_r2, srcs_en, srcs_en2, srcs_zp, srcs_zp3, rv_nil, rv_var, rv_call, rv_pr, rv_con, rv_lc, rv_tup, rv_lst, fi0, fi1, g_nm, g_tp, g_nl, g_cn, w_kM, x_kM, x_lm, mOw_q, mIo_q, o_rev, o_clr, x_lcT, qT1_some, z_T2, z_T3, x_frT, qF1_some, sS_sl, qW_sl, sl_some, z_lm, q_lm, Bool.and_true, Bool.true_and, Bool.and_false, Bool.false_and, Bool.or_true, Bool.true_or, Bool.or_false, Bool.false_or, revD, pr_add, pr_sub, pr_mul, pr_fdiv, pr_mod, pr_pow, pr_neg, pr_item, pr_len, pr_abs, pr_max, pr_min, pr_toInt, pr_toList, pr_toTuple, pr_sum, pr_sorted, pr_repr, pr_all, pr_any, pr_divmod, pr_isi, pr_cmp, pr_cut, pr_rev, pr_lrg, pr_trg, sz0, sz1, sz2, sz3, sz4, sz5, sz6, sz7, sz8, sz9, sz10, sz11, sz12]
            have ok : okS w row s := iff0.mpr ⟨by grind, by grind⟩
            rw [List.map_cons, frL_nx (.inl st)]
            rcases ih (fun s hs => hm s (List.mem_cons_of_mem _ hs)) (some (lI s)) (some (frQ t)) (some (frQ M)) with ⟨h1, h2⟩ | ⟨h1, h2⟩
            · refine .inl ⟨fun u hu => ?_, h2⟩
              rcases List.mem_cons.mp hu with rfl | hu
              · exact ok
              · exact h1 u hu
            · exact .inr ⟨fun h => h1 fun u hu => h u (List.mem_cons_of_mem _ hu), h2⟩
    have key := key (sets row.length) (fun s h => h) none none none
    have key : ((∀ s ∈ sets row.length, okS w row s) ∧ ∃ o5 o6 o7 : Option D, frL (.nm 2) (evS fb__law_due_0) ((sets row.length).map lI) [.im (.int w), .io (.list (row.map frQ)), .un, .un, .un, .un] = .nx [.im (.int w), .io (.list (row.map frQ)), sl o5, sl o6, sl o7, .un]) ∨
        (¬ (∀ s ∈ sets row.length, okS w row s) ∧ ∃ o5 o6 o7 : Option D, frL (.nm 2) (evS fb__law_due_0) ((sets row.length).map lI) [.im (.int w), .io (.list (row.map frQ)), .un, .un, .un, .un] = .rt (.bool false) false [.im (.int w), .io (.list (row.map frQ)), sl o5, sl o6, sl o7, .un]) := key
    rcases key with ⟨h1, o5, o6, o7, h2⟩ | ⟨h1, o5, o6, o7, h2⟩
    · refine ⟨true, ⟨fun _ => within_sets.mpr ⟨h0, h1⟩, fun _ => rfl⟩, ?_⟩
      simp only [m__law_due, b__law_due, io__law_sum, io__law_sets, hs, ne0, ln, sq, h2, x_runF, q_nx, q_rt, rep0, rep1, x_var, qV_im, qV_ow, x_rdS, sD_im, sD_ow, sD_io, sD_lk, x_canLk, sC_ow, sC_io, sC_im, sC_lk, sC_un, x_stSf, x_stSt, sS_un, sS_im, sS_ow, x_chS, sG_ow, sG_io, mOw_some, mIo_some, x_con, x_tup, x_lst, z_tup, z_lst, x_pr, z_pr, x_not, z_not, x_and, x_or, z_and, z_or, x_ite, z_ite, x_call, z_call, q_ok, lift2_some, x_callT, z_callT, q_okT, x_Anil, x_Bnil, x_Cnil, x_Acons, z_A, z_B, z_C, z_cons, x_Bvar, tB_some, z_var, x_Bpr, x_Bcon, x_Btup, x_Blst, x_Bcall, x_BcallT, x_Bnot, x_Bite, x_Blc, x_Cval, x_Cvar, tC_true, z_varC, t_not, t_and, t_or, t_cmp, t_var, t_call, t_isi, t_len, t_con, t_item, t_all, t_any, y_t, y_n, y_a, y_o, y_c, s_skip, s_seq, w_nx, s_set, w_set, s_put, w_put, w_put2, s_unp, w_unp, w_unpQ, w_ts0, w_tsn, w_tsi, w_ti, w_ts, s_par, w_par, w_par2, w_par3, w_par4, s_ex, w_ex, s_iff, w_if, s_whl, s_retv, q_rim, q_row, s_retpr, s_rettup, s_retlst, s_retcon, s_retcall, s_retnot, s_retand, s_retor, s_retite, s_retlc, w_ret, startE, bind_rt, bind_sexn, bind_bk, bind_ct, lift_some, go1_some, ob_some, om_some, Vm.cmpD, ordD, putI, outsE, contS, add_ii, subD, negD, absD, maxD, minD, lensD, len_l, len_t, truD, boolOf, intOf, ioIx, wb, isiD, isTy, toIntD, toListD, toTupleD, itemsOf, List.length_cons, List.length_nil, Int.reduceToNat, it0, it1, it2, it3, it4, it5, it6, ta0, ta1, ta2, eqL2, noneL1, isBL1, inL_l, inL_t, isNo_n, isNo_i, isNo_t, isNo_q, eqI, eqQ, eqSS, eq_self, decide_eq_true_eq, cut_a, cut_b, slc_l, slc_t, List.nil_append, List.cons_append, List.append_nil, List.getElem?_cons_zero, List.getElem?_cons_succ, List.set_cons_zero, List.set_cons_succ, List.set_nil, Option.isSome_some, if_true, if_false, reduceIte, reduceCtorEq, Nat.reduceSub, Nat.reduceAdd, Nat.reduceLT, decide_true, decide_false, Bool.not_true, Bool.not_false, Bool.false_eq_true, Nat.reduceEqDiff, List.nodup_nil, List.nodup_cons, List.not_mem_nil, not_false_eq_true, true_and, and_true, and_self, x_lc, z_lc2, q_lc, mw0, mw1, qW_un, qW_im, wp0, wp1, bk0, bk1, gd0, gd1, x_ofv, kWk_l, kWk_t, x_ofcall, x_ofcallT, x_ofpr, x_oftup, x_oflst, x_oflc, x_ofcon, z_of, walk_l, walk_t, x_rng1, x_rng2, z_rng2a, x_enum, x_enum2, x_zip, x_zip3, z_en, z_zp, z_zp3, s_frr, w_fr, ul_nx, ul_rt, ul0, lk0, ul1, lk1, x_lkS, x_ulS, qLk_ow, qLk_io, qUl_ow, qUl_io, srcs_ofv, srcs_ofcall, srcs_ofcallT, srcs_ofpr, srcs_oftup, srcs_oflst, srcs_oflc, srcs_ofcon, srcs_r1, srcs_r2, srcs_en, srcs_en2, srcs_zp, srcs_zp3, rv_nil, rv_var, rv_call, rv_pr, rv_con, rv_lc, rv_tup, rv_lst, fi0, fi1, g_nm, g_tp, g_nl, g_cn, w_kM, x_kM, x_lm, mOw_q, mIo_q, o_rev, o_clr, x_lcT, qT1_some, z_T2, z_T3, x_frT, qF1_some, sS_sl, qW_sl, sl_some, z_lm, q_lm, Bool.and_true, Bool.true_and, Bool.and_false, Bool.false_and, Bool.or_true, Bool.true_or, Bool.or_false, Bool.false_or, revD, pr_add, pr_sub, pr_mul, pr_fdiv, pr_mod, pr_pow, pr_neg, pr_item, pr_len, pr_abs, pr_max, pr_min, pr_toInt, pr_toList, pr_toTuple, pr_sum, pr_sorted, pr_repr, pr_all, pr_any, pr_divmod, pr_isi, pr_cmp, pr_cut, pr_rev, pr_lrg, pr_trg, sz0, sz1, sz2, sz3, sz4, sz5, sz6, sz7, sz8, sz9, sz10, sz11, sz12]
    · refine ⟨false, ⟨fun z => (by cases z), fun z => absurd (within_sets.mp z).2 h1⟩, ?_⟩
      simp only [m__law_due, b__law_due, io__law_sum, io__law_sets, hs, ne0, ln, sq, h2, x_runF, q_nx, q_rt, rep0, rep1, x_var, qV_im, qV_ow, x_rdS, sD_im, sD_ow, sD_io, sD_lk, x_canLk, sC_ow, sC_io, sC_im, sC_lk, sC_un, x_stSf, x_stSt, sS_un, sS_im, sS_ow, x_chS, sG_ow, sG_io, mOw_some, mIo_some, x_con, x_tup, x_lst, z_tup, z_lst, x_pr, z_pr, x_not, z_not, x_and, x_or, z_and, z_or, x_ite, z_ite, x_call, z_call, q_ok, lift2_some, x_callT, z_callT, q_okT, x_Anil, x_Bnil, x_Cnil, x_Acons, z_A, z_B, z_C, z_cons, x_Bvar, tB_some, z_var, x_Bpr, x_Bcon, x_Btup, x_Blst, x_Bcall, x_BcallT, x_Bnot, x_Bite, x_Blc, x_Cval, x_Cvar, tC_true, z_varC, t_not, t_and, t_or, t_cmp, t_var, t_call, t_isi, t_len, t_con, t_item, t_all, t_any, y_t, y_n, y_a, y_o, y_c, s_skip, s_seq, w_nx, s_set, w_set, s_put, w_put, w_put2, s_unp, w_unp, w_unpQ, w_ts0, w_tsn, w_tsi, w_ti, w_ts, s_par, w_par, w_par2, w_par3, w_par4, s_ex, w_ex, s_iff, w_if, s_whl, s_retv, q_rim, q_row, s_retpr, s_rettup, s_retlst, s_retcon, s_retcall, s_retnot, s_retand, s_retor, s_retite, s_retlc, w_ret, startE, bind_rt, bind_sexn, bind_bk, bind_ct, lift_some, go1_some, ob_some, om_some, Vm.cmpD, ordD, putI, outsE, contS, add_ii, subD, negD, absD, maxD, minD, lensD, len_l, len_t, truD, boolOf, intOf, ioIx, wb, isiD, isTy, toIntD, toListD, toTupleD, itemsOf, List.length_cons, List.length_nil, Int.reduceToNat, it0, it1, it2, it3, it4, it5, it6, ta0, ta1, ta2, eqL2, noneL1, isBL1, inL_l, inL_t, isNo_n, isNo_i, isNo_t, isNo_q, eqI, eqQ, eqSS, eq_self, decide_eq_true_eq, cut_a, cut_b, slc_l, slc_t, List.nil_append, List.cons_append, List.append_nil, List.getElem?_cons_zero, List.getElem?_cons_succ, List.set_cons_zero, List.set_cons_succ, List.set_nil, Option.isSome_some, if_true, if_false, reduceIte, reduceCtorEq, Nat.reduceSub, Nat.reduceAdd, Nat.reduceLT, decide_true, decide_false, Bool.not_true, Bool.not_false, Bool.false_eq_true, Nat.reduceEqDiff, List.nodup_nil, List.nodup_cons, List.not_mem_nil, not_false_eq_true, true_and, and_true, and_self, x_lc, z_lc2, q_lc, mw0, mw1, qW_un, qW_im, wp0, wp1, bk0, bk1, gd0, gd1, x_ofv, kWk_l, kWk_t, x_ofcall, x_ofcallT, x_ofpr, x_oftup, x_oflst, x_oflc, x_ofcon, z_of, walk_l, walk_t, x_rng1, x_rng2, z_rng2a, x_enum, x_enum2, x_zip, x_zip3, z_en, z_zp, z_zp3, s_frr, w_fr, ul_nx, ul_rt, ul0, lk0, ul1, lk1, x_lkS, x_ulS, qLk_ow, qLk_io, qUl_ow, qUl_io, srcs_ofv, srcs_ofcall, srcs_ofcallT, srcs_ofpr, srcs_oftup, srcs_oflst, srcs_oflc, srcs_ofcon, srcs_r1, srcs_r2, srcs_en, srcs_en2, srcs_zp, srcs_zp3, rv_nil, rv_var, rv_call, rv_pr, rv_con, rv_lc, rv_tup, rv_lst, fi0, fi1, g_nm, g_tp, g_nl, g_cn, w_kM, x_kM, x_lm, mOw_q, mIo_q, o_rev, o_clr, x_lcT, qT1_some, z_T2, z_T3, x_frT, qF1_some, sS_sl, qW_sl, sl_some, z_lm, q_lm, Bool.and_true, Bool.true_and, Bool.and_false, Bool.false_and, Bool.or_true, Bool.true_or, Bool.or_false, Bool.false_or, revD, pr_add, pr_sub, pr_mul, pr_fdiv, pr_mod, pr_pow, pr_neg, pr_item, pr_len, pr_abs, pr_max, pr_min, pr_toInt, pr_toList, pr_toTuple, pr_sum, pr_sorted, pr_repr, pr_all, pr_any, pr_divmod, pr_isi, pr_cmp, pr_cut, pr_rev, pr_lrg, pr_trg, sz0, sz1, sz2, sz3, sz4, sz5, sz6, sz7, sz8, sz9, sz10, sz11, sz12]
  · rw [decide_eq_false h0] at ne0
    refine ⟨false, ⟨fun z => (by cases z), fun z => absurd z.1 h0⟩, ?_⟩
    simp only [m__law_due, b__law_due, io__law_sum, hs, ne0, x_runF, q_nx, q_rt, rep0, rep1, x_var, qV_im, qV_ow, x_rdS, sD_im, sD_ow, sD_io, sD_lk, x_canLk, sC_ow, sC_io, sC_im, sC_lk, sC_un, x_stSf, x_stSt, sS_un, sS_im, sS_ow, x_chS, sG_ow, sG_io, mOw_some, mIo_some, x_con, x_tup, x_lst, z_tup, z_lst, x_pr, z_pr, x_not, z_not, x_and, x_or, z_and, z_or, x_ite, z_ite, x_call, z_call, q_ok, lift2_some, x_callT, z_callT, q_okT, x_Anil, x_Bnil, x_Cnil, x_Acons, z_A, z_B, z_C, z_cons, x_Bvar, tB_some, z_var, x_Bpr, x_Bcon, x_Btup, x_Blst, x_Bcall, x_BcallT, x_Bnot, x_Bite, x_Blc, x_Cval, x_Cvar, tC_true, z_varC, t_not, t_and, t_or, t_cmp, t_var, t_call, t_isi, t_len, t_con, t_item, t_all, t_any, y_t, y_n, y_a, y_o, y_c, s_skip, s_seq, w_nx, s_set, w_set, s_put, w_put, w_put2, s_unp, w_unp, w_unpQ, w_ts0, w_tsn, w_tsi, w_ti, w_ts, s_par, w_par, w_par2, w_par3, w_par4, s_ex, w_ex, s_iff, w_if, s_whl, s_retv, q_rim, q_row, s_retpr, s_rettup, s_retlst, s_retcon, s_retcall, s_retnot, s_retand, s_retor, s_retite, s_retlc, w_ret, startE, bind_rt, bind_sexn, bind_bk, bind_ct, lift_some, go1_some, ob_some, om_some, Vm.cmpD, ordD, putI, outsE, contS, add_ii, subD, negD, absD, maxD, minD, lensD, len_l, len_t, truD, boolOf, intOf, ioIx, wb, isiD, isTy, toIntD, toListD, toTupleD, itemsOf, List.length_cons, List.length_nil, Int.reduceToNat, it0, it1, it2, it3, it4, it5, it6, ta0, ta1, ta2, eqL2, noneL1, isBL1, inL_l, inL_t, isNo_n, isNo_i, isNo_t, isNo_q, eqI, eqQ, eqSS, eq_self, decide_eq_true_eq, cut_a, cut_b, slc_l, slc_t, List.nil_append, List.cons_append, List.append_nil, List.getElem?_cons_zero, List.getElem?_cons_succ, List.set_cons_zero, List.set_cons_succ, List.set_nil, Option.isSome_some, if_true, if_false, reduceIte, reduceCtorEq, Nat.reduceSub, Nat.reduceAdd, Nat.reduceLT, decide_true, decide_false, Bool.not_true, Bool.not_false, Bool.false_eq_true, Nat.reduceEqDiff, List.nodup_nil, List.nodup_cons, List.not_mem_nil, not_false_eq_true, true_and, and_true, and_self, x_lc, z_lc2, q_lc, mw0, mw1, qW_un, qW_im, wp0, wp1, bk0, bk1, gd0, gd1, x_ofv, kWk_l, kWk_t, x_ofcall, x_ofcallT, x_ofpr, x_oftup, x_oflst, x_oflc, x_ofcon, z_of, walk_l, walk_t, x_rng1, x_rng2, z_rng2a, x_enum, x_enum2, x_zip, x_zip3, z_en, z_zp, z_zp3, s_frr, w_fr, ul_nx, ul_rt, ul0, lk0, ul1, lk1, x_lkS, x_ulS, qLk_ow, qLk_io, qUl_ow, qUl_io, srcs_ofv, srcs_ofcall, srcs_ofcallT, srcs_ofpr, srcs_oftup, srcs_oflst, srcs_oflc, srcs_ofcon, srcs_r1, srcs_r2, srcs_en, srcs_en2, srcs_zp, srcs_zp3, rv_nil, rv_var, rv_call, rv_pr, rv_con, rv_lc, rv_tup, rv_lst, fi0, fi1, g_nm, g_tp, g_nl, g_cn, w_kM, x_kM, x_lm, mOw_q, mIo_q, o_rev, o_clr, x_lcT, qT1_some, z_T2, z_T3, x_frT, qF1_some, sS_sl, qW_sl, sl_some, z_lm, q_lm, Bool.and_true, Bool.true_and, Bool.and_false, Bool.false_and, Bool.or_true, Bool.true_or, Bool.or_false, Bool.false_or, revD, pr_add, pr_sub, pr_mul, pr_fdiv, pr_mod, pr_pow, pr_neg, pr_item, pr_len, pr_abs, pr_max, pr_min, pr_toInt, pr_toList, pr_toTuple, pr_sum, pr_sorted, pr_repr, pr_all, pr_any, pr_divmod, pr_isi, pr_cmp, pr_cut, pr_rev, pr_lrg, pr_trg, sz0, sz1, sz2, sz3, sz4, sz5, sz6, sz7, sz8, sz9, sz10, sz11, sz12]
theorem map_erase {α β : Type} {f : α → β} : ∀ (l : List α) (j : Nat), (l.eraseIdx j).map f = (l.map f).eraseIdx j
  | [], _ => rfl
  | _ :: _, 0 => rfl
  | a :: l, j + 1 => by
    show f a :: (l.eraseIdx j).map f = f a :: (l.map f).eraseIdx j
    rw [map_erase l j]
theorem perm_erase {α : Type} : ∀ {l : List α} {j : Nat} (h : j < l.length), (l[j] :: l.eraseIdx j).Perm l
  | a :: l, 0, _ => .refl _
  | a :: l, j + 1, h => by
    have ih := perm_erase (l := l) (j := j) (by simpa using h)
    exact (List.Perm.swap a (l[j]'(by simpa using h)) (l.eraseIdx j)).trans (ih.cons a)
theorem S_turned (p : Pot) {row : List Rat} (hl : row.length ≤ 7) : ∃ (r2 : List Rat) (p' : Pot), m__law_turned.run [PD p, .list (row.map frQ)] = .ok (.tuple (r2.map frQ)) false [PD p', .list (row.map frQ)] ∧ r2.Perm row := by
  have ln : (row.map frQ).length = row.length := List.length_map _
  have ir : Vm.inR (row.length : Int) = true := by unfold Vm.inR; simp; omega
  obtain ⟨a', f1, f2⟩ := frL_st (t := .nm 4) (s := fb__law_turned_0) (rep := fun (k : Nat) => (PyData.int (k : Int) : D)) (fun (a : Pot × List Rat × List Rat × Option D) => [.io (PD a.1), .io (.list (row.map frQ)), .ow (.list (a.2.1.map frQ)), .ow (.list (a.2.2.1.map frQ)), sl a.2.2.2])
    (fun r a => a.2.1.length = r.length ∧ (a.2.2.1 ++ a.2.1).Perm row) (xs := List.range row.length) (a := (p, row, [], none)) (fun k r ⟨p, left, found, o⟩ ⟨h1, h2⟩ => by
      have h1 : left.length = r.length + 1 := h1
      have h2 : (found ++ left).Perm row := h2
      have hlen := h2.length_eq
      rw [List.length_append] at hlen
      obtain ⟨d1, p1, e1, l1, u1⟩ := R_digit p (n := ((left.length : Nat) : Int)) (by omega) (Nat.le_trans (bl_le 10 (by omega) (by omega)) (by decide))
      obtain ⟨j, rfl⟩ : ∃ j : Nat, d1 = (j : Int) := ⟨d1.toNat, by omega⟩
      have jl : j < left.length := by omega
      have lnl : (left.map frQ).length = left.length := List.length_map _
      have op := o_pop (xs := left.map frQ) (k := j) (by omega) (by omega)
      have oa := o_app (xs := found.map frQ) (d := (left.map frQ)[j]'(by omega)) (by have := sizeLine_big; rw [List.length_map]; omega)
      refine ⟨(p1, left.eraseIdx j, found ++ [left[j]], some (.int (k : Int))), .inl ?_, ?_, ?_⟩
      · have e2 : (left.eraseIdx j).map frQ = (left.map frQ).eraseIdx j := map_erase _ _
        have e3 : (found ++ [left[j]]).map frQ = found.map frQ ++ [(left.map frQ)[j]'(by omega)] := by simp
        simp only [e2, e3]
        simp only [fb__law_turned_0, io__law_digit, lnl, e1, op, oa, x_runF, q_nx, q_rt, rep0, rep1, x_var, qV_im, qV_ow, x_rdS, sD_im, sD_ow, sD_io, sD_lk, x_canLk, sC_ow, sC_io, sC_im, sC_lk, sC_un, x_stSf, x_stSt, sS_un, sS_im, sS_ow, x_chS, sG_ow, sG_io, mOw_some, mIo_some, x_con, x_tup, x_lst, z_tup, z_lst, x_pr, z_pr, x_not, z_not, x_and, x_or, z_and, z_or, x_ite, z_ite, x_call, z_call, q_ok, lift2_some, x_callT, z_callT, q_okT, x_Anil, x_Bnil, x_Cnil, x_Acons, z_A, z_B, z_C, z_cons, x_Bvar, tB_some, z_var, x_Bpr, x_Bcon, x_Btup, x_Blst, x_Bcall, x_BcallT, x_Bnot, x_Bite, x_Blc, x_Cval, x_Cvar, tC_true, z_varC, t_not, t_and, t_or, t_cmp, t_var, t_call, t_isi, t_len, t_con, t_item, t_all, t_any, y_t, y_n, y_a, y_o, y_c, s_skip, s_seq, w_nx, s_set, w_set, s_put, w_put, w_put2, s_unp, w_unp, w_unpQ, w_ts0, w_tsn, w_tsi, w_ti, w_ts, s_par, w_par, w_par2, w_par3, w_par4, s_ex, w_ex, s_iff, w_if, s_whl, s_retv, q_rim, q_row, s_retpr, s_rettup, s_retlst, s_retcon, s_retcall, s_retnot, s_retand, s_retor, s_retite, s_retlc, w_ret, startE, bind_rt, bind_sexn, bind_bk, bind_ct, lift_some, go1_some, ob_some, om_some, Vm.cmpD, ordD, putI, outsE, contS, add_ii, subD, negD, absD, maxD, minD, lensD, len_l, len_t, truD, boolOf, intOf, ioIx, wb, isiD, isTy, toIntD, toListD, toTupleD, itemsOf, List.length_cons, List.length_nil, Int.reduceToNat, it0, it1, it2, it3, it4, it5, it6, ta0, ta1, ta2, eqL2, noneL1, isBL1, inL_l, inL_t, isNo_n, isNo_i, isNo_t, isNo_q, eqI, eqQ, eqSS, eq_self, decide_eq_true_eq, cut_a, cut_b, slc_l, slc_t, List.nil_append, List.cons_append, List.append_nil, List.getElem?_cons_zero, List.getElem?_cons_succ, List.set_cons_zero, List.set_cons_succ, List.set_nil, Option.isSome_some, if_true, if_false, reduceIte, reduceCtorEq, Nat.reduceSub, Nat.reduceAdd, Nat.reduceLT, decide_true, decide_false, Bool.not_true, Bool.not_false, Bool.false_eq_true, Nat.reduceEqDiff, List.nodup_nil, List.nodup_cons, List.not_mem_nil, not_false_eq_true, true_and, and_true, and_self, x_lc, z_lc2, q_lc, mw0, mw1, qW_un, qW_im, wp0, wp1, bk0, bk1, gd0, gd1, x_ofv, kWk_l, kWk_t, x_ofcall, x_ofcallT, x_ofpr, x_oftup, x_oflst, x_oflc, x_ofcon, z_of, walk_l, walk_t, x_rng1, x_rng2, z_rng2a, x_enum, x_enum2, x_zip, x_zip3, z_en, z_zp, z_zp3, s_frr, w_fr, ul_nx, ul_rt, ul0, lk0, ul1, lk1, x_lkS, x_ulS, qLk_ow, qLk_io, qUl_ow, qUl_io, srcs_ofv, srcs_ofcall, srcs_ofcallT, srcs_ofpr, srcs_oftup, srcs_oflst, srcs_oflc, srcs_ofcon, srcs_r1, srcs_r2, srcs_en, srcs_en2, srcs_zp, srcs_zp3, rv_nil, rv_var, rv_call, rv_pr, rv_con, rv_lc, rv_tup, rv_lst, fi0, fi1, g_nm, g_tp, g_nl, g_cn, w_kM, x_kM, x_lm, mOw_q, mIo_q, o_rev, o_clr, x_lcT, qT1_some, z_T2, z_T3, x_frT, qF1_some, sS_sl, qW_sl, sl_some, z_lm, q_lm, Bool.and_true, Bool.true_and, Bool.and_false, Bool.false_and, Bool.or_true, Bool.true_or, Bool.or_false, Bool.false_or, revD, pr_add, pr_sub, pr_mul, pr_fdiv, pr_mod, pr_pow, pr_neg, pr_item, pr_len, pr_abs, pr_max, pr_min, pr_toInt, pr_toList, pr_toTuple, pr_sum, pr_sorted, pr_repr, pr_all, pr_any, pr_divmod, pr_isi, pr_cmp, pr_cut, pr_rev, pr_lrg, pr_trg, sz0, sz1, sz2, sz3, sz4, sz5, sz6, sz7, sz8, sz9, sz10, sz11, sz12]
      · show (left.eraseIdx j).length = _
        rw [List.length_eraseIdx_of_lt jl]
        omega
      · show (found ++ [left[j]] ++ left.eraseIdx j).Perm row
        rw [List.append_assoc, List.singleton_append]
        exact ((perm_erase jl).append_left found).trans h2) ⟨by simp, by simp⟩
  obtain ⟨p', left, found, o⟩ := a'
  obtain ⟨f2, f3⟩ := f2
  have f2 : left = [] := List.eq_nil_of_length_eq_zero f2
  have f3 : (found ++ left).Perm row := f3
  subst f2
  rw [List.append_nil] at f3
  refine ⟨found, p', ?_, f3⟩
  have f1 : frL (.nm 4) (evS fb__law_turned_0) ((List.range row.length).map fun (k : Nat) => (PyData.int (k : Int) : D)) [.io (PD p), .io (.list (row.map frQ)), .ow (.list (row.map frQ)), .ow (.list []), .un] = .nx [.io (PD p'), .io (.list (row.map frQ)), .ow (.list []), .ow (.list (found.map frQ)), sl o] := f1
  simp only [m__law_turned, b__law_turned, ln, z_rng1 ir, Int.toNat_natCast, rngD0, f1, x_runF, q_nx, q_rt, rep0, rep1, x_var, qV_im, qV_ow, x_rdS, sD_im, sD_ow, sD_io, sD_lk, x_canLk, sC_ow, sC_io, sC_im, sC_lk, sC_un, x_stSf, x_stSt, sS_un, sS_im, sS_ow, x_chS, sG_ow, sG_io, mOw_some, mIo_some, x_con, x_tup, x_lst, z_tup, z_lst, x_pr, z_pr, x_not, z_not, x_and, x_or, z_and, z_or, x_ite, z_ite, x_call, z_call, q_ok, lift2_some, x_callT, z_callT, q_okT, x_Anil, x_Bnil, x_Cnil, x_Acons, z_A, z_B, z_C, z_cons, x_Bvar, tB_some, z_var, x_Bpr, x_Bcon, x_Btup, x_Blst, x_Bcall, x_BcallT, x_Bnot, x_Bite, x_Blc, x_Cval, x_Cvar, tC_true, z_varC, t_not, t_and, t_or, t_cmp, t_var, t_call, t_isi, t_len, t_con, t_item, t_all, t_any, y_t, y_n, y_a, y_o, y_c, s_skip, s_seq, w_nx, s_set, w_set, s_put, w_put, w_put2, s_unp, w_unp, w_unpQ, w_ts0, w_tsn, w_tsi, w_ti, w_ts, s_par, w_par, w_par2, w_par3, w_par4, s_ex, w_ex, s_iff, w_if, s_whl, s_retv, q_rim, q_row, s_retpr, s_rettup, s_retlst, s_retcon, s_retcall, s_retnot, s_retand, s_retor, s_retite, s_retlc, w_ret, startE, bind_rt, bind_sexn, bind_bk, bind_ct, lift_some, go1_some, ob_some, om_some, Vm.cmpD, ordD, putI, outsE, contS, add_ii, subD, negD, absD, maxD, minD, lensD, len_l, len_t, truD, boolOf, intOf, ioIx, wb, isiD, isTy, toIntD, toListD, toTupleD, itemsOf, List.length_cons, List.length_nil, Int.reduceToNat, it0, it1, it2, it3, it4, it5, it6, ta0, ta1, ta2, eqL2, noneL1, isBL1, inL_l, inL_t, isNo_n, isNo_i, isNo_t, isNo_q, eqI, eqQ, eqSS, eq_self, decide_eq_true_eq, cut_a, cut_b, slc_l, slc_t, List.nil_append, List.cons_append, List.append_nil, List.getElem?_cons_zero, List.getElem?_cons_succ, List.set_cons_zero, List.set_cons_succ, List.set_nil, Option.isSome_some, if_true, if_false, reduceIte, reduceCtorEq, Nat.reduceSub, Nat.reduceAdd, Nat.reduceLT, decide_true, decide_false, Bool.not_true, Bool.not_false, Bool.false_eq_true, Nat.reduceEqDiff, List.nodup_nil, List.nodup_cons, List.not_mem_nil, not_false_eq_true, true_and, and_true, and_self, x_lc, z_lc2, q_lc, mw0, mw1, qW_un, qW_im, wp0, wp1, bk0, bk1, gd0, gd1, x_ofv, kWk_l, kWk_t, x_ofcall, x_ofcallT, x_ofpr, x_oftup, x_oflst, x_oflc, x_ofcon, z_of, walk_l, walk_t, x_rng1, x_rng2, z_rng2a, x_enum, x_enum2, x_zip, x_zip3, z_en, z_zp, z_zp3, s_frr, w_fr, ul_nx, ul_rt, ul0, lk0, ul1, lk1, x_lkS, x_ulS, qLk_ow, qLk_io, qUl_ow, qUl_io, srcs_ofv, srcs_ofcall, srcs_ofcallT, srcs_ofpr, srcs_oftup, srcs_oflst, srcs_oflc, srcs_ofcon, srcs_r1, srcs_r2, srcs_en, srcs_en2, srcs_zp, srcs_zp3, rv_nil, rv_var, rv_call, rv_pr, rv_con, rv_lc, rv_tup, rv_lst, fi0, fi1, g_nm, g_tp, g_nl, g_cn, w_kM, x_kM, x_lm, mOw_q, mIo_q, o_rev, o_clr, x_lcT, qT1_some, z_T2, z_T3, x_frT, qF1_some, sS_sl, qW_sl, sl_some, z_lm, q_lm, Bool.and_true, Bool.true_and, Bool.and_false, Bool.false_and, Bool.or_true, Bool.true_or, Bool.or_false, Bool.false_or, revD, pr_add, pr_sub, pr_mul, pr_fdiv, pr_mod, pr_pow, pr_neg, pr_item, pr_len, pr_abs, pr_max, pr_min, pr_toInt, pr_toList, pr_toTuple, pr_sum, pr_sorted, pr_repr, pr_all, pr_any, pr_divmod, pr_isi, pr_cmp, pr_cut, pr_rev, pr_lrg, pr_trg, sz0, sz1, sz2, sz3, sz4, sz5, sz6, sz7, sz8, sz9, sz10, sz11, sz12]
theorem itQ {qs : List Rat} {i : Int} (h0 : 0 ≤ i) (h1 : i < (qs.length : Int)) : ∃ v ∈ qs, itemD [.list (qs.map frQ), .int i] = some (frQ v, false) := by
  obtain ⟨k, rfl⟩ : ∃ k : Nat, i = (k : Int) := ⟨i.toNat, by omega⟩
  have hk : k < qs.length := by omega
  exact ⟨qs[k], List.getElem_mem hk, it_l (by rw [List.getElem?_map, List.getElem?_eq_getElem hk]; rfl)⟩
theorem S_more {i : Int} (h0 : 0 ≤ i) (h1 : i < 4) : ∃ v : Rat, bq v ≤ 67 ∧ itemD [.list [.tuple [.int 1, .int 1], .tuple [.int (-1), .int 1], .tuple [.int 1, .int 60], .tuple [.int (-1), .int (10 ^ 20)]], .int i] = some (frQ v, false) := by
  obtain ⟨v, h2, h3⟩ := itQ (qs := [1, -1, 1 / 60, -1 / 10 ^ 20]) h0 h1
  have e : ([1, -1, 1 / 60, -1 / 10 ^ 20] : List Rat).map frQ = [.tuple [.int 1, .int 1], .tuple [.int (-1), .int 1], .tuple [.int 1, .int 60], .tuple [.int (-1), .int (10 ^ 20)]] := by
    have a1 : (-1 : Rat).num = -1 ∧ (-1 : Rat).den = 1 := by decide +kernel
    have a2 : (1 / 60 : Rat).num = 1 ∧ (1 / 60 : Rat).den = 60 := by decide +kernel
    have a3 : (-1 / 10 ^ 20 : Rat).num = -1 ∧ ((-1 / 10 ^ 20 : Rat).den : Int) = 10 ^ 20 := by decide +kernel
    simp only [List.map_cons, List.map_nil, frQ, a1.1, a1.2, a2.1, a2.2, a3.1, a3.2]
    rfl
  rw [e] at h3
  refine ⟨v, ?_, h3⟩
  have : ∀ v ∈ ([1, -1, 1 / 60, -1 / 10 ^ 20] : List Rat), bq v ≤ 67 := by decide +kernel
  exact this v h2
theorem S_end (p : Pot) {w : Int} {row : List Rat} (hk : ∀ q ∈ row, bq q ≤ 864) (hl : row.length ≤ 7) (hw : bl w ≤ 10000) : ∃ (b : Bool) (r2 : List Rat) (p' : Pot), m__law_due.run [.int w, .list (row.map frQ)] = .ok (.bool b) false [.list (row.map frQ)] ∧ m__law_turned.run [PD p, .list (row.map frQ)] = .ok (.tuple (r2.map frQ)) false [PD p', .list (row.map frQ)] ∧
    ∀ (x y : Slot), ∃ o, frL (.nm 6) (evS fb__law_one_0) [.tuple (row.map frQ), .tuple (r2.map frQ), .tuple (row.map frQ).reverse] [.io (PD p'), .ow (.list (row.map frQ)), x, .im (.int w), y, .im (.bool b), .un, .un] = .nx [.io (PD p'), .ow (.list (row.map frQ)), x, .im (.int w), y, .im (.bool b), sl o, .im (.bool b)] := by
  obtain ⟨b, hb, h1⟩ := S_due hk hl hw
  obtain ⟨r2, p', h2, h3⟩ := S_turned p hl
  refine ⟨b, r2, p', h1, h2, fun x y => ⟨some (.tuple (row.map frQ).reverse), ?_⟩⟩
  have turn : ∀ (r : List Rat) (o o' : Option D), r.Perm row → frT (.nm 6) fb__law_one_0 (.tuple (r.map frQ)) [.io (PD p'), .ow (.list (row.map frQ)), x, .im (.int w), y, .im (.bool b), sl o, sl o'] = .nx [.io (PD p'), .ow (.list (row.map frQ)), x, .im (.int w), y, .im (.bool b), sl (some (.tuple (r.map frQ))), sl (some (.bool b))] := fun r o o' hr => by
    have hz : (864 + 1) * (r.length + 1) ≤ (864 + 1) * 8 := Nat.mul_le_mul_left _ (by have := hr.length_eq; omega)
    obtain ⟨b2, hb2, h4⟩ := R_is_within (d := .tuple (r.map frQ)) (w := w) rfl (fun q hq => hk q (hr.mem_iff.mp hq)) (by omega) (by omega)
    have e : b2 = b := by
      have := hb2.trans ((WithinR_one hr).trans hb.symm)
      cases b <;> cases b2 <;> simp_all
    subst e
    have ib : isiD .bool [.bool b2] = some (.bool true, false) := rfl
    have eb : eqD (.bool b2) (.bool b2) = some true := by cases b2 <;> rfl
    simp only [fb__law_one_0, io_is_within, h4, ib, eb, x_runF, q_nx, q_rt, rep0, rep1, x_var, qV_im, qV_ow, x_rdS, sD_im, sD_ow, sD_io, sD_lk, x_canLk, sC_ow, sC_io, sC_im, sC_lk, sC_un, x_stSf, x_stSt, sS_un, sS_im, sS_ow, x_chS, sG_ow, sG_io, mOw_some, mIo_some, x_con, x_tup, x_lst, z_tup, z_lst, x_pr, z_pr, x_not, z_not, x_and, x_or, z_and, z_or, x_ite, z_ite, x_call, z_call, q_ok, lift2_some, x_callT, z_callT, q_okT, x_Anil, x_Bnil, x_Cnil, x_Acons, z_A, z_B, z_C, z_cons, x_Bvar, tB_some, z_var, x_Bpr, x_Bcon, x_Btup, x_Blst, x_Bcall, x_BcallT, x_Bnot, x_Bite, x_Blc, x_Cval, x_Cvar, tC_true, z_varC, t_not, t_and, t_or, t_cmp, t_var, t_call, t_isi, t_len, t_con, t_item, t_all, t_any, y_t, y_n, y_a, y_o, y_c, s_skip, s_seq, w_nx, s_set, w_set, s_put, w_put, w_put2, s_unp, w_unp, w_unpQ, w_ts0, w_tsn, w_tsi, w_ti, w_ts, s_par, w_par, w_par2, w_par3, w_par4, s_ex, w_ex, s_iff, w_if, s_whl, s_retv, q_rim, q_row, s_retpr, s_rettup, s_retlst, s_retcon, s_retcall, s_retnot, s_retand, s_retor, s_retite, s_retlc, w_ret, startE, bind_rt, bind_sexn, bind_bk, bind_ct, lift_some, go1_some, ob_some, om_some, Vm.cmpD, ordD, putI, outsE, contS, add_ii, subD, negD, absD, maxD, minD, lensD, len_l, len_t, truD, boolOf, intOf, ioIx, wb, isiD, isTy, toIntD, toListD, toTupleD, itemsOf, List.length_cons, List.length_nil, Int.reduceToNat, it0, it1, it2, it3, it4, it5, it6, ta0, ta1, ta2, eqL2, noneL1, isBL1, inL_l, inL_t, isNo_n, isNo_i, isNo_t, isNo_q, eqI, eqQ, eqSS, eq_self, decide_eq_true_eq, cut_a, cut_b, slc_l, slc_t, List.nil_append, List.cons_append, List.append_nil, List.getElem?_cons_zero, List.getElem?_cons_succ, List.set_cons_zero, List.set_cons_succ, List.set_nil, Option.isSome_some, if_true, if_false, reduceIte, reduceCtorEq, Nat.reduceSub, Nat.reduceAdd, Nat.reduceLT, decide_true, decide_false, Bool.not_true, Bool.not_false, Bool.false_eq_true, Nat.reduceEqDiff, List.nodup_nil, List.nodup_cons, List.not_mem_nil, not_false_eq_true, true_and, and_true, and_self, x_lc, z_lc2, q_lc, mw0, mw1, qW_un, qW_im, wp0, wp1, bk0, bk1, gd0, gd1, x_ofv, kWk_l, kWk_t, x_ofcall, x_ofcallT, x_ofpr, x_oftup, x_oflst, x_oflc, x_ofcon, z_of, walk_l, walk_t, x_rng1, x_rng2, z_rng2a, x_enum, x_enum2, x_zip, x_zip3, z_en, z_zp, z_zp3, s_frr, w_fr, ul_nx, ul_rt, ul0, lk0, ul1, lk1, x_lkS, x_ulS, qLk_ow, qLk_io, qUl_ow, qUl_io, srcs_ofv, srcs_ofcall, srcs_ofcallT, srcs_ofpr, srcs_oftup, srcs_oflst, srcs_oflc, srcs_ofcon, srcs_r1, srcs_r2, srcs_en, srcs_en2, srcs_zp, srcs_zp3, rv_nil, rv_var, rv_call, rv_pr, rv_con, rv_lc, rv_tup, rv_lst, fi0, fi1, g_nm, g_tp, g_nl, g_cn, w_kM, x_kM, x_lm, mOw_q, mIo_q, o_rev, o_clr, x_lcT, qT1_some, z_T2, z_T3, x_frT, qF1_some, sS_sl, qW_sl, sl_some, z_lm, q_lm, Bool.and_true, Bool.true_and, Bool.and_false, Bool.false_and, Bool.or_true, Bool.true_or, Bool.or_false, Bool.false_or, revD, pr_add, pr_sub, pr_mul, pr_fdiv, pr_mod, pr_pow, pr_neg, pr_item, pr_len, pr_abs, pr_max, pr_min, pr_toInt, pr_toList, pr_toTuple, pr_sum, pr_sorted, pr_repr, pr_all, pr_any, pr_divmod, pr_isi, pr_cmp, pr_cut, pr_rev, pr_lrg, pr_trg, sz0, sz1, sz2, sz3, sz4, sz5, sz6, sz7, sz8, sz9, sz10, sz11, sz12]
  have e3 : (row.map frQ).reverse = row.reverse.map frQ := by rw [List.map_reverse]
  rw [e3]
  have t1 := turn row none none (.refl _)
  have t2 := turn r2 (some (.tuple (row.map frQ))) (some (.bool b)) h3
  have t3 := turn row.reverse (some (.tuple (r2.map frQ))) (some (.bool b)) (List.reverse_perm row)
  have t1 : frT (.nm 6) fb__law_one_0 (.tuple (row.map frQ)) [.io (PD p'), .ow (.list (row.map frQ)), x, .im (.int w), y, .im (.bool b), .un, .un] = .nx [.io (PD p'), .ow (.list (row.map frQ)), x, .im (.int w), y, .im (.bool b), sl (some (.tuple (row.map frQ))), sl (some (.bool b))] := t1
  rw [frL_nx (.inl t1), frL_nx (.inl t2), frL_nx (.inl t3)]
  rfl
theorem ix_0 {n : Nat} : ixN (n + 1) 0 = some 0 := ix_at (n := n + 1) (k := 0) (Nat.succ_pos n)
theorem m01 : ((0 : Nat) ∈ [1]) = False := by simp
theorem R_one (p : Pot) : ∃ os, m__law_one.run [PD p] = .ok (.bool true) false os := by
  obtain ⟨d1, p1, h1, l1, u1⟩ := R_digit p (n := 8) (by decide) (by decide +kernel)
  obtain ⟨n, rfl⟩ : ∃ n : Nat, d1 = (n : Int) := ⟨d1.toNat, by omega⟩
  obtain ⟨row, p2, h2, hl, hk⟩ := S_row p1 (n := n) (by omega)
  obtain ⟨d3, p3, h3, l3, u3⟩ := R_digit p2 (n := 10 ^ 30 - 1) (by decide) (by decide +kernel)
  obtain ⟨d4, p4, h4, l4, u4⟩ := R_digit p3 (n := 4) (by decide) (by decide +kernel)
  have b11 : bl 1 ≤ 1 := by decide
  have wts : ∀ least : Int, bl least ≤ 6400 → ∃ v, bl v ≤ 10000 ∧ itemD [.list [.int least, .int (if least - 1 > 1 then least - 1 else 1), .int (least + 1), .int (1 + d3)], .int d4] = some (.int v, false) := fun least hb => by
    obtain ⟨v, hv, ev⟩ := it_pick (xs := [least, if least - 1 > 1 then least - 1 else 1, least + 1, 1 + d3]) l4 u4
    refine ⟨v, ?_, ev⟩
    have c1 := bl_sub least 1
    have c2 := bl_add least 1
    have c3 : bl (1 + d3) ≤ 100 := bl_le 100 (by omega) (by omega)
    simp only [List.mem_cons, List.not_mem_nil, or_false] at hv
    rcases hv with rfl | rfl | rfl | rfl
    · omega
    · split <;> omega
    · omega
    · omega
  have en : eqD (.list (row.map frQ)) (.list []) = some (row.map frQ).isEmpty := eq_nil (rp_row (n := 60) hk (by decide) (by omega)).1 (by decide)
  have op := o_pow (i := 10) (j := 30) (by decide)
  have op2 := o_pow (i := 10) (j := 20) (by decide)
  cases row with
  | nil =>
    obtain ⟨w, bw, ew⟩ := wts 1 (by omega)
    obtain ⟨b, r2, p5, e1, e2, e3⟩ := S_end p4 (w := w) (row := []) (by simp) (by decide) bw
    obtain ⟨o, e3⟩ := e3 (.im (.int 1)) .un
    simp only [List.map_nil, List.isEmpty_nil, List.reverse_nil] at *
    refine ⟨[PD p5], ?_⟩
    simp only [m__law_one, b__law_one, io__law_row, io__law_digit, io__law_due, io__law_turned, List.reverse_nil, m01, h1, h2, en, op, h3, h4, ew, e1, e2, e3, x_runF, q_nx, q_rt, rep0, rep1, x_var, qV_im, qV_ow, x_rdS, sD_im, sD_ow, sD_io, sD_lk, x_canLk, sC_ow, sC_io, sC_im, sC_lk, sC_un, x_stSf, x_stSt, sS_un, sS_im, sS_ow, x_chS, sG_ow, sG_io, mOw_some, mIo_some, x_con, x_tup, x_lst, z_tup, z_lst, x_pr, z_pr, x_not, z_not, x_and, x_or, z_and, z_or, x_ite, z_ite, x_call, z_call, q_ok, lift2_some, x_callT, z_callT, q_okT, x_Anil, x_Bnil, x_Cnil, x_Acons, z_A, z_B, z_C, z_cons, x_Bvar, tB_some, z_var, x_Bpr, x_Bcon, x_Btup, x_Blst, x_Bcall, x_BcallT, x_Bnot, x_Bite, x_Blc, x_Cval, x_Cvar, tC_true, z_varC, t_not, t_and, t_or, t_cmp, t_var, t_call, t_isi, t_len, t_con, t_item, t_all, t_any, y_t, y_n, y_a, y_o, y_c, s_skip, s_seq, w_nx, s_set, w_set, s_put, w_put, w_put2, s_unp, w_unp, w_unpQ, w_ts0, w_tsn, w_tsi, w_ti, w_ts, s_par, w_par, w_par2, w_par3, w_par4, s_ex, w_ex, s_iff, w_if, s_whl, s_retv, q_rim, q_row, s_retpr, s_rettup, s_retlst, s_retcon, s_retcall, s_retnot, s_retand, s_retor, s_retite, s_retlc, w_ret, startE, bind_rt, bind_sexn, bind_bk, bind_ct, lift_some, go1_some, ob_some, om_some, Vm.cmpD, ordD, putI, outsE, contS, add_ii, subD, negD, absD, maxD, minD, lensD, len_l, len_t, truD, boolOf, intOf, ioIx, wb, isiD, isTy, toIntD, toListD, toTupleD, itemsOf, List.length_cons, List.length_nil, Int.reduceToNat, it0, it1, it2, it3, it4, it5, it6, ta0, ta1, ta2, eqL2, noneL1, isBL1, inL_l, inL_t, isNo_n, isNo_i, isNo_t, isNo_q, eqI, eqQ, eqSS, eq_self, decide_eq_true_eq, cut_a, cut_b, slc_l, slc_t, List.nil_append, List.cons_append, List.append_nil, List.getElem?_cons_zero, List.getElem?_cons_succ, List.set_cons_zero, List.set_cons_succ, List.set_nil, Option.isSome_some, if_true, if_false, reduceIte, reduceCtorEq, Nat.reduceSub, Nat.reduceAdd, Nat.reduceLT, decide_true, decide_false, Bool.not_true, Bool.not_false, Bool.false_eq_true, Nat.reduceEqDiff, List.nodup_nil, List.nodup_cons, List.not_mem_nil, not_false_eq_true, true_and, and_true, and_self, x_lc, z_lc2, q_lc, mw0, mw1, qW_un, qW_im, wp0, wp1, bk0, bk1, gd0, gd1, x_ofv, kWk_l, kWk_t, x_ofcall, x_ofcallT, x_ofpr, x_oftup, x_oflst, x_oflc, x_ofcon, z_of, walk_l, walk_t, x_rng1, x_rng2, z_rng2a, x_enum, x_enum2, x_zip, x_zip3, z_en, z_zp, z_zp3, s_frr, w_fr, ul_nx, ul_rt, ul0, lk0, ul1, lk1, x_lkS, x_ulS, qLk_ow, qLk_io, qUl_ow, qUl_io, srcs_ofv, srcs_ofcall, srcs_ofcallT, srcs_ofpr, srcs_oftup, srcs_oflst, srcs_oflc, srcs_ofcon, srcs_r1, srcs_r2, srcs_en, srcs_en2, srcs_zp, srcs_zp3, rv_nil, rv_var, rv_call, rv_pr, rv_con, rv_lc, rv_tup, rv_lst, fi0, fi1, g_nm, g_tp, g_nl, g_cn, w_kM, x_kM, x_lm, mOw_q, mIo_q, o_rev, o_clr, x_lcT, qT1_some, z_T2, z_T3, x_frT, qF1_some, sS_sl, qW_sl, sl_some, z_lm, q_lm, Bool.and_true, Bool.true_and, Bool.and_false, Bool.false_and, Bool.or_true, Bool.true_or, Bool.or_false, Bool.false_or, revD, pr_add, pr_sub, pr_mul, pr_fdiv, pr_mod, pr_pow, pr_neg, pr_item, pr_len, pr_abs, pr_max, pr_min, pr_toInt, pr_toList, pr_toTuple, pr_sum, pr_sorted, pr_repr, pr_all, pr_any, pr_divmod, pr_isi, pr_cmp, pr_cut, pr_rev, pr_lrg, pr_trg, sz0, sz1, sz2, sz3, sz4, sz5, sz6, sz7, sz8, sz9, sz10, sz11, sz12]
  | cons q0 row =>
    obtain ⟨least, h5, b5⟩ := S_weight hk (by omega)
    obtain ⟨w, bw, ew⟩ := wts least b5
    obtain ⟨d6, p6, h6, l6, u6⟩ := R_digit p4 (n := 5) (by decide) (by decide +kernel)
    by_cases z : d6 = 0
    · obtain ⟨d7, p7, h7, l7, u7⟩ := R_digit p6 (n := 4) (by decide) (by decide +kernel)
      obtain ⟨v, bv, ev⟩ := S_more l7 u7
      have b0 := hk q0 List.mem_cons_self
      have pl := Q_plus (p := q0) (q := v) (by omega)
      have b8 := bq_add q0 v
      generalize q0 + v = q9 at *
      obtain ⟨b, r2, p5, e1, e2, e3⟩ := S_end p7 (w := w) (row := q9 :: row) (fun q hq => by
        rcases List.mem_cons.mp hq with rfl | hq
        · omega
        · exact Nat.le_trans (hk q (List.mem_cons_of_mem _ hq)) (by decide)) (by have := hl; rw [List.length_cons] at this ⊢; omega) bw
      obtain ⟨o, e3⟩ := e3 (.im (.int least)) (.im (frQ v))
      simp only [List.map_cons, List.isEmpty_cons] at *
      refine ⟨[PD p5], ?_⟩
      simp only [m__law_one, b__law_one, io__law_row, io__law_digit, io__law_weight, io__law_plus, io__law_due, io__law_turned, m01, h1, h2, en, op, op2, h3, h4, h5, h6, h7, z, ev, pl, ix_0, ew, e1, e2, e3, x_runF, q_nx, q_rt, rep0, rep1, x_var, qV_im, qV_ow, x_rdS, sD_im, sD_ow, sD_io, sD_lk, x_canLk, sC_ow, sC_io, sC_im, sC_lk, sC_un, x_stSf, x_stSt, sS_un, sS_im, sS_ow, x_chS, sG_ow, sG_io, mOw_some, mIo_some, x_con, x_tup, x_lst, z_tup, z_lst, x_pr, z_pr, x_not, z_not, x_and, x_or, z_and, z_or, x_ite, z_ite, x_call, z_call, q_ok, lift2_some, x_callT, z_callT, q_okT, x_Anil, x_Bnil, x_Cnil, x_Acons, z_A, z_B, z_C, z_cons, x_Bvar, tB_some, z_var, x_Bpr, x_Bcon, x_Btup, x_Blst, x_Bcall, x_BcallT, x_Bnot, x_Bite, x_Blc, x_Cval, x_Cvar, tC_true, z_varC, t_not, t_and, t_or, t_cmp, t_var, t_call, t_isi, t_len, t_con, t_item, t_all, t_any, y_t, y_n, y_a, y_o, y_c, s_skip, s_seq, w_nx, s_set, w_set, s_put, w_put, w_put2, s_unp, w_unp, w_unpQ, w_ts0, w_tsn, w_tsi, w_ti, w_ts, s_par, w_par, w_par2, w_par3, w_par4, s_ex, w_ex, s_iff, w_if, s_whl, s_retv, q_rim, q_row, s_retpr, s_rettup, s_retlst, s_retcon, s_retcall, s_retnot, s_retand, s_retor, s_retite, s_retlc, w_ret, startE, bind_rt, bind_sexn, bind_bk, bind_ct, lift_some, go1_some, ob_some, om_some, Vm.cmpD, ordD, putI, outsE, contS, add_ii, subD, negD, absD, maxD, minD, lensD, len_l, len_t, truD, boolOf, intOf, ioIx, wb, isiD, isTy, toIntD, toListD, toTupleD, itemsOf, List.length_cons, List.length_nil, Int.reduceToNat, it0, it1, it2, it3, it4, it5, it6, ta0, ta1, ta2, eqL2, noneL1, isBL1, inL_l, inL_t, isNo_n, isNo_i, isNo_t, isNo_q, eqI, eqQ, eqSS, eq_self, decide_eq_true_eq, cut_a, cut_b, slc_l, slc_t, List.nil_append, List.cons_append, List.append_nil, List.getElem?_cons_zero, List.getElem?_cons_succ, List.set_cons_zero, List.set_cons_succ, List.set_nil, Option.isSome_some, if_true, if_false, reduceIte, reduceCtorEq, Nat.reduceSub, Nat.reduceAdd, Nat.reduceLT, decide_true, decide_false, Bool.not_true, Bool.not_false, Bool.false_eq_true, Nat.reduceEqDiff, List.nodup_nil, List.nodup_cons, List.not_mem_nil, not_false_eq_true, true_and, and_true, and_self, x_lc, z_lc2, q_lc, mw0, mw1, qW_un, qW_im, wp0, wp1, bk0, bk1, gd0, gd1, x_ofv, kWk_l, kWk_t, x_ofcall, x_ofcallT, x_ofpr, x_oftup, x_oflst, x_oflc, x_ofcon, z_of, walk_l, walk_t, x_rng1, x_rng2, z_rng2a, x_enum, x_enum2, x_zip, x_zip3, z_en, z_zp, z_zp3, s_frr, w_fr, ul_nx, ul_rt, ul0, lk0, ul1, lk1, x_lkS, x_ulS, qLk_ow, qLk_io, qUl_ow, qUl_io, srcs_ofv, srcs_ofcall, srcs_ofcallT, srcs_ofpr, srcs_oftup, srcs_oflst, srcs_oflc, srcs_ofcon, srcs_r1, srcs_r2, srcs_en, srcs_en2, srcs_zp, srcs_zp3, rv_nil, rv_var, rv_call, rv_pr, rv_con, rv_lc, rv_tup, rv_lst, fi0, fi1, g_nm, g_tp, g_nl, g_cn, w_kM, x_kM, x_lm, mOw_q, mIo_q, o_rev, o_clr, x_lcT, qT1_some, z_T2, z_T3, x_frT, qF1_some, sS_sl, qW_sl, sl_some, z_lm, q_lm, Bool.and_true, Bool.true_and, Bool.and_false, Bool.false_and, Bool.or_true, Bool.true_or, Bool.or_false, Bool.false_or, revD, pr_add, pr_sub, pr_mul, pr_fdiv, pr_mod, pr_pow, pr_neg, pr_item, pr_len, pr_abs, pr_max, pr_min, pr_toInt, pr_toList, pr_toTuple, pr_sum, pr_sorted, pr_repr, pr_all, pr_any, pr_divmod, pr_isi, pr_cmp, pr_cut, pr_rev, pr_lrg, pr_trg, sz0, sz1, sz2, sz3, sz4, sz5, sz6, sz7, sz8, sz9, sz10, sz11, sz12]
    · obtain ⟨b, r2, p5, e1, e2, e3⟩ := S_end p6 (w := w) (row := q0 :: row) (fun q hq => Nat.le_trans (hk q hq) (by decide)) (by omega) bw
      obtain ⟨o, e3⟩ := e3 (.im (.int least)) .un
      simp only [List.map_cons, List.isEmpty_cons] at *
      refine ⟨[PD p5], ?_⟩
      simp only [m__law_one, b__law_one, io__law_row, io__law_digit, io__law_weight, io__law_due, io__law_turned, m01, h1, h2, en, op, h3, h4, h5, h6, z, ew, e1, e2, e3, x_runF, q_nx, q_rt, rep0, rep1, x_var, qV_im, qV_ow, x_rdS, sD_im, sD_ow, sD_io, sD_lk, x_canLk, sC_ow, sC_io, sC_im, sC_lk, sC_un, x_stSf, x_stSt, sS_un, sS_im, sS_ow, x_chS, sG_ow, sG_io, mOw_some, mIo_some, x_con, x_tup, x_lst, z_tup, z_lst, x_pr, z_pr, x_not, z_not, x_and, x_or, z_and, z_or, x_ite, z_ite, x_call, z_call, q_ok, lift2_some, x_callT, z_callT, q_okT, x_Anil, x_Bnil, x_Cnil, x_Acons, z_A, z_B, z_C, z_cons, x_Bvar, tB_some, z_var, x_Bpr, x_Bcon, x_Btup, x_Blst, x_Bcall, x_BcallT, x_Bnot, x_Bite, x_Blc, x_Cval, x_Cvar, tC_true, z_varC, t_not, t_and, t_or, t_cmp, t_var, t_call, t_isi, t_len, t_con, t_item, t_all, t_any, y_t, y_n, y_a, y_o, y_c, s_skip, s_seq, w_nx, s_set, w_set, s_put, w_put, w_put2, s_unp, w_unp, w_unpQ, w_ts0, w_tsn, w_tsi, w_ti, w_ts, s_par, w_par, w_par2, w_par3, w_par4, s_ex, w_ex, s_iff, w_if, s_whl, s_retv, q_rim, q_row, s_retpr, s_rettup, s_retlst, s_retcon, s_retcall, s_retnot, s_retand, s_retor, s_retite, s_retlc, w_ret, startE, bind_rt, bind_sexn, bind_bk, bind_ct, lift_some, go1_some, ob_some, om_some, Vm.cmpD, ordD, putI, outsE, contS, add_ii, subD, negD, absD, maxD, minD, lensD, len_l, len_t, truD, boolOf, intOf, ioIx, wb, isiD, isTy, toIntD, toListD, toTupleD, itemsOf, List.length_cons, List.length_nil, Int.reduceToNat, it0, it1, it2, it3, it4, it5, it6, ta0, ta1, ta2, eqL2, noneL1, isBL1, inL_l, inL_t, isNo_n, isNo_i, isNo_t, isNo_q, eqI, eqQ, eqSS, eq_self, decide_eq_true_eq, cut_a, cut_b, slc_l, slc_t, List.nil_append, List.cons_append, List.append_nil, List.getElem?_cons_zero, List.getElem?_cons_succ, List.set_cons_zero, List.set_cons_succ, List.set_nil, Option.isSome_some, if_true, if_false, reduceIte, reduceCtorEq, Nat.reduceSub, Nat.reduceAdd, Nat.reduceLT, decide_true, decide_false, Bool.not_true, Bool.not_false, Bool.false_eq_true, Nat.reduceEqDiff, List.nodup_nil, List.nodup_cons, List.not_mem_nil, not_false_eq_true, true_and, and_true, and_self, x_lc, z_lc2, q_lc, mw0, mw1, qW_un, qW_im, wp0, wp1, bk0, bk1, gd0, gd1, x_ofv, kWk_l, kWk_t, x_ofcall, x_ofcallT, x_ofpr, x_oftup, x_oflst, x_oflc, x_ofcon, z_of, walk_l, walk_t, x_rng1, x_rng2, z_rng2a, x_enum, x_enum2, x_zip, x_zip3, z_en, z_zp, z_zp3, s_frr, w_fr, ul_nx, ul_rt, ul0, lk0, ul1, lk1, x_lkS, x_ulS, qLk_ow, qLk_io, qUl_ow, qUl_io, srcs_ofv, srcs_ofcall, srcs_ofcallT, srcs_ofpr, srcs_oftup, srcs_oflst, srcs_oflc, srcs_ofcon, srcs_r1, srcs_r2, srcs_en, srcs_en2, srcs_zp, srcs_zp3, rv_nil, rv_var, rv_call, rv_pr, rv_con, rv_lc, rv_tup, rv_lst, fi0, fi1, g_nm, g_tp, g_nl, g_cn, w_kM, x_kM, x_lm, mOw_q, mIo_q, o_rev, o_clr, x_lcT, qT1_some, z_T2, z_T3, x_frT, qF1_some, sS_sl, qW_sl, sl_some, z_lm, q_lm, Bool.and_true, Bool.true_and, Bool.and_false, Bool.false_and, Bool.or_true, Bool.true_or, Bool.or_false, Bool.false_or, revD, pr_add, pr_sub, pr_mul, pr_fdiv, pr_mod, pr_pow, pr_neg, pr_item, pr_len, pr_abs, pr_max, pr_min, pr_toInt, pr_toList, pr_toTuple, pr_sum, pr_sorted, pr_repr, pr_all, pr_any, pr_divmod, pr_isi, pr_cmp, pr_cut, pr_rev, pr_lrg, pr_trg, sz0, sz1, sz2, sz3, sz4, sz5, sz6, sz7, sz8, sz9, sz10, sz11, sz12]
theorem pure_law (ns : List Int) (h : ns.length ≤ 63) : ∃ b, m_law.run [.list (ns.map PyData.int)] = .ok (.bool true) b [] := by
  obtain ⟨j, hj, j1⟩ : ∃ j : Nat, (if (if (6 : Int) < (ns.length : Int) then (6 : Int) else (ns.length : Int)) > 1 then (if (6 : Int) < (ns.length : Int) then (6 : Int) else (ns.length : Int)) else 1) = (j : Int) ∧ j ≤ 6 := by
    refine ⟨(if (if (6 : Int) < (ns.length : Int) then (6 : Int) else (ns.length : Int)) > 1 then (if (6 : Int) < (ns.length : Int) then (6 : Int) else (ns.length : Int)) else 1).toNat, ?_, ?_⟩
    · split <;> split <;> omega
    · split <;> split <;> omega
  have ir : Vm.inR (j : Int) = true := by
    unfold Vm.inR
    simp
    omega
  have lc := lcL_m (vs := [1]) (t := .nm 1) (c := .con (.bool true)) (el := ce_law_0) (rep := fun (k : Nat) => (PyData.int (k : Int) : D)) (g := fun _ => .bool true) (xs := List.range j) (e := [.im (.list (ns.map PyData.int)), .un]) (fun k hk => by
    obtain ⟨p, hp⟩ := R_pot (ns := ns) (k := k) (by have := List.mem_range.mp hk; omega)
    obtain ⟨os, ho⟩ := R_one p
    simp only [ce_law_0, io__law_pot, io__law_one, hp, ho, x_runF, q_nx, q_rt, rep0, rep1, x_var, qV_im, qV_ow, x_rdS, sD_im, sD_ow, sD_io, sD_lk, x_canLk, sC_ow, sC_io, sC_im, sC_lk, sC_un, x_stSf, x_stSt, sS_un, sS_im, sS_ow, x_chS, sG_ow, sG_io, mOw_some, mIo_some, x_con, x_tup, x_lst, z_tup, z_lst, x_pr, z_pr, x_not, z_not, x_and, x_or, z_and, z_or, x_ite, z_ite, x_call, z_call, q_ok, lift2_some, x_callT, z_callT, q_okT, x_Anil, x_Bnil, x_Cnil, x_Acons, z_A, z_B, z_C, z_cons, x_Bvar, tB_some, z_var, x_Bpr, x_Bcon, x_Btup, x_Blst, x_Bcall, x_BcallT, x_Bnot, x_Bite, x_Blc, x_Cval, x_Cvar, tC_true, z_varC, t_not, t_and, t_or, t_cmp, t_var, t_call, t_isi, t_len, t_con, t_item, t_all, t_any, y_t, y_n, y_a, y_o, y_c, s_skip, s_seq, w_nx, s_set, w_set, s_put, w_put, w_put2, s_unp, w_unp, w_unpQ, w_ts0, w_tsn, w_tsi, w_ti, w_ts, s_par, w_par, w_par2, w_par3, w_par4, s_ex, w_ex, s_iff, w_if, s_whl, s_retv, q_rim, q_row, s_retpr, s_rettup, s_retlst, s_retcon, s_retcall, s_retnot, s_retand, s_retor, s_retite, s_retlc, w_ret, startE, bind_rt, bind_sexn, bind_bk, bind_ct, lift_some, go1_some, ob_some, om_some, Vm.cmpD, ordD, putI, outsE, contS, add_ii, subD, negD, absD, maxD, minD, lensD, len_l, len_t, truD, boolOf, intOf, ioIx, wb, isiD, isTy, toIntD, toListD, toTupleD, itemsOf, List.length_cons, List.length_nil, Int.reduceToNat, it0, it1, it2, it3, it4, it5, it6, ta0, ta1, ta2, eqL2, noneL1, isBL1, inL_l, inL_t, isNo_n, isNo_i, isNo_t, isNo_q, eqI, eqQ, eqSS, eq_self, decide_eq_true_eq, cut_a, cut_b, slc_l, slc_t, List.nil_append, List.cons_append, List.append_nil, List.getElem?_cons_zero, List.getElem?_cons_succ, List.set_cons_zero, List.set_cons_succ, List.set_nil, Option.isSome_some, if_true, if_false, reduceIte, reduceCtorEq, Nat.reduceSub, Nat.reduceAdd, Nat.reduceLT, decide_true, decide_false, Bool.not_true, Bool.not_false, Bool.false_eq_true, Nat.reduceEqDiff, List.nodup_nil, List.nodup_cons, List.not_mem_nil, not_false_eq_true, true_and, and_true, and_self, x_lc, z_lc2, q_lc, mw0, mw1, qW_un, qW_im, wp0, wp1, bk0, bk1, gd0, gd1, x_ofv, kWk_l, kWk_t, x_ofcall, x_ofcallT, x_ofpr, x_oftup, x_oflst, x_oflc, x_ofcon, z_of, walk_l, walk_t, x_rng1, x_rng2, z_rng2a, x_enum, x_enum2, x_zip, x_zip3, z_en, z_zp, z_zp3, s_frr, w_fr, ul_nx, ul_rt, ul0, lk0, ul1, lk1, x_lkS, x_ulS, qLk_ow, qLk_io, qUl_ow, qUl_io, srcs_ofv, srcs_ofcall, srcs_ofcallT, srcs_ofpr, srcs_oftup, srcs_oflst, srcs_oflc, srcs_ofcon, srcs_r1, srcs_r2, srcs_en, srcs_en2, srcs_zp, srcs_zp3, rv_nil, rv_var, rv_call, rv_pr, rv_con, rv_lc, rv_tup, rv_lst, fi0, fi1, g_nm, g_tp, g_nl, g_cn, w_kM, x_kM, x_lm, mOw_q, mIo_q, o_rev, o_clr, x_lcT, qT1_some, z_T2, z_T3, x_frT, qF1_some, sS_sl, qW_sl, sl_some, z_lm, q_lm, Bool.and_true, Bool.true_and, Bool.and_false, Bool.false_and, Bool.or_true, Bool.true_or, Bool.or_false, Bool.false_or, revD, pr_add, pr_sub, pr_mul, pr_fdiv, pr_mod, pr_pow, pr_neg, pr_item, pr_len, pr_abs, pr_max, pr_min, pr_toInt, pr_toList, pr_toTuple, pr_sum, pr_sorted, pr_repr, pr_all, pr_any, pr_divmod, pr_isi, pr_cmp, pr_cut, pr_rev, pr_lrg, pr_trg, sz0, sz1, sz2, sz3, sz4, sz5, sz6, sz7, sz8, sz9, sz10, sz11, sz12]) (by have := sizeLine_big; rw [List.length_range]; omega)
  have e1 : (List.range j).map (fun _ : Nat => (PyData.bool true : D)) = List.replicate j (.bool true) := by
    rw [List.map_const', List.length_range]
  rw [e1] at lc
  have al : allD [.list (List.replicate j (.bool true))] = some (.bool true, false) := by
    show (boolsOf (List.replicate j (PyData.bool true))).map _ = _
    rw [bools_rep]
    simp
  refine ⟨false, ?_⟩
  simp only [m_law, b_law, List.length_map, hj, z_rng1 ir, Int.toNat_natCast, rngD0, lc, al, x_runF, q_nx, q_rt, rep0, rep1, x_var, qV_im, qV_ow, x_rdS, sD_im, sD_ow, sD_io, sD_lk, x_canLk, sC_ow, sC_io, sC_im, sC_lk, sC_un, x_stSf, x_stSt, sS_un, sS_im, sS_ow, x_chS, sG_ow, sG_io, mOw_some, mIo_some, x_con, x_tup, x_lst, z_tup, z_lst, x_pr, z_pr, x_not, z_not, x_and, x_or, z_and, z_or, x_ite, z_ite, x_call, z_call, q_ok, lift2_some, x_callT, z_callT, q_okT, x_Anil, x_Bnil, x_Cnil, x_Acons, z_A, z_B, z_C, z_cons, x_Bvar, tB_some, z_var, x_Bpr, x_Bcon, x_Btup, x_Blst, x_Bcall, x_BcallT, x_Bnot, x_Bite, x_Blc, x_Cval, x_Cvar, tC_true, z_varC, t_not, t_and, t_or, t_cmp, t_var, t_call, t_isi, t_len, t_con, t_item, t_all, t_any, y_t, y_n, y_a, y_o, y_c, s_skip, s_seq, w_nx, s_set, w_set, s_put, w_put, w_put2, s_unp, w_unp, w_unpQ, w_ts0, w_tsn, w_tsi, w_ti, w_ts, s_par, w_par, w_par2, w_par3, w_par4, s_ex, w_ex, s_iff, w_if, s_whl, s_retv, q_rim, q_row, s_retpr, s_rettup, s_retlst, s_retcon, s_retcall, s_retnot, s_retand, s_retor, s_retite, s_retlc, w_ret, startE, bind_rt, bind_sexn, bind_bk, bind_ct, lift_some, go1_some, ob_some, om_some, Vm.cmpD, ordD, putI, outsE, contS, add_ii, subD, negD, absD, maxD, minD, lensD, len_l, len_t, truD, boolOf, intOf, ioIx, wb, isiD, isTy, toIntD, toListD, toTupleD, itemsOf, List.length_cons, List.length_nil, Int.reduceToNat, it0, it1, it2, it3, it4, it5, it6, ta0, ta1, ta2, eqL2, noneL1, isBL1, inL_l, inL_t, isNo_n, isNo_i, isNo_t, isNo_q, eqI, eqQ, eqSS, eq_self, decide_eq_true_eq, cut_a, cut_b, slc_l, slc_t, List.nil_append, List.cons_append, List.append_nil, List.getElem?_cons_zero, List.getElem?_cons_succ, List.set_cons_zero, List.set_cons_succ, List.set_nil, Option.isSome_some, if_true, if_false, reduceIte, reduceCtorEq, Nat.reduceSub, Nat.reduceAdd, Nat.reduceLT, decide_true, decide_false, Bool.not_true, Bool.not_false, Bool.false_eq_true, Nat.reduceEqDiff, List.nodup_nil, List.nodup_cons, List.not_mem_nil, not_false_eq_true, true_and, and_true, and_self, x_lc, z_lc2, q_lc, mw0, mw1, qW_un, qW_im, wp0, wp1, bk0, bk1, gd0, gd1, x_ofv, kWk_l, kWk_t, x_ofcall, x_ofcallT, x_ofpr, x_oftup, x_oflst, x_oflc, x_ofcon, z_of, walk_l, walk_t, x_rng1, x_rng2, z_rng2a, x_enum, x_enum2, x_zip, x_zip3, z_en, z_zp, z_zp3, s_frr, w_fr, ul_nx, ul_rt, ul0, lk0, ul1, lk1, x_lkS, x_ulS, qLk_ow, qLk_io, qUl_ow, qUl_io, srcs_ofv, srcs_ofcall, srcs_ofcallT, srcs_ofpr, srcs_oftup, srcs_oflst, srcs_oflc, srcs_ofcon, srcs_r1, srcs_r2, srcs_en, srcs_en2, srcs_zp, srcs_zp3, rv_nil, rv_var, rv_call, rv_pr, rv_con, rv_lc, rv_tup, rv_lst, fi0, fi1, g_nm, g_tp, g_nl, g_cn, w_kM, x_kM, x_lm, mOw_q, mIo_q, o_rev, o_clr, x_lcT, qT1_some, z_T2, z_T3, x_frT, qF1_some, sS_sl, qW_sl, sl_some, z_lm, q_lm, Bool.and_true, Bool.true_and, Bool.and_false, Bool.false_and, Bool.or_true, Bool.true_or, Bool.or_false, Bool.false_or, revD, pr_add, pr_sub, pr_mul, pr_fdiv, pr_mod, pr_pow, pr_neg, pr_item, pr_len, pr_abs, pr_max, pr_min, pr_toInt, pr_toList, pr_toTuple, pr_sum, pr_sorted, pr_repr, pr_all, pr_any, pr_divmod, pr_isi, pr_cmp, pr_cut, pr_rev, pr_lrg, pr_trg, sz0, sz1, sz2, sz3, sz4, sz5, sz6, sz7, sz8, sz9, sz10, sz11, sz12]
end K18
open PySem PySem.W PySem.Calls PyProof.Rows
theorem PySem.Challenge.cw_whoserves_k18_whole_within_both_sides_holds : PySem.Challenge.rw_whoserves_k18_whole_within_both_sides.Holds := by
  w_on; o_law
  refine HandSHeadRun.head_any (r := OpenLaw.row PySem.Challenge.rw_whoserves_k18_whole_within_both_sides) (q := view (OpenLaw.row PySem.Challenge.rw_whoserves_k18_whole_within_both_sides).prog [28]) (H := K18.hk) (ob := K18.ob) (M := 4000) (loose := K18.lo) (d := HandSHeadRun.topDef (OpenLaw.row PySem.Challenge.rw_whoserves_k18_whole_within_both_sides).prog 28) (kwd := []) K18.ob_eq
    (by kernel_rfl) (fun s => by kernel_rfl) K18.run (by kernel_rfl) (by kernel_rfl) (by kernel_rfl) (by rfl) (by first | assumption | decide +kernel) (by decide +kernel) ⟨rfl, rfl, rfl, rfl, rfl, by decide +kernel⟩ ?hw ?hc
  case hw => w_witness2
  case hc =>
    refine Vm.walk_V (law := PySem.Challenge.rw_whoserves_k18_whole_within_both_sides) (most := 63) (k := 8) (x := "_law_script") rfl (by decide) (by kernel_rfl) ⟨rfl, by decide, by decide⟩ ?F
    intro w mg fa h Y G hmg0
    obtain ⟨K, KX, c⟩ := Y
    have hmg : mg ("law" : PySem.Str) = some (.ref fa) := by
      have e : (HandSHeadRun.topDef (OpenLaw.row PySem.Challenge.rw_whoserves_k18_whole_within_both_sides).prog 28).name = ("law" : PySem.Str) := by kernel_rfl
      rw [← e]
      exact hmg0
    obtain ⟨fd, hb, hF⟩ := K18.facts (P := (PySem.Challenge.rw_whoserves_k18_whole_within_both_sides).prog) (w := w) KX G hmg c
    exact ⟨K, fun _ => none, fd, K18.m_law, KX, hb, rfl, K18.pure_law, fun base _ _ => hF base⟩
