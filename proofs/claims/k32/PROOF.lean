import PyProof.Rows.All
import Wide.All
import OpenK.AllK
import Wide.FinOn
import HandS.ForMost
import HandS.IsInst
import HandS.Walk
import KE.SortData
import KE.DataMinMax
import HandS.Lambda
import HandS.HeadHook4
import HandS.TupAny
import HandS.Style
import HandS.Deep
import HandS.SetFor
import HandS.Dict
import KE.KDictSum
import KE.KDictCopyH
import HandS.ExcValue
import PyProof.Rows.RowBridgeK
import HandS.Text
import HandS.TupLen
import HandS.RaiseMore
import PyProof.ReprRoads
import HandS.ExcIs
import HandS.ExcCtx
import HandS.HotCalls
import HandS.Zip
import HandS.Strs
import KE.KLam
import HandS.Flow
import HandS.Conv
import KE.GoesEnum
import KE.DataFind
import HandS.HeadHook1
import HandS.Ends
import HandS.HeadEnd
import HandS.Defaults
import HandS.HeadHook2
import HandS.Head2
import HandS.Codes
import HandS.NestedK
import PyProof.ReprLen
import PySem.Challenge.RW_pairaway_k32_whole_takings_are_calm_pair
set_option Elab.async false
set_option linter.all false
set_option maxRecDepth 100000
/-! TBCore: a small syntax of expressions and statements, and a total evaluator of it over value trees with a store of changing objects. -/
namespace TB
open PySem
abbrev D := PyData
/-- no list that is made is longer -/
def LIM : Nat := 1000000
@[irreducible] def smallB (i : Int) : Bool := decide (-1000000 ≤ i) && decide (i ≤ 1000000)
/-- a value: a tree, or a changing object by its place in the store -/
inductive W where
  | d (x : D)
  | r (a : Nat)
  /-- a caught exception, by its address -/
  | e (a : Nat)
/-- what stands at a place of the store: a list, a dict, a dict of lists that change, a thing that changes no more -/
inductive Ob where
  | lst (xs : List D)
  | dct (kvs : List (D × D))
  | dl (kvs : List (D × List D))
  | frz (x : D)
  /-- the code objects' table of the def of this name -/
  | tb (x : Str)
def Ob.isTb : Ob → Bool
  | .tb _ => true
  | _ => false
def Ob.tree : Ob → D
  | .lst xs => .list xs
  | .dct kvs => .dict kvs
  | .dl kvs => .dict (kvs.map fun p => (p.1, .list p.2))
  | .frz x => x
  | .tb _ => .none
abbrev Sto := List Ob
abbrev Ev := List (Option W)
inductive Res (α : Type) where
  | ok (a : α) (st : Sto)
  | exc (c : Nat) (as : List D) (st : Sto)
  | bad
def Res.bind {α β : Type} (r : Res α) (f : α → Sto → Res β) : Res β :=
  match r with
  | .ok a st => f a st
  | .exc c as st => .exc c as st
  | .bad => .bad
@[simp] theorem Res.bind_ok {α β : Type} (a : α) (st : Sto) (f : α → Sto → Res β) : Res.bind (.ok a st) f = f a st := rfl
@[simp] theorem Res.bind_exc {α β : Type} (c : Nat) (as : List D) (st : Sto) (f : α → Sto → Res β) : Res.bind (.exc c as st) f = .exc c as st := rfl
@[simp] theorem Res.bind_bad {α β : Type} (f : α → Sto → Res β) : Res.bind .bad f = .bad := rfl
def ofO {α : Type} (o : Option α) (st : Sto) : Res α :=
  match o with
  | some a => .ok a st
  | none => .bad
@[simp] theorem ofO_some {α : Type} (a : α) (st : Sto) : ofO (some a) st = .ok a st := rfl
@[simp] theorem ofO_none {α : Type} (st : Sto) : ofO (none : Option α) st = .bad := rfl
/-- the tree of a value; an object is looked at as it is -/
def peek (w : W) (st : Sto) : Option D :=
  match w with
  | .d x => some x
  | .r a => match st[a]? with
    | some (.lst xs) => some (.list xs)
    | some (.dct kvs) => some (.dict kvs)
    | some (.frz x) => some x
    | _ => none
  | .e _ => none
/-- the tree of a value; an object changes no more -/
def val (w : W) (st : Sto) : Res D :=
  match w with
  | .d x => .ok x st
  | .r a => match st[a]? with
    | some ob => if ob.isTb = true then .bad else .ok ob.tree (st.set a (.frz ob.tree))
    | none => .bad
  | .e _ => .bad
@[simp] theorem peek_d (x : D) (st : Sto) : peek (.d x) st = some x := rfl
@[simp] theorem val_d (x : D) (st : Sto) : val (.d x) st = .ok x st := rfl
/-! ### operations on trees -/
def mulOk (i j : Int) : Bool := (decide (-(2 ^ 64) < i) && decide (i < 2 ^ 64)) || (decide (-(2 ^ 64) < j) && decide (j < 2 ^ 64))
def powOk (i j : Int) : Bool := decide (0 ≤ j) && decide (j ≤ 1000) && decide (i.natAbs < 2 ^ 64)
def addD : D → D → Option D
  | .int i, .int j => some (.int (i + j))
  | .str x, .str y => if x.length + y.length ≤ LIM then some (.str (x ++ y)) else none
  | .tuple xs, .tuple ys => if xs.length + ys.length ≤ LIM then some (.tuple (xs ++ ys)) else none
  | .list xs, .list ys => if xs.length + ys.length ≤ LIM then some (.list (xs ++ ys)) else none
  | _, _ => none
def mulD : D → D → Option D
  | .int i, .int j => if mulOk i j then some (.int (i * j)) else none
  | _, _ => none
def intD (f : Int → Int → Option Int) : D → D → Option D
  | .int i, .int j => (f i j).map .int
  | _, _ => none
def binD (op : Operator) (x y : D) : Option D :=
  match op with
  | .Add => addD x y
  | .Sub => intD (fun i j => some (i - j)) x y
  | .Mult => mulD x y
  | .Mod => intD (fun i j => if 0 < j then some (i % j) else none) x y
  | .FloorDiv => intD (fun i j => if 0 < j ∧ j < 1073741824 then some (i / j) else none) x y
  | .Pow => intD (fun i j => if powOk i j then some (i ^ j.toNat) else none) x y
  | .LShift => intD (fun i j => if powOk i j then some (i * 2 ^ j.toNat) else none) x y
  | .RShift => intD (fun i j => if 0 ≤ j then some (i / 2 ^ j.toNat) else none) x y
  | .BitAnd => intD (fun i j => some (Builtin.bitAnd i j)) x y
  | _ => none
/-- a place among n, from the end where it is negative -/
def placeOf (n : Nat) (i : Int) : Option Nat := if 0 ≤ i then (if i < n then some i.toNat else none) else if -(n : Int) ≤ i then some (i + n).toNat else none
def keyOk : D → Bool
  | .int _ => true
  | .str _ => true
  | .tuple xs => xs.all fun x => match x with | .int _ => true | .str _ => true | _ => false
  | _ => false
def lookD (kvs : List (D × D)) (k : D) : Option D := (kvs.find? fun p => PyData.eqv p.1 k).map (·.2)
def putD (kvs : List (D × D)) (k v : D) : List (D × D) :=
  if (kvs.any fun p => PyData.eqv p.1 k) then kvs.map fun p => if PyData.eqv p.1 k then (p.1, v) else p else kvs ++ [(k, v)]
/-- keys of a dict that is served: all ints and texts, or all tuples of these -/
def flatK : D → Bool
  | .int _ => true
  | .str _ => true
  | _ => false
def tupK : D → Bool
  | .tuple xs => xs.all flatK
  | _ => false
def keysOk (kvs : List (D × D)) (k : D) : Bool := (kvs.all (fun p => flatK p.1) && flatK k) || (kvs.all (fun p => tupK p.1) && tupK k)
def getD (x y : D) : Option D :=
  match x, y with
  | .list xs, .int i => (placeOf xs.length i).bind fun j => xs[j]?
  | .tuple xs, .int i => (placeOf xs.length i).bind fun j => xs[j]?
  | .dict kvs, k => if keysOk kvs k then lookD kvs k else none
  | .str z, .int i => if z.length ≤ LIM then ((placeOf z.cps.toList.length i).bind fun j => z.cps.toList[j]?).map fun c => .str ⟨#[c]⟩ else none
  | _, _ => none
def clipD (n dflt : Nat) : Option Int → Nat
  | none => dflt
  | some v => if v < 0 then (v + (n : Int)).toNat else min v.toNat n
def cutD {α : Type} (xs : List α) (lo hi : Option Int) : List α := (xs.drop (clipD xs.length 0 lo)).take (clipD xs.length xs.length hi - clipD xs.length 0 lo)
def sliceD (x : D) (lo hi : Option Int) : Option D :=
  match x with
  | .list xs => some (.list (cutD xs lo hi))
  | .tuple xs => some (.tuple (cutD xs lo hi))
  | _ => none
def shapedB (d : D) : Bool := SeqAt.shaped d
def memD (x y : D) : Option Bool :=
  match y with
  | .list ys => if shapedB x && shapedB (.list ys) then some (ys.any fun z => PyData.eqv z x) else none
  | .tuple ys => if shapedB x && shapedB (.tuple ys) then some (ys.any fun z => PyData.eqv z x) else none
  | .dict kvs => if keysOk kvs x then some (lookD kvs x).isSome else none
  | _ => none
def ltD (x y : D) : Option Bool :=
  match x, y with
  | .int i, .int j => some (decide (i < j))
  | .str i, .str j => some (decide (i.cps.toList < j.cps.toList))
  | .tuple xs, .tuple ys => if shapedB (.tuple xs) && shapedB (.tuple ys) && PySem.W.alike (.tuple xs) (.tuple ys) then some (PySem.W.dataLt (.tuple xs) (.tuple ys)) else none
  | _, _ => none
def leD (x y : D) : Option Bool :=
  match x, y with
  | .int i, .int j => some (decide (i ≤ j))
  | _, _ => none
def isNoneD : D → Bool
  | .none => true
  | _ => false
def isB (x y : D) : Option Bool :=
  match y with
  | .none => some (isNoneD x)
  | .bool b => match x with | .bool c => some (decide (c = b)) | _ => none
  | _ => none
def cmpD (op : CmpOp) (x y : D) : Option Bool :=
  match op with
  | .Eq => if shapedB x && shapedB y then some (PyData.eqv x y) else none
  | .NotEq => if shapedB x && shapedB y then some (!PyData.eqv x y) else none
  | .Lt => ltD x y
  | .Gt => match x, y with | .int i, .int j => some (decide (j < i)) | _, _ => none
  | .LtE => leD x y
  | .GtE => match x, y with | .int i, .int j => some (decide (j ≤ i)) | _, _ => none
  | .In => memD x y
  | .NotIn => (memD x y).map (!·)
  | .Is => isB x y
  | .IsNot => (isB x y).map (!·)
/-- built-in classes that isinstance is asked of -/
inductive Ty where
  | int | bool | str | tuple | list | dict
def isTy (t : Ty) (x : D) : Bool :=
  match t, x with
  | .int, .int _ => true
  | .int, .bool _ => true
  | .bool, .bool _ => true
  | .str, .str _ => true
  | .tuple, .tuple _ => true
  | .list, .list _ => true
  | .dict, .dict _ => true
  | _, _ => false
def truthD : D → Option Bool
  | .bool b => some b
  | .none => some false
  | .int i => some (i != 0)
  | .list xs => some (!xs.isEmpty)
  | .tuple xs => some (!xs.isEmpty)
  | _ => none
def boolsD : List D → Option (List Bool)
  | [] => some []
  | .bool b :: r => (boolsD r).map (b :: ·)
  | _ :: _ => none
def intsD : List D → Option (List Int)
  | [] => some []
  | .int i :: r => (intsD r).map (i :: ·)
  | _ :: _ => none
/-- a text's signs, each a text -/
def signsD (z : Str) : List D := z.cps.toList.map fun c => .str ⟨#[c]⟩
def seqD : D → Option (List D)
  | .list xs => some xs
  | .tuple xs => some xs
  | .str z => if z.length ≤ LIM then some (signsD z) else none
  | _ => none
/-- kinds of one sort, so that they are put in order -/
def alikeAllB (xs : List D) : Bool := xs.all fun x => xs.all fun y => PySem.W.alike x y
def sortableB (xs : List D) : Bool := xs.all (fun x => match x with | .tuple (_ :: _) => true | _ => false) || xs.all (fun x => match x with | .none => false | .tuple _ => false | _ => true)
def sortD (xs : List D) : List D := xs.mergeSort (PySem.W.dataLe false id)
def sortedD (xs : List D) : Option D := if alikeAllB xs && sortableB xs && decide (xs.length ≤ LIM) && xs.all shapedB then some (.list (sortD xs)) else none
/-- whole numbers, each once, rising -/
def insU (x : Int) : List Int → List Int
  | [] => [x]
  | y :: ys => if x < y then x :: y :: ys else if x = y then y :: ys else y :: insU x ys
def setSort (ns : List Int) : List Int := ns.foldr insU []
inductive Bi where
  | len | all | any | tuple | list | sorted | max | min | sum | abs | divmod | int | str | repr | sortedset | lenset | dict | bool
def pairD : D → Option (D × D)
  | .tuple [a, b] => some (a, b)
  | _ => none
def pairsD : List D → Option (List (D × D))
  | [] => some []
  | x :: xs => (pairD x).bind fun p => (pairsD xs).map (p :: ·)
def mergeD (acc : List (D × D)) : List (D × D) → List (D × D)
  | [] => acc
  | p :: ps => mergeD (putD acc p.1 p.2) ps
/-- a dict of a list of pairs -/
def dictD (xs : List D) : Option (List (D × D)) := (pairsD xs).bind fun ps => if ps.all (fun p => tupK p.1) || ps.all (fun p => flatK p.1) then some (mergeD [] ps) else none
def sortedsetD (xs : List D) : Option D := match intsD xs with
    | some ns => if xs.length < 64 ∨ (xs.length < 4000 ∧ (setSort ns).length < 64) then some (.list ((setSort ns).map .int)) else none
    | none => none
def dedupD : List D → List D
  | [] => []
  | x :: xs => if (dedupD xs).any fun z => PyData.eqv z x then dedupD xs else x :: dedupD xs
def lensetD (xs : List D) : Option D := if (xs.all flatK || xs.all tupK) && decide (xs.length < LIM) then some (.int ((dedupD xs).length : Nat)) else none
def listsD : List D → Option (List D)
  | [] => some []
  | .list x :: r => (listsD r).map (x ++ ·)
  | _ :: _ => none
def reprD (d : D) : Option D := if d.showable && shapedB d && decide (d.shown.length ≤ LIM) then some (.str d.shown) else none
/-- the least of tuples -/
def minTD : List D → Option D
  | .tuple t :: r => if alikeAllB (.tuple t :: r) && (PyData.tuple t :: r).all (fun x => shapedB x && !isNoneD x) then some (PySem.W.minD (.tuple t) r) else none
  | _ => none
def tupHead : List D → Bool
  | .tuple _ :: _ => true
  | _ => false
/-- lists put together -/
def sum2D : D → Option D
  | .list xs => (listsD xs).bind fun ys => if ys.length ≤ LIM then some (.list ys) else none
  | _ => none
def biD (b : Bi) (vs : List D) : Option D :=
  match b, vs with
  | .len, [.list xs] => some (.int xs.length)
  | .len, [.tuple xs] => some (.int xs.length)
  | .len, [.str z] => if z.length ≤ LIM then some (.int z.length) else none
  | .len, [.dict kvs] => some (.int kvs.length)
  | .all, [.list xs] => (boolsD xs).map fun bs => .bool (bs.all id)
  | .any, [.list xs] => (boolsD xs).map fun bs => .bool (bs.any id)
  | .tuple, [.list xs] => some (.tuple xs)
  | .tuple, [.tuple xs] => some (.tuple xs)
  | .list, [.list xs] => some (.list xs)
  | .list, [.tuple xs] => some (.list xs)
  | .sorted, [.list xs] => sortedD xs
  | .sorted, [.tuple xs] => sortedD xs
  | .sorted, [.dict es] => if !es.isEmpty && es.all (fun p => tupK p.1) then sortedD (es.map (·.1)) else none
  | .max, [.int i, .int j] => some (.int (if j > i then j else i))
  | .min, [.int i, .int j] => some (.int (if j < i then j else i))
  | .max, [.list xs] => (intsD xs).bind fun ns => ns.max?.map .int
  | .min, [.list xs] => if tupHead xs then minTD xs else (intsD xs).bind fun ns => ns.min?.map .int
  | .sum, [.list xs] => (intsD xs).map fun ns => .int ns.sum
  | .abs, [.int i] => some (.int (if i < 0 then -i else i))
  | .divmod, [.int i, .int j] => if 0 < j ∧ j < 1073741824 then some (.tuple [.int (i / j), .int (i % j)]) else none
  | .int, [.int i] => some (.int i)
  | .int, [.bool b] => some (.int (if b then 1 else 0))
  | .int, [.str z] => if z.length ≤ 640 then (intText? z).map .int else none
  | .dict, [.list xs] => (dictD xs).map .dict
  | .sortedset, [.list xs] => sortedsetD xs
  | .sortedset, [.tuple xs] => sortedsetD xs
  | .lenset, [.list xs] => lensetD xs
  | .lenset, [.tuple xs] => lensetD xs
  | .repr, [.list xs] => reprD (.list xs)
  | .repr, [.tuple xs] => reprD (.tuple xs)
  | .repr, [.int i] => reprD (.int i)
  | _, _ => none
/-- what methods tell -/
inductive Me where
  | count | index | get | items | values | join
def indexD (x : D) : List D → Nat → Option Nat
  | [], _ => none
  | y :: ys, n => if PyData.eqv y x then some n else indexD x ys (n + 1)
def strsD : List D → Option (List Str)
  | [] => some []
  | .str x :: r => (strsD r).map (x :: ·)
  | _ :: _ => none
def meD (m : Me) (o : D) (ds : List D) : Option D :=
  match m, o, ds with
  | .count, .list xs, [.int k] => (intsD xs).map fun ns => .int (ns.count k : Nat)
  | .count, .list xs, [.bool k] => if shapedB (.list xs) then some (.int ((xs.countP fun y => PyData.eqv y (.bool k)) : Nat)) else none
  | .index, .list xs, [k] => if shapedB (.list xs) && shapedB k then (xs.findIdx? fun y => PyData.eqv y k).map fun n => .int (n : Nat) else none
  | .get, .dict kvs, [k] => if keysOk kvs k then some ((lookD kvs k).getD .none) else none
  | .get, .dict kvs, [k, v] => if keysOk kvs k then some ((lookD kvs k).getD v) else none
  | _, _, _ => none
/-- a method of such a thing -/
def meTy (m : Me) (d : D) : Option Unit :=
  match m, d with
  | .count, .list _ => some ()
  | .index, .list _ => some ()
  | .get, .dict _ => some ()
  | .items, .dict _ => some ()
  | .values, .dict _ => some ()
  | .join, .str _ => some ()
  | _, _ => none
def evens {α : Type} : List α → List α
  | [] => []
  | [x] => [x]
  | x :: _ :: r => x :: evens r
def step2D (lo : Nat) : D → Option D
  | .list xs => some (.list (evens (xs.drop lo)))
  | _ => none
/-! ### the syntax -/
inductive Tg where
  | nm (i : Nat)
  | tp (is : List Nat)
mutual
inductive E where
  | var (i : Nat)
  | cn (d : D)
  | glob (i : Nat)
  | tup (es : Es)
  | lst (es : Es)
  | dnew
  | bin (op : Operator) (a b : E)
  | neg (a : E)
  | not (a : E)
  | and (a b : E)
  | or (a b : E)
  | cmp (op : CmpOp) (a b : E)
  | chain (op op' : CmpOp) (a b c : E)
  | ite (c a b : E)
  | call (f : Nat) (es : Es)
  | bi (b : Bi) (es : Es)
  | isin (a : E) (t : Ty)
  | idx (o i : E)
  | slc (o : E) (a b : Oe)
  | back (o : E)
  | rep (es : Es) (k : E)
  | inG (neg : Bool) (a : E) (i : Nat)
  | lof (it : I)
  | split (o s : E)
  | me (m : Me) (o : E) (es : Es)
  | step2 (o : E) (lo : Nat)
  | sum2 (a : E)
  | isE (i : Nat) (n : Nat)
  | orv (a b : E)
  | said (x : Str) (j : Nat) (w : Bool) (f : Nat) (es : Es)
  | nvr
  | popv (j : Nat) (o : Oe)
  | popi (j : Nat) (e : E)
  | get1 (o k : E)
  | get2 (o k v : E)
  | pld
  | fz (e : E)
  | lc (elt : E) (t : Tg) (it : I) (own : List Nat) (c : Oe)
inductive Es where
  | nil
  | cons (e : E) (es : Es)
inductive Oe where
  | no
  | yes (e : E)
inductive I where
  | e (e : E)
  | r1 (a : E)
  | r2 (a b : E)
  | r3 (a b c : E)
  | gl (i : Nat)
  | en (a : E)
  | z2 (a b : E)
  | z3 (a b c : E)
  | items (a : E)
  | values (a : E)
end
/-! ### loops over trees -/
inductive Fl where
  | nx (σ : Ev)
  | rt (w : W)
  | xc (c : Nat) (as : List D)
def storeT : List Nat → List D → Ev → Option Ev
  | [], [], σ => some σ
  | i :: is, x :: xs, σ => storeT is xs (σ.set i (some (.d x)))
  | _, _, _ => none
def bindT (t : Tg) (x : D) (σ : Ev) : Option Ev :=
  match t, x with
  | .nm i, x => some (σ.set i (some (.d x)))
  | .tp is, .tuple xs => storeT is xs σ
  | _, _ => none
def compL {α : Type} (step : α → Sto → Res (Option D)) : List α → Sto → Res (List D)
  | [], st => .ok [] st
  | x :: xs, st => (step x st).bind fun o st1 => (compL step xs st1).bind fun ys st2 => .ok (match o with | some y => y :: ys | none => ys) st2
def forL {α : Type} (step : α → Ev → Sto → Res Fl) : List α → Ev → Sto → Res Fl
  | [], σ, st => .ok (.nx σ) st
  | x :: xs, σ, st => (step x σ st).bind fun f st1 => match f with
    | .nx σ1 => forL step xs σ1 st1
    | .rt w => .ok (.rt w) st1
    | .xc c as => .ok (.xc c as) st1
def whileL (c : Ev → Sto → Res Bool) (b : Ev → Sto → Res Fl) : Nat → Ev → Sto → Res Fl
  | 0, _, _ => .bad
  | n + 1, σ, st => (c σ st).bind fun k st1 => if k = true then (b σ st1).bind fun f st2 => match f with
      | .nx σ1 => whileL c b n σ1 st2
      | .rt w => .ok (.rt w) st2
      | .xc c as => .ok (.xc c as) st2
    else .ok (.nx σ) st1
def wipeE (σ : Ev) : List Nat → Ev
  | [] => σ
  | v :: vs => (wipeE σ vs).set v none
def rangeL (lo : Int) (c : Int) : Nat → List D
  | 0 => []
  | n + 1 => .int lo :: rangeL (lo + c) c n
def enumL (i : Nat) : List D → List D
  | [] => []
  | x :: xs => .tuple [.int i, x] :: enumL (i + 1) xs
def zipL : List D → List D → List D
  | x :: xs, y :: ys => .tuple [x, y] :: zipL xs ys
  | _, _ => []
def zip3L : List D → List D → List D → List D
  | x :: xs, y :: ys, z :: zs => .tuple [x, y, z] :: zip3L xs ys zs
  | _, _, _ => []
def itemsD : D → Option (List D)
  | .dict kvs => some (kvs.map fun p => .tuple [p.1, p.2])
  | _ => none
def valuesD : D → Option (List D)
  | .dict kvs => some (kvs.map fun p => p.2)
  | _ => none
/-- an item taken out -/
def popAt (xs : List D) : Option Int → Option (D × List D)
  | none => (xs[xs.length - 1]?).map fun y => (y, xs.dropLast)
  | some i => if xs.length ≤ LIM then (placeOf xs.length i).bind fun k => (xs[k]?).map fun y => (y, xs.eraseIdx k) else none
/-- a value as a test -/
def truthW (x : W) (st : Sto) : Res Bool := ofO ((peek x st).bind truthD) st
def listD : D → Option (List D)
  | .list xs => some xs
  | .tuple xs => some xs
  | _ => none
def zip3D : D → D → D → Option (List D)
  | .list xs, .list ys, .list zs => some (zip3L xs ys zs)
  | .tuple xs, .tuple ys, .tuple zs => some (zip3L xs ys zs)
  | _, _, _ => none
def atVar (σ : Ev) (i : Nat) : Option Nat := match σ[i]? with
  | some (some (.r a)) => some a
  | _ => none
def lstAt (σ : Ev) (i : Nat) (st : Sto) : Option Nat := (atVar σ i).bind fun a => match st[a]? with
  | some (.lst _) => some a
  | _ => none
def popSt (a : Nat) (i : Option Int) (st : Sto) : Option (D × Sto) := match st[a]? with
  | some (.lst xs) => (popAt xs i).map fun p => (p.1, st.set a (.lst p.2))
  | _ => none
/-- the words for the classes of exceptions -/
def KWORDS : List Str := ["face", "block", "point", "pairing", "calm", "heights", "pair", "taking", "flat", "number", "way", "chain", "part", "kept", "text", "line", "deed"]
def tbAt (x : Str) (j : Nat) (st : Sto) : Option Unit := match st[j]? with
  | some (.tb y) => if y = x then some () else none
  | _ => none
/-- what is told, or the word of what is refused -/
def saidR (n : Nat) (w : Bool) (r : Res W) : Res W :=
  match r with
  | .ok y st => (val y st).bind fun d st1 => .ok (.d (if w then .str "told" else .tuple [.str "told", d])) (st1.take n)
  | .exc c as st => match as, KWORDS[c]? with
    | [], some x => .ok (.d (if w then .str x else .tuple [.str x])) (st.take n)
    | _, _ => .bad
  | .bad => .bad
def zipD : D → D → Option (List D)
  | .list xs, .list ys => some (zipL xs ys)
  | .tuple xs, .tuple ys => some (zipL xs ys)
  | _, _ => none
section
variable (Φ : Nat → List W → Sto → Res W) (G : List D)
mutual
def ev : E → Ev → Sto → Res W
  | .var i, σ, st => match σ[i]? with
    | some (some w) => .ok w st
    | _ => .bad
  | .cn d, _, st => .ok (.d d) st
  | .glob i, _, st => match G[i]? with
    | some (.int n) => .ok (.d (.int n)) st
    | _ => .bad
  | .tup es, σ, st => (evD es σ st).bind fun xs st1 => .ok (.d (.tuple xs)) st1
  | .lst es, σ, st => (evD es σ st).bind fun xs st1 => .ok (.d (.list xs)) st1
  | .dnew, _, st => .ok (.d (.dict [])) st
  | .bin op a b, σ, st => (ev a σ st).bind fun x st1 => (ev b σ st1).bind fun y st2 => ofO ((peek x st2).bind fun d => (peek y st2).bind fun e => (binD op d e).map .d) st2
  | .neg a, σ, st => (ev a σ st).bind fun x st1 => match x with
    | .d (.int i) => .ok (.d (.int (-i))) st1
    | _ => .bad
  | .not a, σ, st => (ev a σ st).bind fun x st1 => (truthW x st1).bind fun k st2 => .ok (.d (.bool (!k))) st2
  | .and a b, σ, st => (ev a σ st).bind fun x st1 => match x with
    | .d (.bool true) => ev b σ st1
    | .d (.bool false) => .ok (.d (.bool false)) st1
    | _ => .bad
  | .or a b, σ, st => (ev a σ st).bind fun x st1 => match x with
    | .d (.bool false) => ev b σ st1
    | .d (.bool true) => .ok (.d (.bool true)) st1
    | _ => .bad
  | .cmp op a b, σ, st => (ev a σ st).bind fun x st1 => (ev b σ st1).bind fun y st2 => ofO ((peek x st2).bind fun d => (peek y st2).bind fun e => (cmpD op d e).map fun k => .d (.bool k)) st2
  | .chain op op' a b c, σ, st => (ev a σ st).bind fun x st1 => (ev b σ st1).bind fun y st2 =>
    (ofO ((peek x st2).bind fun d => (peek y st2).bind fun e => cmpD op d e) st2).bind fun k st3 => if k = true then
      (ev c σ st3).bind fun z st4 => ofO ((peek y st4).bind fun d => (peek z st4).bind fun e => (cmpD op' d e).map fun k => .d (.bool k)) st4
    else .ok (.d (.bool false)) st3
  | .ite c a b, σ, st => (ev c σ st).bind fun x st1 => (truthW x st1).bind fun k st1 => if k = true then ev a σ st1 else ev b σ st1
  | .call f es, σ, st => (evs es σ st).bind fun ws st1 => Φ f ws st1
  | .bi b es, σ, st => (evs es σ st).bind fun ws st1 => ofO ((ws.mapM fun w => peek w st1).bind fun vs => (biD b vs).map .d) st1
  | .isin a t, σ, st => (ev a σ st).bind fun x st1 => ofO ((peek x st1).map fun d => .d (.bool (isTy t d))) st1
  | .idx o i, σ, st => (ev o σ st).bind fun x st1 => (ev i σ st1).bind fun y st2 => ofO ((peek x st2).bind fun d => (peek y st2).bind fun e => (getD d e).map .d) st2
  | .slc o a b, σ, st => (ev o σ st).bind fun x st1 => (evO a σ st1).bind fun lo st2 => (evO b σ st2).bind fun hi st3 => ofO ((peek x st3).bind fun d => (sliceD d lo hi).map .d) st3
  | .back o, σ, st => (ev o σ st).bind fun x st1 => ofO ((peek x st1).bind fun d => match d with
    | .list xs => some (.d (.list xs.reverse))
    | .tuple xs => some (.d (.tuple xs.reverse))
    | _ => none) st1
  | .rep es k, σ, st => (evD es σ st).bind fun xs st1 => (ev k σ st1).bind fun y st2 => match y with
    | .d (.int n) => if xs.length * n.toNat ≤ LIM ∧ -(2 ^ 63) ≤ n ∧ n < 2 ^ 63 then .ok (.d (.list (List.replicate n.toNat xs).flatten)) st2 else .bad
    | _ => .bad
  | .inG neg a i, σ, st => (ev a σ st).bind fun x st1 => match G[i]? with
    | some (.tuple ys) => ofO ((peek x st1).bind fun d => if shapedB d && shapedB (.tuple ys) then some (.d (.bool (neg != (ys.any fun z => PyData.eqv z d)))) else none) st1
    | _ => .bad
  | .lof it, σ, st => (evI it σ st).bind fun xs st1 => .ok (.d (.list xs)) st1
  | .split o s, σ, st => (ev o σ st).bind fun x st1 => match x with
    | .d (.str a) => (ev s σ st1).bind fun y st2 => match y with
      | .d (.str b) => if (b.length == 0) = false ∧ a.length + 2 ≤ LIM then .ok (.d (.list ((Txt.split a b).map .str))) st2 else .bad
      | _ => .bad
    | _ => .bad
  | .me m o es, σ, st => (ev o σ st).bind fun x st1 => (ofO ((peek x st1).bind (meTy m)) st1).bind fun _ st1 => (evs es σ st1).bind fun ws st2 => ofO ((peek x st2).bind fun d => (ws.mapM fun w => peek w st2).bind fun vs => (meD m d vs).map .d) st2
  | .step2 o lo, σ, st => (ev o σ st).bind fun x st1 => ofO ((peek x st1).bind fun d => (step2D lo d).map .d) st1
  | .sum2 a, σ, st => (ev a σ st).bind fun x st1 => ofO ((peek x st1).bind fun d => (sum2D d).map .d) st1
  | .isE i n, σ, st => match σ[i]?, G[50]? with
    | some (some (.e a)), some (PyData.tuple (PyData.int b :: PyData.int c :: _)) => if (a : Int) = b ∧ 0 ≤ c then .ok (.d (.bool (decide (c = (n : Int)) || decide (n = 99)))) st else .bad
    | _, _ => .bad
  | .orv a b, σ, st => (ev a σ st).bind fun x st1 => (truthW x st1).bind fun k st2 => if k = true then .ok x st2 else ev b σ st2
  | .said x j w f es, σ, st => (ofO (tbAt x j st) st).bind fun _ st => (evs es σ st).bind fun ws st1 => saidR st.length w (Φ f ws st1)
  | .nvr, _, _ => .bad
  | .popv j o, σ, st => (ofO (lstAt σ j st) st).bind fun a st => (evO o σ st).bind fun i st1 => (ofO (popSt a i st1) st1).bind fun p st2 => .ok (.d p.1) p.2
  | .popi j e, σ, st => (ofO (lstAt σ j st) st).bind fun a st => (ev e σ st).bind fun x st1 => match x with
    | .d (.int i) => (ofO (popSt a (some i) st1) st1).bind fun p st2 => .ok (.d p.1) p.2
    | _ => .bad
  | .get1 o k, σ, st => (ev o σ st).bind fun x st1 => (ofO ((peek x st1).bind (meTy .get)) st1).bind fun _ st1 => (ev k σ st1).bind fun y st2 => ofO ((peek x st2).bind fun d => (peek y st2).bind fun e => (meD .get d [e]).map .d) st2
  | .get2 o k v, σ, st => (ev o σ st).bind fun x st1 => (ofO ((peek x st1).bind (meTy .get)) st1).bind fun _ st1 => (ev k σ st1).bind fun y st2 => (ev v σ st2).bind fun z st3 => match z with
    | .d e0 => ofO ((peek x st3).bind fun d => (peek y st3).bind fun e => (meD .get d [e, e0]).map .d) st3
    | _ => .bad
  | .pld, _, st => .ok (.r st.length) (st ++ [.dct []])
  | .fz e, σ, st => (ev e σ st).bind fun w st1 => (val w st1).bind fun d st2 => .ok (.d d) (st2.take st.length)
  | .lc elt t it own c, σ, st => (evI it σ st).bind fun xs st1 =>
    (compL (fun x st => (ofO (bindT t x (wipeE σ own)) st).bind fun σ1 st => (evC c σ1 st).bind fun k st => if k = true then (ev elt σ1 st).bind fun w st => (val w st).bind fun d st => .ok (some d) st else .ok none st) xs st1).bind fun ys st2 => .ok (.d (.list ys)) st2
def evs : Es → Ev → Sto → Res (List W)
  | .nil, _, st => .ok [] st
  | .cons e es, σ, st => (ev e σ st).bind fun x st1 => (evs es σ st1).bind fun xs st2 => .ok (x :: xs) st2
/-- as trees -/
def evD : Es → Ev → Sto → Res (List D)
  | .nil, _, st => .ok [] st
  | .cons e es, σ, st => (ev e σ st).bind fun x st1 => (val x st1).bind fun d st2 => (evD es σ st2).bind fun xs st3 => .ok (d :: xs) st3
def evO : Oe → Ev → Sto → Res (Option Int)
  | .no, _, st => .ok none st
  | .yes e, σ, st => (ev e σ st).bind fun x st1 => match x with
    | .d (.int i) => .ok (some i) st1
    | _ => .bad
def evC : Oe → Ev → Sto → Res Bool
  | .no, _, st => .ok true st
  | .yes e, σ, st => (ev e σ st).bind fun x st1 => truthW x st1
/-- what is walked -/
def evI : I → Ev → Sto → Res (List D)
  | .e e, σ, st => (ev e σ st).bind fun x st1 => (val x st1).bind fun d st2 => ofO (seqD d) st2
  | .r1 a, σ, st => (ev a σ st).bind fun x st1 => match x with
    | .d (.int j) => if smallB j then .ok (rangeL 0 1 j.toNat) st1 else .bad
    | _ => .bad
  | .r2 a b, σ, st => (ev a σ st).bind fun x st1 => (ev b σ st1).bind fun y st2 => match x, y with
    | .d (.int i), .d (.int j) => if smallB i && smallB j then .ok (rangeL i 1 (j - i).toNat) st2 else .bad
    | _, _ => .bad
  | .r3 a b c, σ, st => (ev a σ st).bind fun x st1 => (ev b σ st1).bind fun y st2 => (ev c σ st2).bind fun z st3 => match x, y, z with
    | .d (.int i), .d (.int j), .d (.int k) => if smallB i && smallB j && decide (k = -1) then .ok (rangeL i (-1) (i - j).toNat) st3 else .bad
    | _, _, _ => .bad
  | .gl i, _, st => match G[i]? with
    | some (.tuple ys) => .ok ys st
    | _ => .bad
  | .en a, σ, st => (ev a σ st).bind fun x st1 => (val x st1).bind fun d st2 => ofO ((listD d).map (enumL 0)) st2
  | .z2 a b, σ, st => (ev a σ st).bind fun x st1 => (val x st1).bind fun d st2 => (ev b σ st2).bind fun y st3 => (val y st3).bind fun e st4 => ofO (zipD d e) st4
  | .z3 a b c, σ, st => (ev a σ st).bind fun x st1 => (val x st1).bind fun d st2 => (ev b σ st2).bind fun y st3 => (val y st3).bind fun e st4 => (ev c σ st4).bind fun z st5 => (val z st5).bind fun f st6 => ofO (zip3D d e f) st6
  | .items a, σ, st => (ev a σ st).bind fun x st1 => (val x st1).bind fun d st2 => ofO (itemsD d) st2
  | .values a, σ, st => (ev a σ st).bind fun x st1 => (val x st1).bind fun d st2 => ofO (valuesD d) st2
end
end
section
variable (Φ : Nat → List W → Sto → Res W) (G : List D)
/-- as a test -/
def evT (e : E) (σ : Ev) (st : Sto) : Res Bool := (ev Φ G e σ st).bind fun x st1 => truthW x st1
end
/-! ### statements -/
mutual
inductive S where
  | asg (i : Nat) (e : E) (m : Bool)
  | asgT (is : List Nat) (e : E)
  | asgP (is : List Nat) (es : Es)
  | asgQ (is : List Nat) (ms : List Bool) (es : Es)
  | ret (e : E)
  | retM (i : Nat)
  | retN (e : E)
  | ife (c : E) (a b : Ss)
  | fori (t : Tg) (it : I) (b : Ss) (own : List Nat) (cut : Bool)
  | whil (c : E) (b : Ss) (own : List Nat) (cut : Bool)
  | asgDL (i : Nat) (k : E) (t : Tg) (it : I) (own : List Nat)
  | app2 (i : Nat) (k e : E)
  | rem (i : Nat) (e : E)
  | expr (e : E)
  | app (i : Nat) (e : E)
  | ext (i : Nat) (e : E)
  | seti (i : Nat) (k v : E)
  | rais (c : Nat) (es : Es)
  | never
  | nvr
  | exprX (f : Nat) (es : Es)
  | retX (f : Nat) (es : Es)
  | pass
inductive Ss where
  | nil
  | cons (s : S) (r : Ss)
end
/-- a new object of a tree -/
def newOb : D → Option Ob
  | .list xs => some (.lst xs)
  | .dict kvs => some (.dct kvs)
  | _ => none
/-- an expression that makes a new object -/
def listyE : E → Bool
  | .lst _ => true
  | .lc _ _ _ _ _ => true
  | _ => false
def freshE : E → Bool
  | .bin .Add _ b => listyE b
  | .lst _ => true
  | .dnew => true
  | .rep _ _ => true
  | .lc _ _ _ _ _ => true
  | _ => false
/-- values into names -/
def storeW : List Nat → List W → Ev → Option Ev
  | [], [], σ => some σ
  | i :: is, w :: ws, σ => storeW is ws (σ.set i (some w))
  | _, _, _ => none
/-- a value that a name keeps: a new object comes into the store -/
def keepW (m : Bool) (e : E) (x : W) (st : Sto) : Res W := if m = true then
    match x with
    | .d d => if freshE e = true then match newOb d with
      | some ob => .ok (.r st.length) (st ++ [ob])
      | none => .bad
      else .bad
    | .r a => .ok (.r a) st
    | .e _ => .bad
  else (val x st).bind fun d st2 => .ok (.d d) st2
def FUEL : Nat := 1000000000
/-- a call's answer, or its exception as an end -/
def thruX (r : Res W) (k : W → Sto → Res Fl) : Res Fl :=
  match r with
  | .ok w st => k w st
  | .exc c as st => .ok (.xc c as) st
  | .bad => .bad
@[simp] theorem thruX_ok (w : W) (st : Sto) (k : W → Sto → Res Fl) : thruX (.ok w st) k = k w st := rfl
@[simp] theorem thruX_exc (c : Nat) (as : List D) (st : Sto) (k : W → Sto → Res Fl) : thruX (.exc c as st) k = .ok (.xc c as) st := rfl
def setSlot (ob : Ob) (k v : D) : Option Ob :=
  match ob, k with
  | .lst xs, .int i => (placeOf xs.length i).map fun j => .lst (xs.set j v)
  | .dct kvs, k => if keysOk kvs k && decide (kvs.length < LIM) then some (.dct (putD kvs k v)) else none
  | _, _ => none
def appSlot (ob : Ob) (x : D) : Option Ob :=
  match ob with
  | .lst xs => if xs.length < LIM then some (.lst (xs ++ [x])) else none
  | _ => none
def extSlot (ob : Ob) (x : D) : Option Ob :=
  match ob, x with
  | .lst xs, .list ys => if xs.length + ys.length < LIM then some (.lst (xs ++ ys)) else none
  | _, _ => none
/-- the place of a key -/
def idxD (k : D) : List (D × List D) → Option Nat
  | [] => none
  | p :: r => if PyData.eqv p.1 k then some 0 else (idxD k r).map (· + 1)
def app2Slot (ob : Ob) (n : Nat) (x : D) : Option Ob :=
  match ob with
  | .dl kvs => (kvs[n]?).bind fun p => if p.2.length < LIM then some (.dl (kvs.set n (p.1, p.2 ++ [x]))) else none
  | _ => none
def remSlot (ob : Ob) (x : D) : Option Ob :=
  match ob with
  | .lst xs => if shapedB x && shapedB (.list xs) then (indexD x xs 0).map fun n => .lst (xs.eraseIdx n) else none
  | _ => none
def dlAt (σ : Ev) (i : Nat) (st : Sto) : Option Nat := (atVar σ i).bind fun a => match st[a]? with
  | some (.dl _) => some a
  | _ => none
def dlIdx (σ : Ev) (i : Nat) (k : D) (st : Sto) : Option Nat := (atVar σ i).bind fun a => match st[a]? with
  | some (.dl es) => if tupK k then idxD k es else none
  | _ => none
/-- keys of a new dict of lists -/
def newKeys (ks : List D) : Bool := ks.all tupK && decide (ks.length < LIM) && decide (ks.Pairwise fun a b => PyData.eqv a b = false)
/-- objects that were made within are let go -/
def cutE (n : Nat) (σ : Ev) : Ev := σ.map fun w => match w with
  | some (.r a) => if a < n then some (.r a) else none
  | w => w
def rest (n : Nat) (own : List Nat) (cut : Bool) (σ : Ev) (st : Sto) : Res Fl := if cut then .ok (.nx (cutE n (wipeE σ own))) (st.take n) else .ok (.nx (wipeE σ own)) st
def change (σ : Ev) (i : Nat) (f : Ob → Option Ob) (st : Sto) : Option Sto := (atVar σ i).bind fun a => (st[a]?).bind fun ob => (f ob).map fun ob' => st.set a ob'
section
variable (Φ : Nat → List W → Sto → Res W) (G : List D)
/-- values that names keep -/
def evQ : List Bool → Es → Ev → Sto → Res (List W)
  | [], .nil, _, st => .ok [] st
  | m :: ms, .cons e es, σ, st => (ev Φ G e σ st).bind fun x st1 => (keepW m e x st1).bind fun w st2 => (evQ ms es σ st2).bind fun ws st3 => .ok (w :: ws) st3
  | _, _, _, _ => .bad
mutual
def ex : S → Ev → Sto → Res Fl
  | .asg i e m, σ, st => (ev Φ G e σ st).bind fun x st1 => if m = true then
      match x with
      | .d d => if freshE e = true then match newOb d with
        | some ob => .ok (.nx (σ.set i (some (.r st1.length)))) (st1 ++ [ob])
        | none => .bad
        else .bad
      | .r a => .ok (.nx (σ.set i (some (.r a)))) st1
      | .e _ => .bad
    else (val x st1).bind fun d st2 => .ok (.nx (σ.set i (some (.d d)))) st2
  | .asgT is e, σ, st => (ev Φ G e σ st).bind fun x st1 => match x with
    | .d (.tuple xs) => ofO ((storeT is xs σ).map .nx) st1
    | _ => .bad
  | .asgP is es, σ, st => (evD Φ G es σ st).bind fun xs st1 => ofO ((storeT is xs σ).map .nx) st1
  | .asgQ is ms es, σ, st => (evQ Φ G ms es σ st).bind fun ws st1 => ofO ((storeW is ws σ).map .nx) st1
  | .ret e, σ, st => (ev Φ G e σ st).bind fun x st1 => (val x st1).bind fun d st2 => .ok (.rt (.d d)) st2
  | .retM i, σ, st => match σ[i]? with
    | some (some w) => .ok (.rt w) st
    | _ => .bad
  | .retN e, σ, st => (ev Φ G e σ st).bind fun x st1 => match x with
    | .d d => if freshE e = true then match newOb d with
      | some ob => .ok (.rt (.r st1.length)) (st1 ++ [ob])
      | none => .bad
      else .bad
    | .r a => .ok (.rt (.r a)) st1
    | .e _ => .bad
  | .ife c a b, σ, st => (evT Φ G c σ st).bind fun k st1 => if k = true then exs a σ st1 else exs b σ st1
  | .fori t it b own cut, σ, st => (evI Φ G it σ st).bind fun xs st1 => forL (fun x σ st => (ofO (bindT t x σ) st).bind fun σ1 st => (exs b σ1 st).bind fun fl st2 => match fl with
    | .nx σ2 => rest st1.length own cut σ2 st2
    | .rt w => .ok (.rt w) st2
    | .xc c as => .ok (.xc c as) st2) xs σ st1
  | .whil c b own cut, σ, st => whileL (fun σ st => evT Φ G c σ st) (fun σ st1 => (exs b σ st1).bind fun fl st2 => match fl with
    | .nx σ2 => rest st.length own cut σ2 st2
    | .rt w => .ok (.rt w) st2
    | .xc c as => .ok (.xc c as) st2) FUEL σ st
  | .asgDL i k t it own, σ, st => (evI Φ G it σ st).bind fun xs st1 =>
    (compL (fun x st => (ofO (bindT t x (wipeE σ own)) st).bind fun σ1 st => (ev Φ G k σ1 st).bind fun w st => (val w st).bind fun d st => .ok (some d) st) xs st1).bind fun ks st2 =>
      if newKeys ks then .ok (.nx (σ.set i (some (.r st2.length)))) (st2 ++ [.dl (ks.map fun k => (k, []))]) else .bad
  | .app2 i k e, σ, st => (ofO (dlAt σ i st) st).bind fun _ st => (ev Φ G k σ st).bind fun x st1 => (val x st1).bind fun d st2 => (ofO (dlIdx σ i d st2) st2).bind fun n st2 => (ev Φ G e σ st2).bind fun y st3 => (val y st3).bind fun e st4 => (ofO (change σ i (fun ob => app2Slot ob n e) st4) st4).bind fun st5 _ => .ok (.nx σ) st5
  | .rem i e, σ, st => (ofO (lstAt σ i st) st).bind fun _ st => (ev Φ G e σ st).bind fun x st1 => (val x st1).bind fun d st2 => (ofO (change σ i (fun ob => remSlot ob d) st2) st2).bind fun st3 _ => .ok (.nx σ) st3
  | .expr e, σ, st => (ev Φ G e σ st).bind fun _ st1 => .ok (.nx σ) st1
  | .app i e, σ, st => (ofO (lstAt σ i st) st).bind fun _ st => (ev Φ G e σ st).bind fun x st1 => (val x st1).bind fun d st2 => (ofO (change σ i (fun ob => appSlot ob d) st2) st2).bind fun st3 _ => .ok (.nx σ) st3
  | .ext i e, σ, st => (ofO (lstAt σ i st) st).bind fun _ st => (ev Φ G e σ st).bind fun x st1 => (val x st1).bind fun d st2 => (ofO (change σ i (fun ob => extSlot ob d) st2) st2).bind fun st3 _ => .ok (.nx σ) st3
  | .seti i k v, σ, st => (ofO (atVar σ i) st).bind fun _ st => (ev Φ G v σ st).bind fun x st1 => (val x st1).bind fun d st2 => (ev Φ G k σ st2).bind fun y st3 => (val y st3).bind fun e st4 => (ofO (change σ i (fun ob => setSlot ob e d) st4) st4).bind fun st5 _ => .ok (.nx σ) st5
  | .rais c es, σ, st => (evD Φ G es σ st).bind fun xs st1 => .ok (.xc c xs) st1
  | .never, _, _ => .bad
  | .nvr, _, _ => .bad
  | .exprX f es, σ, st => (evs Φ G es σ st).bind fun ws st1 => thruX (Φ f ws st1) fun _ st2 => .ok (.nx σ) st2
  | .retX f es, σ, st => (evs Φ G es σ st).bind fun ws st1 => thruX (Φ f ws st1) fun w st2 => (val w st2).bind fun d st3 => .ok (.rt (.d d)) st3
  | .pass, σ, st => .ok (.nx σ) st
def exs : Ss → Ev → Sto → Res Fl
  | .nil, σ, st => .ok (.nx σ) st
  | .cons s r, σ, st => (ex s σ st).bind fun f st1 => match f with
    | .nx σ1 => exs r σ1 st1
    | .rt w => .ok (.rt w) st1
    | .xc c as => .ok (.xc c as) st1
end
end
structure Fn where
  np : Nat
  nn : Nat
  body : Ss
def startE (nn : Nat) (ws : List W) : Ev := ws.map some ++ List.replicate (nn - ws.length) none
/-- what a call leaves: the objects that stood before it; a new one that is handed back stands behind them -/
def finish (n0 : Nat) (fl : Fl) (st : Sto) : Res W :=
  match fl with
  | .nx _ => .ok (.d .none) (st.take n0)
  | .rt (.d x) => .ok (.d x) (st.take n0)
  | .rt (.r a) => if a < n0 then .ok (.r a) (st.take n0) else match st[a]? with
    | some ob => .ok (.r n0) (st.take n0 ++ [ob])
    | none => .bad
  | .rt (.e _) => .bad
  | .xc c as => .exc c as (st.take n0)
/-- no exception from within an expression -/
def noX {α : Type} (r : Res α) : Res α :=
  match r with
  | .ok a st => .ok a st
  | _ => .bad
@[simp] theorem noX_ok {α : Type} (a : α) (st : Sto) : noX (.ok a st) = .ok a st := rfl
abbrev Tbl := Nat → Option Fn
def callF (fs : Tbl) (G : List D) : Nat → Nat → List W → Sto → Res W
  | 0, _, _, _ => .bad
  | n + 1, f, ws, st => match fs f with
    | none => .bad
    | some fn => if ws.length = fn.np then (noX (exs (callF fs G n) G fn.body (startE fn.nn ws) st)).bind (finish st.length) else .bad
end TB
set_option maxRecDepth 100000
/-! TBRel: what a tree and a value of the machine have in common; worlds; what grows. -/
namespace TB
open PySem L2
def kD : Key → D
  | .inl i => .int i
  | .inr x => .str x
/-- a tuple that stays, a list that stays -/
def Stay (H : Hp) (Z : Addr → Prop) (a : Addr) (o : HO) : Prop := Rd H a o ∧ ¬ Z a
def StD (H : Hp) (Z : Addr → Prop) (a : Addr) (o : HO) : Prop := H a = some o ∧ ¬ Z a
def StT (H : Hp) (Z : Addr → Prop) (a : Addr) (xs : List V) : Prop := H a = some (.tup xs) ∧ ¬ Z a
def StL (K : PySem.W.Frag) (H : Hp) (Z : Addr → Prop) (a : Addr) (xs : List V) : Prop :=
  Stay H Z a (.lst xs) ∨
    ∃ (its : Array Value) (n : Nat), K.lookup a = some { cls := .type "list", data := .seq its n } ∧ its.size ≤ sizeLine ∧ Vals xs its.toList
/-- a list as it stands -/
def LsX (K : PySem.W.Frag) (H : Hp) (a : Addr) (xs : List V) : Prop :=
  Rd H a (.lst xs) ∨ ∃ (its : Array Value) (n : Nat), K.lookup a = some { cls := .type "list", data := .seq its n } ∧ its.size ≤ sizeLine ∧ Vals xs its.toList
theorem LsX.sq {K : PySem.W.Frag} {H : Hp} {a : Addr} {xs : List V} (h : LsX K H a xs) : SqL K H a xs := by
  rcases h with h | ⟨its, n, h1, h2, h3⟩
  · exact .inl h
  · exact .inr ⟨_, its, n, h1, rfl, rfl, rfl, h2, h3⟩
theorem LsX.at {X : Cx} {pins : List (Addr × Obj)} {σ : L2.St} {H : Hp} {s : Shared} {a : Addr} {xs : List V} (I : Inv X pins σ H s) (h : LsX X.K H a xs) :
    ∃ (its : List Value) (n : Nat), Vals xs its ∧ s.heap.get? a = some { cls := .type "list", data := .seq its.toArray n } ∧ xs.length ≤ sizeLine := by
  rcases h with h | ⟨its, n, h1, h2, h3⟩
  · obtain ⟨z, its, n, r, e⟩ := h.ok I.hok
    exact ⟨its, n, r, e, z⟩
  · refine ⟨its.toList, n, h3, I.kIn a _ h1, ?_⟩
    have e := h3.length
    rw [Array.length_toList] at e
    exact Nat.le_trans (Nat.le_of_eq e) h2
mutual
inductive Rel (K : PySem.W.Frag) (H : Hp) (Z : Addr → Prop) : D → V → Prop
  | non : Rel K H Z .none .non
  | bl (b : Bool) : Rel K H Z (.bool b) (.bl b)
  | int (i : Int) : Rel K H Z (.int i) (.int i)
  | str (x : Str) : Rel K H Z (.str x) (.str x)
  | tup {a : Addr} {xs : List V} {ds : List D} : StT H Z a xs → RelAll K H Z ds xs → Rel K H Z (.tuple ds) (.ref a)
  | lst {a : Addr} {xs : List V} {ds : List D} : StL K H Z a xs → RelAll K H Z ds xs → Rel K H Z (.list ds) (.ref a)
  | dK {a : Addr} {kvs : List (Key × V)} {es : List (D × D)} : StD H Z a (.dK kvs) → RelK K H Z es kvs → Rel K H Z (.dict es) (.ref a)
  | dT {a : Addr} {kvs : List (List Key × V)} {es : List (D × D)} : StD H Z a (.dT kvs) → RelT K H Z es kvs → Rel K H Z (.dict es) (.ref a)
inductive RelAll (K : PySem.W.Frag) (H : Hp) (Z : Addr → Prop) : List D → List V → Prop
  | nil : RelAll K H Z [] []
  | cons {d : D} {ds : List D} {v : V} {vs : List V} : Rel K H Z d v → RelAll K H Z ds vs → RelAll K H Z (d :: ds) (v :: vs)
inductive RelK (K : PySem.W.Frag) (H : Hp) (Z : Addr → Prop) : List (D × D) → List (Key × V) → Prop
  | nil : RelK K H Z [] []
  | cons {k : Key} {d : D} {es : List (D × D)} {v : V} {kvs : List (Key × V)} : Rel K H Z d v → RelK K H Z es kvs → RelK K H Z ((kD k, d) :: es) ((k, v) :: kvs)
inductive RelT (K : PySem.W.Frag) (H : Hp) (Z : Addr → Prop) : List (D × D) → List (List Key × V) → Prop
  | nil : RelT K H Z [] []
  | cons {k : List Key} {d : D} {es : List (D × D)} {v : V} {kvs : List (List Key × V)} : Rel K H Z d v → RelT K H Z es kvs → RelT K H Z ((.tuple (k.map kD), d) :: es) ((k, v) :: kvs)
end
/-- from (H, Z) to (H', Z'): what stays, stays -/
def Ntb (o : HO) : Prop := ∀ ps, o ≠ .tbl ps
def Grows (H : Hp) (Z : Addr → Prop) (H' : Hp) (Z' : Addr → Prop) : Prop := ∀ p o, H p = some o → ¬ Z p → Ntb o → H' p = some o ∧ ¬ Z' p
theorem Grows.refl {H : Hp} {Z : Addr → Prop} : Grows H Z H Z := fun _ _ h n _ => ⟨h, n⟩
theorem Grows.trans {H H1 H2 : Hp} {Z Z1 Z2 : Addr → Prop} (a : Grows H Z H1 Z1) (b : Grows H1 Z1 H2 Z2) : Grows H Z H2 Z2 := fun p o h n t => b p o (a p o h n t).1 (a p o h n t).2 t
theorem Stay.grow {H H' : Hp} {Z Z' : Addr → Prop} {a : Addr} {o : HO} (g : Grows H Z H' Z') (h : Stay H Z a o) (nt : Ntb o := by intro _ z; cases z) : Stay H' Z' a o := by
  obtain ⟨h1 | ⟨ob, h1⟩, n⟩ := h
  · exact ⟨.inl (g _ _ h1 n nt).1, (g _ _ h1 n nt).2⟩
  · have q := g _ _ h1 n (fun _ z => by cases z)
    exact ⟨.inr ⟨ob, q.1⟩, q.2⟩
theorem StD.grow {H H' : Hp} {Z Z' : Addr → Prop} {a : Addr} {o : HO} (g : Grows H Z H' Z') (h : StD H Z a o) (nt : Ntb o := by intro _ z; cases z) : StD H' Z' a o := g a _ h.1 h.2 nt
theorem StT.grow {H H' : Hp} {Z Z' : Addr → Prop} {a : Addr} {xs : List V} (g : Grows H Z H' Z') (h : StT H Z a xs) : StT H' Z' a xs := g a _ h.1 h.2 (fun _ z => by cases z)
theorem StL.grow {K : PySem.W.Frag} {H H' : Hp} {Z Z' : Addr → Prop} {a : Addr} {xs : List V} (g : Grows H Z H' Z') (h : StL K H Z a xs) : StL K H' Z' a xs := by
  rcases h with h | h
  · exact .inl (h.grow g)
  · exact .inr h
theorem StT.sq {K : PySem.W.Frag} {H : Hp} {Z : Addr → Prop} {a : Addr} {xs : List V} (h : StT H Z a xs) : SqT K H a xs := .inl (.inl h.1)
theorem StL.sq {K : PySem.W.Frag} {H : Hp} {Z : Addr → Prop} {a : Addr} {xs : List V} (h : StL K H Z a xs) : LsX K H a xs := by
  rcases h with h | h
  · exact .inl h.1
  · exact .inr h
mutual
theorem Rel.grow {K : PySem.W.Frag} {H H' : Hp} {Z Z' : Addr → Prop} (g : Grows H Z H' Z') : ∀ {d : D} {v : V}, Rel K H Z d v → Rel K H' Z' d v
  | _, _, .non => .non
  | _, _, .bl b => .bl b
  | _, _, .int i => .int i
  | _, _, .str x => .str x
  | _, _, .tup h r => .tup (h.grow g) (RelAll.grow g r)
  | _, _, .lst h r => .lst (h.grow g) (RelAll.grow g r)
  | _, _, .dK h r => .dK (h.grow g) (RelK.grow g r)
  | _, _, .dT h r => .dT (h.grow g) (RelT.grow g r)
theorem RelAll.grow {K : PySem.W.Frag} {H H' : Hp} {Z Z' : Addr → Prop} (g : Grows H Z H' Z') : ∀ {ds : List D} {vs : List V}, RelAll K H Z ds vs → RelAll K H' Z' ds vs
  | _, _, .nil => .nil
  | _, _, .cons h r => .cons (Rel.grow g h) (RelAll.grow g r)
theorem RelK.grow {K : PySem.W.Frag} {H H' : Hp} {Z Z' : Addr → Prop} (g : Grows H Z H' Z') : ∀ {es : List (D × D)} {kvs : List (Key × V)}, RelK K H Z es kvs → RelK K H' Z' es kvs
  | _, _, .nil => .nil
  | _, _, .cons h r => .cons (Rel.grow g h) (RelK.grow g r)
theorem RelT.grow {K : PySem.W.Frag} {H H' : Hp} {Z Z' : Addr → Prop} (g : Grows H Z H' Z') : ∀ {es : List (D × D)} {kvs : List (List Key × V)}, RelT K H Z es kvs → RelT K H' Z' es kvs
  | _, _, .nil => .nil
  | _, _, .cons h r => .cons (Rel.grow g h) (RelT.grow g r)
end
theorem RelAll.length {K : PySem.W.Frag} {H : Hp} {Z : Addr → Prop} : ∀ {ds : List D} {vs : List V}, RelAll K H Z ds vs → ds.length = vs.length
  | _, _, .nil => rfl
  | _, _, .cons _ r => by rw [List.length_cons, List.length_cons, r.length]
theorem RelAll.get {K : PySem.W.Frag} {H : Hp} {Z : Addr → Prop} : ∀ {ds : List D} {vs : List V} {i : Nat} {d : D}, RelAll K H Z ds vs → ds[i]? = some d → ∃ v, vs[i]? = some v ∧ Rel K H Z d v
  | _, _, _, _, .nil, e => by simp at e
  | _, _, 0, _, .cons h _, e => by
    simp at e; subst e; exact ⟨_, rfl, h⟩
  | _, _, i + 1, _, .cons _ r, e => by
    obtain ⟨v, h1, h2⟩ := RelAll.get (i := i) r (by simpa using e)
    exact ⟨v, by simpa using h1, h2⟩
theorem RelAll.app {K : PySem.W.Frag} {H : Hp} {Z : Addr → Prop} : ∀ {ds es : List D} {vs us : List V}, RelAll K H Z ds vs → RelAll K H Z es us → RelAll K H Z (ds ++ es) (vs ++ us)
  | _, _, _, _, .nil, h => h
  | _, _, _, _, .cons h r, h2 => .cons h (r.app h2)
theorem RelAll.take {K : PySem.W.Frag} {H : Hp} {Z : Addr → Prop} : ∀ {ds : List D} {vs : List V} (n : Nat), RelAll K H Z ds vs → RelAll K H Z (ds.take n) (vs.take n)
  | _, _, 0, _ => .nil
  | _, _, _ + 1, .nil => .nil
  | _, _, n + 1, .cons h r => .cons h (r.take n)
theorem RelAll.drop {K : PySem.W.Frag} {H : Hp} {Z : Addr → Prop} : ∀ {ds : List D} {vs : List V} (n : Nat), RelAll K H Z ds vs → RelAll K H Z (ds.drop n) (vs.drop n)
  | _, _, 0, r => r
  | _, _, _ + 1, .nil => .nil
  | _, _, n + 1, .cons _ r => r.drop n
theorem RelAll.set {K : PySem.W.Frag} {H : Hp} {Z : Addr → Prop} {d : D} {v : V} (h : Rel K H Z d v) : ∀ {ds : List D} {vs : List V} (n : Nat), RelAll K H Z ds vs → RelAll K H Z (ds.set n d) (vs.set n v)
  | _, _, _, .nil => .nil
  | _, _, 0, .cons _ r => .cons h r
  | _, _, n + 1, .cons q r => .cons q (r.set h n)
theorem RelAll.rev {K : PySem.W.Frag} {H : Hp} {Z : Addr → Prop} : ∀ {ds : List D} {vs : List V}, RelAll K H Z ds vs → RelAll K H Z ds.reverse vs.reverse
  | _, _, .nil => .nil
  | _, _, .cons h r => by
    rw [List.reverse_cons, List.reverse_cons]
    exact r.rev.app (.cons h .nil)
theorem RelAll.rep {K : PySem.W.Frag} {H : Hp} {Z : Addr → Prop} {ds : List D} {vs : List V} (h : RelAll K H Z ds vs) : ∀ n : Nat, RelAll K H Z (List.replicate n ds).flatten (List.replicate n vs).flatten
  | 0 => .nil
  | n + 1 => by
    rw [List.replicate_succ, List.flatten_cons, List.replicate_succ, List.flatten_cons]
    exact h.app (h.rep n)
/-- fewer are kept off -/
theorem grows_less {H : Hp} {Z Z' : Addr → Prop} (h : ∀ p, Z' p → Z p) : Grows H Z H Z' := fun p _ e n _ => ⟨e, fun z => n (h p z)⟩
theorem grows_new {H : Hp} {Z : Addr → Prop} {p : Addr} {o : HO} (h : H p = none) : Grows H Z (upd H p o) Z := fun q u e n _ => ⟨by rw [upd_ne (ne_of_none e h)]; exact e, n⟩
theorem grows_keep {H : Hp} {Z Z' : Addr → Prop} {p : Addr} {o : HO} (h : H p = none) (hz : ∀ q, Z' q → Z q ∨ q = p) : Grows H Z (upd H p o) Z' := fun q u e n _ =>
  ⟨by rw [upd_ne (ne_of_none e h)]; exact e, fun z => (hz q z).elim n (ne_of_none e h)⟩
theorem grows_mut {H : Hp} {Z : Addr → Prop} {p : Addr} {o : HO} (h : Z p) : Grows H Z (upd H p o) Z := fun q u e n _ => ⟨by rw [upd_ne (fun z => n (by rw [z]; exact h))]; exact e, n⟩
/-! ### worlds -/
def Ob.live : Ob → Bool
  | .frz _ => false
  | _ => true
abbrev As := List (Addr × List Addr)
/-- addresses whose objects change -/
def Mof (st : Sto) (as : As) (p : Addr) : Prop := ∃ (i : Nat) (ob : Ob) (a : Addr) (qs : List Addr), st[i]? = some ob ∧ ob.live = true ∧ as[i]? = some (a, qs) ∧ (p = a ∨ p ∈ qs)
/-- a dict's lists that change -/
inductive RelDL (K : PySem.W.Frag) (H : Hp) (Z : Addr → Prop) : List (D × List D) → List (List Key × V) → List Addr → Prop
  | nil : RelDL K H Z [] [] []
  | cons {k : List Key} {ds : List D} {vs : List V} {q : Addr} {es : List (D × List D)} {kvs : List (List Key × V)} {qs : List Addr} : H q = some (.lst vs) → RelAll K H Z ds vs → RelDL K H Z es kvs qs → RelDL K H Z ((.tuple (k.map kD), ds) :: es) ((k, .ref q) :: kvs) (q :: qs)
/-- a table of code objects of the def x -/
def TabZ (K : PySem.W.Frag) (H : Hp) (Z : Addr → Prop) (a : Addr) (x : Str) : Prop := a = (He.cT K (x, none)).2 ∧ ∃ ps : Array Value, H a = some (.tbl ps) ∧ TriplesOk ps.toList ∧
  ∀ (pos : Pos) (cv : Value), codeAmong pos ps.toList = some cv → ∃ c, cv = .ref c ∧ H c = some (LamX.CodeO c (x ++ ".<locals>." ++ "<lambda>")) ∧ ¬ Z c
inductive Slot (K : PySem.W.Frag) (H : Hp) (Z : Addr → Prop) : Ob → Addr → List Addr → Prop
  | lst {a : Addr} {vs : List V} {ds : List D} : H a = some (.lst vs) → RelAll K H Z ds vs → Slot K H Z (.lst ds) a []
  | dK {a : Addr} {kvs : List (Key × V)} {es : List (D × D)} : H a = some (.dK kvs) → RelK K H Z es kvs → Slot K H Z (.dct es) a []
  | dT {a : Addr} {kvs : List (List Key × V)} {es : List (D × D)} : H a = some (.dT kvs) → RelT K H Z es kvs → Slot K H Z (.dct es) a []
  | dl {a : Addr} {kvs : List (List Key × V)} {es : List (D × List D)} {qs : List Addr} : H a = some (.dT kvs) → RelDL K H Z es kvs qs → (a :: qs).Nodup → Slot K H Z (.dl es) a qs
  | frz {a : Addr} {d : D} {qs : List Addr} : Rel K H Z d (.ref a) → Slot K H Z (.frz d) a qs
  | tb {a : Addr} {x : Str} : TabZ K H Z a x → Slot K H Z (.tb x) a []
/-- all that is kept off: what changes, and what is reserved -/
def Zof (st : Sto) (as : As) (R : Addr → Prop) (p : Addr) : Prop := Mof st as p ∨ R p
/-- what is reserved is no tuple, no table, no code object -/
def Rob (o : HO) : Prop := (∀ xs, o ≠ .tup xs) ∧ Ntb o ∧ ∀ φ, o ≠ .ext φ
structure Wld (K : PySem.W.Frag) (H : Hp) (R : Addr → Prop) (st : Sto) (as : As) : Prop where
  len : st.length = as.length
  slot : ∀ (i : Nat) (ob : Ob) (a : Addr) (qs : List Addr), st[i]? = some ob → as[i]? = some (a, qs) → Slot K H (Zof st as R) ob a qs
  inj : ∀ (i j : Nat) (ob ob' : Ob) (a : Addr) (qs : List Addr) (a' : Addr) (qs' : List Addr) (p : Addr), st[i]? = some ob → st[j]? = some ob' → ob.live = true → ob'.live = true → as[i]? = some (a, qs) → as[j]? = some (a', qs') → (p = a ∨ p ∈ qs) → (p = a' ∨ p ∈ qs') → i = j
  res : ∀ p, R p → (∃ o, H p = some o) ∧ ¬ Mof st as p
  rt : ∀ p o, R p → H p = some o → Rob o
/-- names' values -/
def RelW (K : PySem.W.Frag) (H : Hp) (Z : Addr → Prop) (as : As) : W → V → Prop
  | .d x, v => Rel K H Z x v
  | .r i, v => ∃ (a : Addr) (qs : List Addr), as[i]? = some (a, qs) ∧ v = .ref a
  | .e a, v => v = .ref a
def Loc (K : PySem.W.Frag) (H : Hp) (Z : Addr → Prop) (as : As) (σ : Ev) (σV : St) : Prop := σ.length = σV.length ∧ ∀ (i : Nat) (w : W), σ[i]? = some (some w) → ∃ v, σV[i]? = some (some v) ∧ RelW K H Z as w v
section
variable {K : PySem.W.Frag} {H H' : Hp} {R R' Z Z' : Addr → Prop} {st st' : Sto} {as as' : As}
theorem RelDL.grow {es : List (D × List D)} {kvs : List (List Key × V)} {qs : List Addr} (g : Grows H Z H' Z') (h : RelDL K H Z es kvs qs) (hl : ∀ p o, p ∈ qs → H p = some o → H' p = some o) : RelDL K H' Z' es kvs qs := by
  induction h with
  | nil => exact .nil
  | cons e r _ ih => exact .cons (hl _ _ (List.mem_cons_self ..) e) (r.grow g) (ih fun p o hp => hl p o (List.mem_cons_of_mem _ hp))
theorem RelDL.there {es : List (D × List D)} {kvs : List (List Key × V)} {qs : List Addr} (h : RelDL K H Z es kvs qs) : ∀ {p : Addr}, p ∈ qs → ∃ vs, H p = some (.lst vs) := by
  induction h with
  | nil => intro p hp; cases hp
  | cons e r _ ih =>
    intro p hp
    rcases List.mem_cons.mp hp with rfl | hp
    · exact ⟨_, e⟩
    · exact ih hp
/-- where the lists change no more -/
theorem RelDL.tree {es : List (D × List D)} {kvs : List (List Key × V)} {qs : List Addr} (h : RelDL K H Z es kvs qs) (nz : ∀ q ∈ qs, ¬ Z q) : RelT K H Z (es.map fun p => (p.1, .list p.2)) kvs := by
  induction h with
  | nil => exact .nil
  | cons e r _ ih => exact .cons (.lst (.inl ⟨.inl e, nz _ (List.mem_cons_self ..)⟩) r) (ih fun q hq => nz q (List.mem_cons_of_mem _ hq))
theorem Slot.there {ob : Ob} {a : Addr} {qs : List Addr} (h : Slot K H Z ob a qs) (l : ob.live = true) {p : Addr} (hp : p = a ∨ p ∈ qs) : ∃ o, H p = some o := by
  cases h with
  | lst e _ => rcases hp with rfl | hp
               · exact ⟨_, e⟩
               · cases hp
  | dK e _ => rcases hp with rfl | hp
              · exact ⟨_, e⟩
              · cases hp
  | dT e _ => rcases hp with rfl | hp
              · exact ⟨_, e⟩
              · cases hp
  | dl e r _ => rcases hp with rfl | hp
                · exact ⟨_, e⟩
                · exact ⟨_, (r.there hp).choose_spec⟩
  | frz _ => cases l
  | tb t => rcases hp with rfl | hp
            · obtain ⟨_, _, e, _⟩ := t
              exact ⟨_, e⟩
            · cases hp
theorem Slot.frzI {d : D} {a : Addr} {qs : List Addr} (h : Slot K H Z (.frz d) a qs) : Rel K H Z d (.ref a) := by
  cases h with
  | frz h => exact h
theorem Wld.mof (w : Wld K H R st as) {p : Addr} (h : Mof st as p) : ∃ o, H p = some o := by
  obtain ⟨i, ob, a, qs, h1, h2, h3, h4⟩ := h
  exact (w.slot i ob a qs h1 h3).there h2 h4
theorem Wld.zof (w : Wld K H R st as) {p : Addr} (h : Zof st as R p) : ∃ o, H p = some o := by
  rcases h with h | h
  · exact w.mof h
  · exact (w.res p h).1
theorem Wld.notZ (w : Wld K H R st as) {p : Addr} (h : H p = none) : ¬ Zof st as R p := fun z => by
  obtain ⟨o, e⟩ := w.zof z
  rw [h] at e; cases e
/-- slots that keep their objects -/
theorem Slot.grow {ob : Ob} {a : Addr} {qs : List Addr} (g : Grows H Z H' Z') (hl : ob.live = true → ∀ p o, (p = a ∨ p ∈ qs) → H p = some o → H' p = some o) (h : Slot K H Z ob a qs) : Slot K H' Z' ob a qs := by
  cases h with
  | lst e r => exact .lst (hl rfl _ _ (.inl rfl) e) (r.grow g)
  | dK e r => exact .dK (hl rfl _ _ (.inl rfl) e) (r.grow g)
  | dT e r => exact .dT (hl rfl _ _ (.inl rfl) e) (r.grow g)
  | dl e r n => exact .dl (hl rfl _ _ (.inl rfl) e) (r.grow g fun p o hp => hl rfl p o (.inr hp)) n
  | frz r => exact .frz (r.grow g)
  | tb t =>
    obtain ⟨ea, ps, e, h2, h3⟩ := t
    refine .tb ⟨ea, ps, hl rfl _ _ (.inl rfl) e, h2, fun pos cv hc => ?_⟩
    obtain ⟨c, e1, e2, e3⟩ := h3 pos cv hc
    have q := g _ _ e2 e3 (fun ps => LamX.codeO_ne ps)
    exact ⟨c, e1, q.1, q.2⟩
/-- a new object beside the store -/
theorem Wld.alloc (w : Wld K H R st as) {p : Addr} {o : HO} (h : H p = none) : Wld K (upd H p o) R st as := by
  have g : Grows H (Zof st as R) (upd H p o) (Zof st as R) := grows_new h
  refine ⟨w.len, fun i ob a qs h1 h2 => (w.slot i ob a qs h1 h2).grow g fun _ q u hq e => by rw [upd_ne (ne_of_none e h)]; exact e, w.inj, fun q hq => ?_, fun q xs hq e => ?_⟩
  · obtain ⟨⟨u, e⟩, n⟩ := w.res q hq
    exact ⟨⟨u, by rw [upd_ne (ne_of_none e h)]; exact e⟩, n⟩
  · obtain ⟨⟨u, e'⟩, _⟩ := w.res q hq
    rw [upd_ne (ne_of_none e' h)] at e
    exact w.rt q xs hq e
/-- .. that is reserved -/
theorem Wld.allocR (w : Wld K H R st as) {p : Addr} {o : HO} (h : H p = none) (ho : Rob o := by refine ⟨?_, ?_, ?_⟩ <;> (intro _ z; cases z)) : Wld K (upd H p o) (fun q => R q ∨ q = p) st as := by
  have g : Grows H (Zof st as R) (upd H p o) (Zof st as fun q => R q ∨ q = p) := grows_keep h fun q z => by
    rcases z with z | z | z
    · exact .inl (.inl z)
    · exact .inl (.inr z)
    · exact .inr z
  refine ⟨w.len, fun i ob a qs h1 h2 => (w.slot i ob a qs h1 h2).grow g fun _ q u hq e => by rw [upd_ne (ne_of_none e h)]; exact e, w.inj, fun q hq => ?_, fun q xs hq e => ?_⟩
  rotate_left
  · rcases hq with hq | rfl
    · obtain ⟨⟨u, e'⟩, _⟩ := w.res q hq
      rw [upd_ne (ne_of_none e' h)] at e
      exact w.rt q xs hq e
    · rw [upd_same] at e
      exact Option.some.inj e ▸ ho
  rcases hq with hq | rfl
  · obtain ⟨⟨u, e⟩, n⟩ := w.res q hq
    exact ⟨⟨u, by rw [upd_ne (ne_of_none e h)]; exact e⟩, n⟩
  · exact ⟨⟨_, upd_same⟩, fun z => w.notZ h (.inl z)⟩
theorem zof_less (h : ∀ p, R' p → R p) : ∀ p, Zof st as R' p → Zof st as R p := fun p z => z.elim .inl fun z => .inr (h p z)
/-- fewer reserved -/
theorem Wld.less (w : Wld K H R st as) (h : ∀ p, R' p → R p) : Wld K H R' st as :=
  ⟨w.len, fun i ob a qs h1 h2 => (w.slot i ob a qs h1 h2).grow (grows_less (zof_less h)) fun _ _ _ _ e => e, w.inj, fun p hp => w.res p (h p hp), fun p xs hp => w.rt p xs (h p hp)⟩
/-- the reserved object is written -/
theorem Wld.resv (w : Wld K H R st as) {p : Addr} {o : HO} (h : R p) (ho : Rob o := by refine ⟨?_, ?_, ?_⟩ <;> (intro _ z; cases z)) : Wld K (upd H p o) R st as := by
  have hz : Zof st as R p := .inr h
  have nm := (w.res p h).2
  refine ⟨w.len, fun i ob a qs h1 h2 => (w.slot i ob a qs h1 h2).grow (grows_mut hz) fun l q u hq e => ?_, w.inj, fun q hq => ?_, fun q xs hq e => ?_⟩
  rotate_right
  · by_cases z : q = p
    · subst z
      rw [upd_same] at e
      exact Option.some.inj e ▸ ho
    · rw [upd_ne z] at e
      exact w.rt q xs hq e
  · have : q ≠ p := fun z => nm ⟨i, ob, a, qs, h1, l, h2, by rw [← z]; exact hq⟩
    rw [upd_ne this]; exact e
  · obtain ⟨⟨u, e⟩, n⟩ := w.res q hq
    by_cases z : q = p
    · subst z; exact ⟨⟨_, upd_same⟩, n⟩
    · exact ⟨⟨u, by rw [upd_ne z]; exact e⟩, n⟩
theorem get_set_same {α : Type} {l : List α} {i : Nat} {x y : α} (h : l[i]? = some x) : (l.set i y)[i]? = some y := by
  obtain ⟨h1, _⟩ := List.getElem?_eq_some_iff.mp h
  rw [List.getElem?_set_self h1]
/-- the set of what changes, when a place is written by a thing that changes still -/
theorem mof_set {i : Nat} {ob ob' : Ob} (h1 : st[i]? = some ob) (l : ob.live = true) (l' : ob'.live = true) (p : Addr) : Mof (st.set i ob') as p ↔ Mof st as p := by
  constructor
  · rintro ⟨j, o, a, qs, e1, e2, e3, e4⟩
    by_cases hj : j = i
    · subst hj
      exact ⟨j, ob, a, qs, h1, l, e3, e4⟩
    · rw [List.getElem?_set_ne (Ne.symm hj)] at e1
      exact ⟨j, o, a, qs, e1, e2, e3, e4⟩
  · rintro ⟨j, o, a, qs, e1, e2, e3, e4⟩
    by_cases hj : j = i
    · subst hj
      exact ⟨j, ob', a, qs, get_set_same h1, l', e3, e4⟩
    · exact ⟨j, o, a, qs, by rw [List.getElem?_set_ne (Ne.symm hj)]; exact e1, e2, e3, e4⟩
theorem zof_set {i : Nat} {ob ob' : Ob} (h1 : st[i]? = some ob) (l : ob.live = true) (l' : ob'.live = true) : Zof (st.set i ob') as R = Zof st as R := by
  funext p
  exact propext ⟨fun z => z.imp (mof_set h1 l l' p).mp id, fun z => z.imp (mof_set h1 l l' p).mpr id⟩
/-- an object of the store is written -/
theorem Wld.write (w : Wld K H R st as) {i : Nat} {ob ob' : Ob} {a : Addr} {qs : List Addr} {o : HO} (h1 : st[i]? = some ob) (h2 : as[i]? = some (a, qs)) (l : ob.live = true) (l' : ob'.live = true)
    (new : Slot K (upd H a o) (Zof st as R) ob' a qs) : Wld K (upd H a o) R (st.set i ob') as ∧ Grows H (Zof st as R) (upd H a o) (Zof (st.set i ob') as R) := by
  have hz : Zof st as R a := .inl ⟨i, ob, a, qs, h1, l, h2, .inl rfl⟩
  have g : Grows H (Zof st as R) (upd H a o) (Zof st as R) := grows_mut hz
  rw [zof_set h1 l l']
  refine ⟨⟨by rw [List.length_set]; exact w.len, fun j oj b rs e1 e2 => ?_, fun j k oj ok b rs b' rs' p e1 e2 l1 l2 f1 f2 p1 p2 => ?_, fun p hp => ?_, fun p xs hp e => ?_⟩, g⟩
  rotate_right
  · have : p ≠ a := fun z => (w.res p hp).2 ⟨i, ob, a, qs, h1, l, h2, .inl z⟩
    rw [upd_ne this] at e
    exact w.rt p xs hp e
  · rw [zof_set h1 l l']
    by_cases hj : j = i
    · subst hj
      rw [get_set_same h1] at e1
      rw [h2] at e2
      cases e1; cases e2
      exact new
    · rw [List.getElem?_set_ne (Ne.symm hj)] at e1
      refine (w.slot j oj b rs e1 e2).grow g fun lj q u hq e => ?_
      have : q ≠ a := fun z => hj (w.inj j i oj ob b rs a qs q e1 h1 lj l e2 h2 hq (.inl z))
      rw [upd_ne this]; exact e
  · have go : ∀ {j : Nat} {oj : Ob}, (st.set i ob')[j]? = some oj → oj.live = true → ∃ oj', st[j]? = some oj' ∧ oj'.live = true := fun {j oj} e lj => by
      by_cases hj : j = i
      · subst hj; exact ⟨ob, h1, l⟩
      · rw [List.getElem?_set_ne (Ne.symm hj)] at e; exact ⟨oj, e, lj⟩
    obtain ⟨o1, g1, g2⟩ := go e1 l1
    obtain ⟨o2, g3, g4⟩ := go e2 l2
    exact w.inj j k o1 o2 b rs b' rs' p g1 g3 g2 g4 f1 f2 p1 p2
  · obtain ⟨⟨u, e⟩, n⟩ := w.res p hp
    have n' : ¬ Mof (st.set i ob') as p := fun z => n ((mof_set h1 l l' p).mp z)
    have : p ≠ a := fun z => n ⟨i, ob, a, qs, h1, l, h2, .inl z⟩
    exact ⟨⟨u, by rw [upd_ne this]; exact e⟩, n'⟩
/-- an object of the store changes no more -/
theorem mof_frz {i : Nat} {d : D} {p : Addr} (h : Mof (st.set i (.frz d)) as p) : Mof st as p := by
  obtain ⟨j, o, a, qs, e1, e2, e3, e4⟩ := h
  by_cases hj : j = i
  · subst hj
    by_cases hl : j < st.length
    · rw [List.getElem?_set_self hl] at e1
      cases e1; cases e2
    · rw [List.getElem?_eq_none (by rw [List.length_set]; omega)] at e1; cases e1
  · rw [List.getElem?_set_ne (Ne.symm hj)] at e1
    exact ⟨j, o, a, qs, e1, e2, e3, e4⟩
theorem Wld.freeze (w : Wld K H R st as) {i : Nat} {ob : Ob} {a : Addr} {qs : List Addr} (nt : ob.isTb = false) (h1 : st[i]? = some ob) (h2 : as[i]? = some (a, qs)) :
    Wld K H R (st.set i (.frz ob.tree)) as ∧ Grows H (Zof st as R) H (Zof (st.set i (.frz ob.tree)) as R) ∧ Rel K H (Zof (st.set i (.frz ob.tree)) as R) ob.tree (.ref a) := by
  have hz : ∀ p, Zof (st.set i (.frz ob.tree)) as R p → Zof st as R p := fun p z => z.imp mof_frz id
  have g : Grows H (Zof st as R) H (Zof (st.set i (.frz ob.tree)) as R) := grows_less hz
  have rel : Rel K H (Zof (st.set i (.frz ob.tree)) as R) ob.tree (.ref a) := by
    have nq : ob.live = true → ∀ q, (q = a ∨ q ∈ qs) → ¬ Zof (st.set i (.frz ob.tree)) as R q := fun l q hq z => by
      rcases z with ⟨j, oj, b, rs, e1, e2, e3, e4⟩ | z
      · by_cases hj : j = i
        · subst hj
          rw [get_set_same h1] at e1
          cases e1; cases e2
        · rw [List.getElem?_set_ne (Ne.symm hj)] at e1
          exact hj (w.inj j i oj ob b rs a qs q e1 h1 e2 l e3 h2 e4 hq)
      · exact (w.res q z).2 ⟨i, ob, a, qs, h1, l, h2, hq⟩
    have na : ob.live = true → ¬ Zof (st.set i (.frz ob.tree)) as R a := fun l => nq l a (.inl rfl)
    have s := w.slot i ob a qs h1 h2
    cases s with
    | lst e r => exact .lst (.inl ⟨.inl e, na rfl⟩) (r.grow g)
    | dK e r => exact .dK ⟨e, na rfl⟩ (r.grow g)
    | dT e r => exact .dT ⟨e, na rfl⟩ (r.grow g)
    | dl e r n => exact .dT ⟨e, na rfl⟩ ((r.grow g fun _ _ _ e => e).tree fun q hq => nq rfl q (.inr hq))
    | frz r => exact r.grow g
    | tb _ => cases nt
  refine ⟨⟨by rw [List.length_set]; exact w.len, fun j oj b rs e1 e2 => ?_, fun j k oj ok b rs b' rs' p e1 e2 l1 l2 f1 f2 p1 p2 => ?_, fun p hp => ?_, w.rt⟩, g, rel⟩
  · by_cases hj : j = i
    · subst hj
      rw [get_set_same h1] at e1
      rw [h2] at e2
      cases e1; cases e2
      exact .frz rel
    · rw [List.getElem?_set_ne (Ne.symm hj)] at e1
      exact (w.slot j oj b rs e1 e2).grow g fun _ _ _ _ e => e
  · have go : ∀ {j : Nat} {oj : Ob}, (st.set i (.frz ob.tree))[j]? = some oj → oj.live = true → st[j]? = some oj := fun {j oj} e lj => by
      by_cases hj : j = i
      · subst hj
        rw [get_set_same h1] at e
        cases e; cases lj
      · rw [List.getElem?_set_ne (Ne.symm hj)] at e; exact e
    exact w.inj j k oj ok b rs b' rs' p (go e1 l1) (go e2 l2) l1 l2 f1 f2 p1 p2
  · exact ⟨(w.res p hp).1, fun z => (w.res p hp).2 (mof_frz z)⟩
/-- a reserved object comes into the store -/
theorem Wld.push {p : Addr} (w : Wld K H (fun q => R q ∨ q = p) st as) (np : ¬ R p) {ob : Ob} (l : ob.live = true) (s : Slot K H (Zof st as fun q => R q ∨ q = p) ob p []) :
    Wld K H R (st ++ [ob]) (as ++ [(p, [])]) ∧ Zof (st ++ [ob]) (as ++ [(p, [])]) R = Zof st as (fun q => R q ∨ q = p) := by
  have hlen := w.len
  have mofE : ∀ q, Mof (st ++ [ob]) (as ++ [(p, [])]) q ↔ Mof st as q ∨ q = p := fun q => by
    constructor
    · rintro ⟨i, o, a, qs, e1, e2, e3, e4⟩
      by_cases hi : i < st.length
      · rw [List.getElem?_append_left hi] at e1
        rw [List.getElem?_append_left (by omega)] at e3
        exact .inl ⟨i, o, a, qs, e1, e2, e3, e4⟩
      · rw [List.getElem?_append_right (by omega)] at e1 e3
        have h0 : i - st.length = 0 := by
          rcases Nat.eq_zero_or_pos (i - st.length) with z | z
          · exact z
          · rw [List.getElem?_eq_none (Nat.succ_le_of_lt z)] at e1; cases e1
        rw [← hlen, h0] at e3
        simp at e3
        obtain ⟨rfl, rfl⟩ := e3
        exact .inr (e4.elim id fun z => nomatch z)
    · rintro (⟨i, o, a, qs, e1, e2, e3, e4⟩ | rfl)
      · have hi := (List.getElem?_eq_some_iff.mp e1).1
        exact ⟨i, o, a, qs, by rw [List.getElem?_append_left hi]; exact e1, e2, by rw [List.getElem?_append_left (by omega)]; exact e3, e4⟩
      · exact ⟨st.length, ob, q, [], by simp, l, by rw [hlen]; simp, .inl rfl⟩
  have zE : Zof (st ++ [ob]) (as ++ [(p, [])]) R = Zof st as (fun q => R q ∨ q = p) := by
    funext q
    apply propext
    constructor
    · rintro (z | z)
      · rcases (mofE q).mp z with z | z
        · exact .inl z
        · exact .inr (.inr z)
      · exact .inr (.inl z)
    · rintro (z | z | z)
      · exact .inl ((mofE q).mpr (.inl z))
      · exact .inr z
      · exact .inl ((mofE q).mpr (.inr z))
  refine ⟨⟨by simp [hlen], fun i oi a qs e1 e2 => ?_, fun i j oi oj a qs a' qs' q e1 e2 l1 l2 f1 f2 p1 p2 => ?_, fun q hq => ?_, fun q xs hq => w.rt q xs (.inl hq)⟩, zE⟩
  · rw [zE]
    by_cases hi : i < st.length
    · rw [List.getElem?_append_left hi] at e1
      rw [List.getElem?_append_left (by omega)] at e2
      exact w.slot i oi a qs e1 e2
    · rw [List.getElem?_append_right (by omega)] at e1 e2
      have h0 : i - st.length = 0 := by
        rcases Nat.eq_zero_or_pos (i - st.length) with z | z
        · exact z
        · rw [List.getElem?_eq_none (Nat.succ_le_of_lt z)] at e1; cases e1
      rw [h0] at e1
      rw [← hlen, h0] at e2
      simp at e1 e2
      subst e1
      obtain ⟨rfl, rfl⟩ := e2
      exact s
  · have pm : ¬ Mof st as p := (w.res p (.inr rfl)).2
    have cases' : ∀ {i : Nat} {oi : Ob} {a : Addr} {qs : List Addr}, (st ++ [ob])[i]? = some oi → (as ++ [(p, [])])[i]? = some (a, qs) → oi.live = true → (q = a ∨ q ∈ qs) → (i < st.length ∧ st[i]? = some oi ∧ as[i]? = some (a, qs)) ∨ (i = st.length ∧ q = p) := fun {i oi a qs} e f _ m => by
      by_cases hi : i < st.length
      · rw [List.getElem?_append_left hi] at e
        rw [List.getElem?_append_left (by omega)] at f
        exact .inl ⟨hi, e, f⟩
      · rw [List.getElem?_append_right (by omega)] at e f
        have h0 : i - st.length = 0 := by
          rcases Nat.eq_zero_or_pos (i - st.length) with z | z
          · exact z
          · rw [List.getElem?_eq_none (Nat.succ_le_of_lt z)] at e; cases e
        rw [← hlen, h0] at f
        simp at f
        obtain ⟨rfl, rfl⟩ := f
        exact .inr ⟨by omega, m.elim id fun z => nomatch z⟩
    rcases cases' e1 f1 l1 p1 with ⟨hi, g1, g2⟩ | ⟨hi, g1⟩
    · rcases cases' e2 f2 l2 p2 with ⟨hj, g3, g4⟩ | ⟨hj, g3⟩
      · exact w.inj i j oi oj a qs a' qs' q g1 g3 l1 l2 g2 g4 p1 p2
      · exact absurd ⟨i, oi, a, qs, g1, l1, g2, by rw [← g3]; exact p1⟩ pm
    · rcases cases' e2 f2 l2 p2 with ⟨hj, g3, g4⟩ | ⟨hj, g3⟩
      · exact absurd ⟨j, oj, a', qs', g3, l2, g4, by rw [← g1]; exact p2⟩ pm
      · omega
  · refine ⟨(w.res q (.inl hq)).1, fun z => ?_⟩
    rcases (mofE q).mp z with z | rfl
    · exact (w.res q (.inl hq)).2 z
    · exact np hq
/-- a tuple is no thing that changes -/
theorem Wld.tupZ (w : Wld K H R st as) {b : Addr} {xs : List V} (e : H b = some (.tup xs)) : ¬ Zof st as R b := fun z => by
  rcases z with ⟨i, ob, a, qs, e1, e2, e3, e4⟩ | z
  · have sl := w.slot i ob a qs e1 e3
    cases sl with
    | lst h _ => rcases e4 with rfl | z <;> first | (rw [h] at e; cases e; done) | cases z
    | dK h _ => rcases e4 with rfl | z <;> first | (rw [h] at e; cases e; done) | cases z
    | dT h _ => rcases e4 with rfl | z <;> first | (rw [h] at e; cases e; done) | cases z
    | dl h r _ =>
      rcases e4 with rfl | z
      · rw [h] at e; cases e
      · obtain ⟨vs, h2⟩ := r.there z
        rw [h2] at e; cases e
    | frz _ => cases e2
    | tb t =>
      rcases e4 with rfl | z
      · obtain ⟨_, _, h, _⟩ := t
        rw [h] at e; cases e
      · cases z
  · exact (w.rt b _ z e).1 xs rfl
end
end TB
set_option maxRecDepth 100000
/-! TBOps: operations on trees are what the machine's operations give. -/
namespace TB
open PySem PySem.Spec PyProof.Rows L2
/-! ### looking at a thing as it is -/
inductive Pk (K : PySem.W.Frag) (H : Hp) (Z : Addr → Prop) : D → V → Prop
  | rel {d : D} {v : V} : Rel K H Z d v → Pk K H Z d v
  | lst {a : Addr} {vs : List V} {ds : List D} : H a = some (.lst vs) → RelAll K H Z ds vs → Pk K H Z (.list ds) (.ref a)
  | dK {a : Addr} {kvs : List (Key × V)} {es : List (D × D)} : H a = some (.dK kvs) → RelK K H Z es kvs → Pk K H Z (.dict es) (.ref a)
  | dT {a : Addr} {kvs : List (List Key × V)} {es : List (D × D)} : H a = some (.dT kvs) → RelT K H Z es kvs → Pk K H Z (.dict es) (.ref a)
section
variable {K : PySem.W.Frag} {H : Hp} {Z R : Addr → Prop} {st : Sto} {as : As}
theorem pk_of (w : Wld K H R st as) {x : W} {v : V} {d : D} (r : RelW K H (Zof st as R) as x v) (h : peek x st = some d) : Pk K H (Zof st as R) d v := by
  cases x with
  | e a => cases h
  | d y => cases h; exact .rel r
  | r a =>
    obtain ⟨b, qs, e, rfl⟩ := r
    cases hs : st[a]? with
    | none => simp only [peek, hs] at h; cases h
    | some ob =>
      simp only [peek, hs] at h
      have s := w.slot a ob b qs hs e
      cases s with
      | lst e1 r1 => cases h; exact .lst e1 r1
      | dK e1 r1 => cases h; exact .dK e1 r1
      | dT e1 r1 => cases h; exact .dT e1 r1
      | dl _ _ _ => cases h
      | frz r1 => cases h; exact .rel r1
      | tb _ => cases h
theorem Pk.int {i : Int} {v : V} (h : Pk K H Z (.int i) v) : v = .int i := by
  cases h with | rel h => cases h; rfl
theorem Pk.bool {b : Bool} {v : V} (h : Pk K H Z (.bool b) v) : v = .bl b := by
  cases h with | rel h => cases h; rfl
theorem Pk.non {v : V} (h : Pk K H Z .none v) : v = .non := by
  cases h with | rel h => cases h; rfl
theorem Pk.str {x : Str} {v : V} (h : Pk K H Z (.str x) v) : v = .str x := by
  cases h with | rel h => cases h; rfl
theorem Pk.tup {ds : List D} {v : V} (h : Pk K H Z (.tuple ds) v) : ∃ a vs, v = .ref a ∧ StT H Z a vs ∧ RelAll K H Z ds vs := by
  cases h with | rel h => cases h with | tup h1 h2 => exact ⟨_, _, rfl, h1, h2⟩
theorem Pk.list {ds : List D} {v : V} (h : Pk K H Z (.list ds) v) : ∃ a vs, v = .ref a ∧ LsX K H a vs ∧ RelAll K H Z ds vs := by
  cases h with
  | rel h => cases h with | lst h1 h2 => exact ⟨_, _, rfl, h1.sq, h2⟩
  | lst h1 h2 => exact ⟨_, _, rfl, .inl (.inl h1), h2⟩
theorem Pk.dict {es : List (D × D)} {v : V} (h : Pk K H Z (.dict es) v) : ∃ a, v = .ref a ∧ ((∃ kvs, H a = some (.dK kvs) ∧ RelK K H Z es kvs) ∨ ∃ kvs, H a = some (.dT kvs) ∧ RelT K H Z es kvs) := by
  cases h with
  | rel h => cases h with
    | dK h1 h2 => exact ⟨_, rfl, .inl ⟨_, h1.1, h2⟩⟩
    | dT h1 h2 => exact ⟨_, rfl, .inr ⟨_, h1.1, h2⟩⟩
  | dK h1 h2 => exact ⟨_, rfl, .inl ⟨_, h1, h2⟩⟩
  | dT h1 h2 => exact ⟨_, rfl, .inr ⟨_, h1, h2⟩⟩
mutual
/-- as data of the library's, where there is no dict -/
theorem Rel.dp : ∀ {d : D} {v : V}, Rel K H Z d v → d.canLay0 = true → Dp K H v d
  | _, _, .non, _ => .non
  | _, _, .bl b, _ => .bl b
  | _, _, .int i, _ => .int i
  | _, _, .str x, _ => .str x
  | _, _, .tup h r, c => .tup h.sq (RelAll.dp r (by simpa [PyData.canLay0] using c))
  | _, _, .lst h r, c => .lst h.sq.sq (RelAll.dp r (by simpa [PyData.canLay0] using c))
  | _, _, .dK _ _, c => by simp [PyData.canLay0] at c
  | _, _, .dT _ _, c => by simp [PyData.canLay0] at c
theorem RelAll.dp : ∀ {ds : List D} {vs : List V}, RelAll K H Z ds vs → PyData.canLayAll0 ds = true → DpAll K H vs ds
  | _, _, .nil, _ => .nil
  | _, _, .cons h r, c => by
    rw [PyData.canLayAll0, Bool.and_eq_true] at c
    exact .cons (Rel.dp h c.1) (RelAll.dp r c.2)
end
theorem Pk.dp {d : D} {v : V} (h : Pk K H Z d v) (c : d.canLay0 = true) : Dp K H v d := by
  cases h with
  | rel h => exact h.dp c
  | lst h1 h2 => exact .lst (.inl (.inl h1)) (h2.dp (by simpa [PyData.canLay0] using c))
  | dK _ _ => simp [PyData.canLay0] at c
  | dT _ _ => simp [PyData.canLay0] at c
end
/-! ### what a step leaves -/
structure Post (K : PySem.W.Frag) (R : Addr → Prop) (H : Hp) (st : Sto) (as : As) (st' : Sto) (H' : Hp) (as' : As) : Prop where
  wld : Wld K H' R st' as'
  grow : Grows H (Zof st as R) H' (Zof st' as' R)
  ext : ∃ more, as' = as ++ more
  res : ∀ p, R p → H' p = H p
section
variable {K : PySem.W.Frag} {R : Addr → Prop} {H H1 H2 : Hp} {st st1 st2 : Sto} {as as1 as2 : As}
theorem Post.refl (w : Wld K H R st as) : Post K R H st as st H as := ⟨w, Grows.refl, ⟨[], by simp⟩, fun _ _ => rfl⟩
theorem Post.trans (a : Post K R H st as st1 H1 as1) (b : Post K R H1 st1 as1 st2 H2 as2) : Post K R H st as st2 H2 as2 := by
  obtain ⟨m1, e1⟩ := a.ext
  obtain ⟨m2, e2⟩ := b.ext
  exact ⟨b.wld, a.grow.trans b.grow, ⟨m1 ++ m2, by rw [e2, e1, List.append_assoc]⟩, fun p hp => (b.res p hp).trans (a.res p hp)⟩
/-- a new thing beside the store -/
theorem Post.alloc (w : Wld K H R st as) {p : Addr} {o : HO} (h : H p = none) : Post K R H st as st (upd H p o) as :=
  ⟨w.alloc h, grows_new h, ⟨[], by simp⟩, fun q hq => by
    obtain ⟨⟨u, e⟩, _⟩ := w.res q hq
    exact upd_ne (ne_of_none e h)⟩
theorem RelW.grow {Z Z' : Addr → Prop} {H H' : Hp} {as as' : As} (g : Grows H Z H' Z') (e : ∃ more, as' = as ++ more) : ∀ {w : W} {v : V}, RelW K H Z as w v → RelW K H' Z' as' w v
  | .d _, _, h => Rel.grow g h
  | .e _, _, h => h
  | .r i, _, h => by
    obtain ⟨a, qs, h1, h2⟩ := h
    obtain ⟨m, e⟩ := e
    rw [e]
    exact ⟨a, qs, (List.getElem?_append_left (List.getElem?_eq_some_iff.mp h1).1).trans h1, h2⟩
theorem Loc.grow {Z Z' : Addr → Prop} {H H' : Hp} {as as' : As} {σ : Ev} {σV : L2.St} (g : Grows H Z H' Z') (e : ∃ more, as' = as ++ more) (h : Loc K H Z as σ σV) : Loc K H' Z' as' σ σV :=
  ⟨h.1, fun i w hi => by
    obtain ⟨v, h1, h2⟩ := h.2 i w hi
    exact ⟨v, h1, h2.grow g e⟩⟩
theorem Loc.set {Z : Addr → Prop} {σ : Ev} {σV : L2.St} {i : Nat} {w : W} {v : V} (h : Loc K H Z as σ σV) (r : RelW K H Z as w v) : Loc K H Z as (σ.set i (some w)) (σV.set i (some v)) := by
  refine ⟨by rw [List.length_set, List.length_set]; exact h.1, fun j x hj => ?_⟩
  by_cases e : j = i
  · subst e
    by_cases hl : j < σ.length
    · rw [List.getElem?_set_self hl] at hj
      cases hj
      exact ⟨v, by rw [List.getElem?_set_self (by rw [← h.1]; exact hl)], r⟩
    · rw [List.getElem?_eq_none (by rw [List.length_set]; omega)] at hj; cases hj
  · rw [List.getElem?_set_ne (Ne.symm e)] at hj
    obtain ⟨u, h1, h2⟩ := h.2 j x hj
    exact ⟨u, by rw [List.getElem?_set_ne (Ne.symm e)]; exact h1, h2⟩
end
/-! ### readings by trees -/
def Res.wp {α : Type} (r : Res α) (P : α → Sto → Prop) : Prop :=
  match r with
  | .ok a st => P a st
  | .exc _ _ _ => False
  | .bad => False
theorem wp_bind {α β : Type} {r : Res α} {f : α → Sto → Res β} {P : β → Sto → Prop} (h : (r.bind f).wp P) : r.wp fun a st => (f a st).wp P := by
  cases r with
  | ok a st => exact h
  | exc c as st => exact h
  | bad => exact h
theorem wp_mono {α : Type} {r : Res α} {P Q : α → Sto → Prop} (h : r.wp P) (m : ∀ a st, P a st → Q a st) : r.wp Q := by
  cases r with
  | ok a st => exact m a st h
  | exc c as st => exact h
  | bad => exact h
theorem wp_ofO {α : Type} {o : Option α} {st : Sto} {P : α → Sto → Prop} (h : (ofO o st).wp P) : ∃ a, o = some a ∧ P a st := by
  cases o with
  | none => exact h.elim
  | some a => exact ⟨a, rfl, h⟩
/-- an operation of one, two things, and of a list of things, by trees: what is told of the answer -/
def Ans (K : PySem.W.Frag) (R : Addr → Prop) (st : Sto) (as : As) (H : Hp) (d : D) (Q : VK) : Prop :=
  ∀ v H', Post K R H st as st H' as → Rel K H' (Zof st as R) d v → Q v H'
def rD (K : PySem.W.Frag) (g : D → D → Option D) : R2 := fun x y H Q => ∃ R st as d e r, Wld K H R st as ∧ Pk K H (Zof st as R) d x ∧ Pk K H (Zof st as R) e y ∧ g d e = some r ∧ Ans K R st as H r Q
def rD1 (K : PySem.W.Frag) (g : D → Option D) : V → Hp → VK → Prop := fun x H Q => ∃ R st as d r, Wld K H R st as ∧ Pk K H (Zof st as R) d x ∧ g d = some r ∧ Ans K R st as H r Q
inductive PkAll (K : PySem.W.Frag) (H : Hp) (Z : Addr → Prop) : List D → List V → Prop
  | nil : PkAll K H Z [] []
  | cons {d : D} {ds : List D} {v : V} {vs : List V} : Pk K H Z d v → PkAll K H Z ds vs → PkAll K H Z (d :: ds) (v :: vs)
def rDs (K : PySem.W.Frag) (g : List D → Option D) : List V → Hp → VK → Prop := fun xs H Q => ∃ R st as ds r, Wld K H R st as ∧ PkAll K H (Zof st as R) ds xs ∧ g ds = some r ∧ Ans K R st as H r Q
theorem OpR.imp {X : Cx} {f : Value → Value → Sem Value} {r r' : R2} (h : OpR X f r) (m : ∀ x y H Q, r' x y H Q → r x y H Q) : OpR X f r' := fun pins s σ H x y v u Q I rx ry q => h pins s σ H x y v u Q I rx ry (m x y H Q q)
theorem IxR.imp {X : Cx} {r r' : R2} (h : IxR X r) (m : ∀ x y H Q, r' x y H Q → r x y H Q) : IxR X r' := by
  intro val sl pins s σ H x y v u Q I rx ry q hs
  exact h val sl pins s σ H x y v u Q I rx ry (m x y H Q q) hs
theorem CallR.imp {X : Cx} {f : Value} {r r' : List V → Hp → VK → Prop} (h : CallR X f r) (m : ∀ x H Q, r' x H Q → r x H Q) : CallR X f r' := by
  intro pins s σ H xs us Q I rx q
  exact h pins s σ H xs us Q I rx (m xs H Q q)
section
variable {K : PySem.W.Frag} {R : Addr → Prop} {st : Sto} {as : As} {H : Hp} {Q : VK}
theorem Ans.int {i : Int} (w : Wld K H R st as) (q : Ans K R st as H (.int i) Q) : Q (.int i) H := q _ _ (.refl w) (.int i)
theorem Ans.bool {i : Bool} (w : Wld K H R st as) (q : Ans K R st as H (.bool i) Q) : Q (.bl i) H := q _ _ (.refl w) (.bl i)
theorem Ans.str {i : Str} (w : Wld K H R st as) (q : Ans K R st as H (.str i) Q) : Q (.str i) H := q _ _ (.refl w) (.str i)
theorem Ans.non (w : Wld K H R st as) (q : Ans K R st as H .none Q) : Q .non H := q _ _ (.refl w) .non
theorem Ans.is {d : D} {v : V} (w : Wld K H R st as) (q : Ans K R st as H d Q) (r : Rel K H (Zof st as R) d v) : Q v H := q _ _ (.refl w) r
theorem Ans.tup {ds : List D} {vs : List V} (w : Wld K H R st as) (q : Ans K R st as H (.tuple ds) Q) (r : RelAll K H (Zof st as R) ds vs) : ∀ p, H p = none → Q (.ref p) (upd H p (.tup vs)) := fun p hp =>
  q _ _ (.alloc w hp) (.tup ⟨upd_same, w.notZ hp⟩ (r.grow (grows_new hp)))
theorem Ans.lst {ds : List D} {vs : List V} (w : Wld K H R st as) (q : Ans K R st as H (.list ds) Q) (r : RelAll K H (Zof st as R) ds vs) : ∀ p, H p = none → Q (.ref p) (upd H p (.lst vs)) := fun p hp =>
  q _ _ (.alloc w hp) (.lst (.inl ⟨.inl upd_same, w.notZ hp⟩) (r.grow (grows_new hp)))
end
theorem lim_line {n : Nat} (h : n ≤ LIM) : n ≤ sizeLine := Nat.le_trans h (by rw [sizeLine_eq]; decide)
theorem clip_ix (n d : Nat) (o : Option Int) : clipD n d o = HT.sIx n d o := by
  cases o <;> rfl
theorem cut_rel {K : PySem.W.Frag} {H : Hp} {Z : Addr → Prop} {ds : List D} {vs : List V} (r : RelAll K H Z ds vs) (lo hi : Option Int) : RelAll K H Z (cutD ds lo hi) (cutV vs lo hi) := by
  unfold cutD cutV
  rw [clip_ix, clip_ix, r.length]
  exact (r.drop _).take _
section
variable {X : Cx}
/-- list + list, as they stand or stay -/
def rCatL (K : PySem.W.Frag) : R2 := fun x y H Q => ∃ l b xs zs, x = .ref l ∧ y = .ref b ∧ LsX K H l xs ∧ LsX K H b zs ∧ xs.length + zs.length ≤ sizeLine ∧ ∀ p, H p = none → Q (.ref p) (upd H p (.lst (xs ++ zs)))
theorem op_catL : OpR X (binaryOp .Add) (rCatL X.K) := by
  rintro pins s σ H x y v u Q I rx ry ⟨l, b, xs, zs, rfl, rfl, h1, h2, hz, q⟩
  cases rx
  cases ry
  obtain ⟨its, n, r, g1, hl⟩ := h1.at I
  obtain ⟨its2, n2, r2, g2, hl2⟩ := h2.at I
  have e1 := r.length
  have e2 := r2.length
  refine PySem.P.add_list g1 g2 ?_ (by rw [List.size_toArray, List.size_toArray]; omega)
  rw [show its.toArray ++ its2.toArray = (its ++ its2).toArray by simp]
  exact ⟨.ref _, _, I.lnew (t' := s.toks) (r.append r2) (by rw [List.length_append]; exact hz), rfl, q _ I.fresh⟩
theorem op_addD : OpR X (binaryOp .Add) (rD X.K addD) := by
  refine OpR.imp (OpR.or op_add (OpR.or op_add_str (OpR.or op_catA op_catL))) ?_
  rintro x y H Q ⟨R, st, as, d, e, r, w, p1, p2, g, q⟩
  cases d <;> cases e <;> simp only [addD] at g <;> try (cases g; done)
  · cases g
    rw [p1.int, p2.int]
    exact .inl ⟨_, _, rfl, rfl, q.int w⟩
  · split at g
    · rename_i hl
      cases g
      rw [p1.str, p2.str]
      exact .inr (.inl ⟨_, _, rfl, rfl, lim_line hl, q.str w⟩)
    · cases g
  · split at g
    · rename_i hl
      cases g
      obtain ⟨a, vs, rfl, s1, r1⟩ := p1.list
      obtain ⟨b, us, rfl, s2, r2⟩ := p2.list
      refine .inr (.inr (.inr ⟨a, b, vs, us, rfl, rfl, s1, s2, by rw [← r1.length, ← r2.length]; exact lim_line hl, q.lst w (r1.app r2)⟩))
    · cases g
  · split at g
    · rename_i hl
      cases g
      obtain ⟨a, vs, rfl, s1, r1⟩ := p1.tup
      obtain ⟨b, us, rfl, s2, r2⟩ := p2.tup
      refine .inr (.inr (.inl ⟨a, b, vs, us, rfl, rfl, s1.sq, s2.sq, by rw [← r1.length, ← r2.length]; exact lim_line hl, fun e => ?_, fun _ e => ?_, fun _ _ => q.tup w (r1.app r2)⟩))
      · subst e
        cases r1
        exact q.is w (.tup s2 r2)
      · subst e
        cases r2
        rw [List.append_nil] at q
        exact q.is w (.tup s1 r1)
    · cases g
theorem opI_D {op : Operator} {C : Int → Int → Prop} {g : Int → Int → Int} {f : Int → Int → Option Int} (h : OpR X (binaryOp op) (rI C fun i j => .int (g i j))) (hf : ∀ i j r, f i j = some r → C i j ∧ r = g i j) : OpR X (binaryOp op) (rD X.K (intD f)) := by
  refine OpR.imp h ?_
  rintro x y H Q ⟨R, st, as, d, e, r, w, p1, p2, k, q⟩
  cases d <;> cases e <;> simp only [intD] at k <;> try (cases k; done)
  rename_i i j
  cases hk : f i j with
  | none => rw [hk] at k; cases k
  | some z =>
    rw [hk] at k
    cases k
    obtain ⟨c, rfl⟩ := hf i j z hk
    rw [p1.int, p2.int]
    exact ⟨i, j, rfl, rfl, c, q.int w⟩
theorem opI0_D {op : Operator} {g : Int → Int → Int} {f : Int → Int → Option Int} (h : OpR X (binaryOp op) (rI0 fun i j => .int (g i j))) (hf : ∀ i j r, f i j = some r → r = g i j) : OpR X (binaryOp op) (rD X.K (intD f)) := by
  refine OpR.imp h ?_
  rintro x y H Q ⟨R, st, as, d, e, r, w, p1, p2, k, q⟩
  cases d <;> cases e <;> simp only [intD] at k <;> try (cases k; done)
  rename_i i j
  cases hk : f i j with
  | none => rw [hk] at k; cases k
  | some z =>
    rw [hk] at k
    cases k
    obtain rfl := hf i j z hk
    rw [p1.int, p2.int]
    exact ⟨i, j, rfl, rfl, q.int w⟩
theorem pow_ok {i j : Int} (h : powOk i j = true) : CPow i j := by
  simp only [powOk, Bool.and_eq_true, decide_eq_true_eq] at h
  exact ⟨h.1.1, by omega, h.2⟩
theorem ofIf {c : Prop} [Decidable c] {x r : Int} {C : Prop} (h : (if c then some x else none) = some r) (k : c → C) : C ∧ r = x := by
  by_cases hc : c
  · rw [if_pos hc] at h
    exact ⟨k hc, (Option.some.inj h).symm⟩
  · rw [if_neg hc] at h
    cases h
theorem op_binD (op : Operator) : OpR X (binaryOp op) (rD X.K (binD op)) := by
  cases op with
  | Add => exact op_addD
  | Sub => exact opI0_D op_sub fun i j r h => (Option.some.inj h).symm
  | Mod => exact opI_D op_mod fun i j r h => ofIf h fun c => c
  | FloorDiv => exact opI_D op_fdiv fun i j r h => ofIf h fun c => c
  | Pow => exact opI_D op_pow fun i j r h => ofIf h fun c => pow_ok c
  | LShift => exact opI_D op_shl fun i j r h => ofIf h fun c => pow_ok c
  | RShift => exact opI_D op_shr fun i j r h => ofIf h fun c => c
  | BitAnd => exact opI0_D op_and fun i j r h => (Option.some.inj h).symm
  | Mult =>
    refine OpR.imp op_mul ?_
    rintro x y H Q ⟨R, st, as, d, e, r, w, p1, p2, k, q⟩
    change mulD d e = some r at k
    cases d <;> cases e <;> simp only [mulD] at k <;> try (cases k; done)
    split at k
    · rename_i i j c
      cases k
      rw [p1.int, p2.int]
      refine ⟨i, j, rfl, rfl, ?_, q.int w⟩
      simp only [mulOk, Bool.or_eq_true, Bool.and_eq_true, decide_eq_true_eq] at c
      exact c
    · cases k
  | _ =>
    rintro pins s σ H x y v u Q I rx ry ⟨R, st, as, d, e, r, w, p1, p2, k, q⟩
    exact absurd k (by simp [binD])
end
end TB
set_option maxRecDepth 100000
/-! TBOps2: dicts' keys; comparisons, subscripts, slices, isinstance, built-ins, by trees. -/
namespace TB
open PySem PySem.Spec PyProof.Rows L2
/-! ### keys -/
theorem eqv_kD (a b : Key) : PyData.eqv (kD a) (kD b) = decide (a = b) := by
  cases a with
  | inl i =>
    cases b with
    | inl j =>
      simp only [kD, PyData.eqv]
      rw [Bool.beq_eq_decide_eq]
      simp
    | inr y => simp [kD, PyData.eqv]
  | inr x =>
    cases b with
    | inl j => simp [kD, PyData.eqv]
    | inr y =>
      simp only [kD, PyData.eqv]
      rw [Bool.beq_eq_decide_eq]
      simp
theorem eqvAll_kD : ∀ (a b : List Key), PyData.eqvAll (a.map kD) (b.map kD) = decide (a = b)
  | [], [] => by simp [PyData.eqvAll]
  | [], _ :: _ => by simp [PyData.eqvAll]
  | _ :: _, [] => by simp [PyData.eqvAll]
  | x :: xs, y :: ys => by
    rw [List.map_cons, List.map_cons, PyData.eqvAll, eqv_kD, eqvAll_kD xs ys]
    by_cases h1 : x = y <;> by_cases h2 : xs = ys <;> simp [h1, h2]
theorem eqv_kT (a b : List Key) : PyData.eqv (.tuple (a.map kD)) (.tuple (b.map kD)) = decide (a = b) := by
  rw [PyData.eqv]; exact eqvAll_kD a b
theorem flat_key {d : D} (h : flatK d = true) : ∃ k, d = kD k := by
  cases d <;> simp [flatK] at h
  · exact ⟨.inl _, rfl⟩
  · exact ⟨.inr _, rfl⟩
theorem flat_keys : ∀ {ds : List D}, ds.all flatK = true → ∃ ks : List Key, ds = ks.map kD
  | [], _ => ⟨[], rfl⟩
  | d :: ds, h => by
    rw [List.all_cons, Bool.and_eq_true] at h
    obtain ⟨k, rfl⟩ := flat_key h.1
    obtain ⟨ks, rfl⟩ := flat_keys h.2
    exact ⟨k :: ks, rfl⟩
theorem tup_key {d : D} (h : tupK d = true) : ∃ ks : List Key, d = .tuple (ks.map kD) := by
  cases d <;> simp only [tupK] at h <;> try (cases h; done)
  obtain ⟨ks, rfl⟩ := flat_keys h
  exact ⟨ks, rfl⟩
theorem flat_kD (k : Key) : flatK (kD k) = true := by cases k <;> rfl
theorem flat_kT (ks : List Key) : flatK (.tuple (ks.map kD)) = false := rfl
theorem tup_kD (k : Key) : tupK (kD k) = false := by cases k <;> rfl
section
variable {K : PySem.W.Frag} {H : Hp} {Z R : Addr → Prop}
theorem Rel.key {k : Key} {v : V} (h : Rel K H Z (kD k) v) : v = kV k := by
  cases k <;> (cases h; rfl)
theorem RelAll.keys : ∀ {ks : List Key} {vs : List V}, RelAll K H Z (ks.map kD) vs → vs = ks.map kV
  | [], _, h => by cases h; rfl
  | k :: ks, _, h => by
    cases h with
    | cons h1 h2 => rw [h1.key, RelAll.keys h2]; rfl
theorem Pk.key {k : Key} {v : V} (h : Pk K H Z (kD k) v) : v = kV k := by
  cases k with
  | inl i => exact h.int
  | inr x => exact h.str
theorem Pk.keyT {ks : List Key} {v : V} (h : Pk K H Z (.tuple (ks.map kD)) v) : ∃ b, v = .ref b ∧ H b = some (.tup (ks.map kV)) ∧ ¬ Z b := by
  obtain ⟨b, vs, rfl, h1, h2⟩ := h.tup
  rw [h2.keys] at h1
  exact ⟨b, rfl, h1.1, h1.2⟩
/-- what is found -/
def Found (K : PySem.W.Frag) (H : Hp) (Z : Addr → Prop) : Option D → Option V → Prop
  | some d, some v => Rel K H Z d v
  | none, none => True
  | _, _ => False
theorem RelK.look {k : Key} : ∀ {es : List (D × D)} {kvs : List (Key × V)}, RelK K H Z es kvs → Found K H Z (lookD es (kD k)) (valV kvs k)
  | _, _, .nil => True.intro
  | _, _, @RelK.cons _ _ _ k' d es v kvs h r => by
    unfold lookD
    rw [List.find?_cons]
    show Found K H Z ((match PyData.eqv (kD k') (kD k) with | true => _ | false => _ : Option (D × D)).map _) _
    rw [eqv_kD]
    by_cases e : k' = k
    · rw [decide_eq_true e, valV_pos e]
      exact h
    · rw [decide_eq_false e, valV_neg e]
      exact RelK.look r
theorem RelT.look {k : List Key} : ∀ {es : List (D × D)} {kvs : List (List Key × V)}, RelT K H Z es kvs → Found K H Z (lookD es (.tuple (k.map kD))) (valV kvs k)
  | _, _, .nil => True.intro
  | _, _, @RelT.cons _ _ _ k' d es v kvs h r => by
    unfold lookD
    rw [List.find?_cons]
    show Found K H Z ((match PyData.eqv (.tuple (k'.map kD)) (.tuple (k.map kD)) with | true => _ | false => _ : Option (D × D)).map _) _
    rw [eqv_kT]
    by_cases e : k' = k
    · rw [decide_eq_true e, valV_pos e]
      exact h
    · rw [decide_eq_false e, valV_neg e]
      exact RelT.look r
theorem RelK.flat : ∀ {es : List (D × D)} {kvs : List (Key × V)}, RelK K H Z es kvs → es ≠ [] → es.all (fun p => tupK p.1) = false
  | _, _, .nil, n => absurd rfl n
  | _, _, .cons _ _, _ => by rw [List.all_cons, tup_kD]; rfl
theorem RelT.tups : ∀ {es : List (D × D)} {kvs : List (List Key × V)}, RelT K H Z es kvs → es ≠ [] → es.all (fun p => flatK p.1) = false
  | _, _, .nil, n => absurd rfl n
  | _, _, .cons _ _, _ => by rw [List.all_cons, flat_kT]; rfl
theorem RelK.length : ∀ {es : List (D × D)} {kvs : List (Key × V)}, RelK K H Z es kvs → es.length = kvs.length
  | _, _, .nil => rfl
  | _, _, .cons _ r => by rw [List.length_cons, List.length_cons, r.length]
theorem RelT.length : ∀ {es : List (D × D)} {kvs : List (List Key × V)}, RelT K H Z es kvs → es.length = kvs.length
  | _, _, .nil => rfl
  | _, _, .cons _ r => by rw [List.length_cons, List.length_cons, r.length]
end
section
variable {X : Cx} {pins : List (Addr × Obj)} {σ : L2.St} {H : Hp} {s : Shared} {a : Addr}
/-- the empty dict, told the one way or the other -/
theorem empty_KT (I : Inv X pins σ H s) (e : H a = some (.dK [])) : Inv X pins σ (upd H a (.dT [])) s := by
  obtain ⟨z, hd, vs, rel, o, es, ep, ho, hx, hdt, hk, hp, hn⟩ := I.hok a _ e
  cases rel
  have he : es.toList = [] := by
    cases hq : es.toList with
    | nil => rfl
    | cons x r => rw [hq] at hp; cases hp
  refine I.write (x := a) (e := a) (h' := s.heap) (t' := s.toks) (by rw [e]; exact True.intro) (.inl rfl) (fun b u _ q => q) ⟨o, ho⟩ ?_
  exact ⟨Nat.zero_le _, hd, [], .nil, o, es, ep, ho, hx, hdt, by rw [he]; rfl, List.nodup_nil⟩
theorem empty_TK (I : Inv X pins σ H s) (e : H a = some (.dT [])) : Inv X pins σ (upd H a (.dK [])) s := by
  obtain ⟨z, hd, xs, rel, o, es, ep, ho, hx, hdt, hk, hn⟩ := I.hok a _ e
  cases rel
  have he : es = #[] := by
    have : es.toList = [] := hk
    simpa using this
  subst he
  refine I.write (x := a) (e := a) (h' := s.heap) (t' := s.toks) (by rw [e]; exact True.intro) (.inl rfl) (fun b u _ q => q) ⟨o, ho⟩ ?_
  exact dk_new (vs := []) (Nat.zero_le _) hd .nil ⟨o, #[], ep, ho, hx, hdt, fun e he => absurd he (by simp), .nil, List.nodup_nil⟩
theorem upd_self {o : HO} (e : H a = some o) : upd H a o = H := by
  funext b
  unfold upd
  split
  · rename_i h; rw [h, e]
  · rfl
/-- a look into a dict, by trees -/
theorem look_of {K : PySem.W.Frag} {Z : Addr → Prop} (I : Inv X pins σ H s) {es : List (D × D)} {k : D} {x y : V} (pd : Pk K H Z (.dict es) x) (pk : Pk K H Z k y) (ok : keysOk es k = true) :
    ∃ a o H2, x = .ref a ∧ Inv X pins σ H2 s ∧ (∀ s', Inv X pins σ H2 s' → Inv X pins σ H s') ∧ DGet H2 a y o ∧ Found K H Z (lookD es k) o := by
  simp only [keysOk, Bool.or_eq_true, Bool.and_eq_true] at ok
  obtain ⟨a, rfl, h⟩ := pd.dict
  rcases ok with ⟨o1, o2⟩ | ⟨o1, o2⟩
  · obtain ⟨k, rfl⟩ := flat_key o2
    rcases h with ⟨kvs, e, r⟩ | ⟨kvs, e, r⟩
    · exact ⟨a, _, H, rfl, I, fun _ J => J, .inl ⟨kvs, k, .inl e, pk.key, rfl⟩, r.look⟩
    · by_cases hn : es = []
      · subst hn
        cases r
        refine ⟨a, none, upd H a (.dK []), rfl, empty_TK I e, fun s' J => ?_, .inl ⟨[], k, .inl upd_same, pk.key, rfl⟩, True.intro⟩
        have := empty_KT J upd_same
        rw [upd_upd, upd_self e] at this
        exact this
      · rw [r.tups hn] at o1; cases o1
  · obtain ⟨ks, rfl⟩ := tup_key o2
    obtain ⟨b, rfl, eb, nb⟩ := pk.keyT
    rcases h with ⟨kvs, e, r⟩ | ⟨kvs, e, r⟩
    · by_cases hn : es = []
      · subst hn
        cases r
        refine ⟨a, none, upd H a (.dT []), rfl, empty_KT I e, fun s' J => ?_, .inr ⟨[], ks, b, .inl upd_same, rfl, ?_, rfl⟩, True.intro⟩
        · have := empty_TK J upd_same
          rw [upd_upd, upd_self e] at this
          exact this
        · rw [upd_ne (ne_of eb e (by intro z; cases z))]; exact eb
      · rw [r.flat hn] at o1; cases o1
    · exact ⟨a, _, H, rfl, I, fun _ J => J, .inr ⟨kvs, ks, b, .inl e, rfl, eb, rfl⟩, r.look⟩
end
/-! ### comparisons -/
section
variable {X : Cx}
theorem lay_of {d : D} (h : shapedB d = true) : d.canLay0 = true := SeqAt.canLay_of_shaped h
theorem op_inD0 (hu : X.A.units + 65 < cLine) : OpR X (compareOp .In) (rD X.K fun x y => (memD x y).map .bool) := by
  rintro pins s σ H x y v u Q I rx ry ⟨R, st, as, d, e, r, w, p1, p2, k, q⟩
  cases e <;> simp only [memD] at k <;> try (cases k; done)
  · split at k
    · rename_i ds c
      rw [Bool.and_eq_true] at c
      cases k
      exact op_inD hu pins s σ H x y v u Q I rx ry ⟨d, ds, p1.dp (lay_of c.1), p2.dp (lay_of c.2), c.1, c.2, q.bool w⟩
    · cases k
  · split at k
    · rename_i ds c
      rw [Bool.and_eq_true] at c
      cases k
      obtain ⟨as1, r1⟩ := Dp.reads I d x v (p1.dp (lay_of c.1)) rx
      obtain ⟨bs1, r2⟩ := Dp.reads I (.tuple ds) y u (p2.dp (lay_of c.2)) ry
      exact SeqAt.in_tuple_reads r2 r1 (by have := lay_of c.2; rwa [PyData.canLay0] at this) (lay_of c.1) (room_in_shaped c.1 hu) ⟨.bl _, H, I, rfl, q.bool w⟩
    · cases k
  · split at k
    · rename_i es c
      cases k
      obtain ⟨a, o, H2, rfl, J, back, g, f⟩ := look_of I p2 p1 c
      cases ry
      refine d_in (by omega) J g rx fun s' J' => ⟨.bl _, H, back s' J', rfl, ?_⟩
      have e : o.isSome = (lookD es d).isSome := by
        cases h1 : lookD es d <;> cases h2 : o <;> rw [h1, h2] at f <;> first | rfl | exact f.elim
      rw [e]
      exact q.bool w
    · cases k
theorem op_notInD0 (hu : X.A.units + 65 < cLine) : OpR X (compareOp .NotIn) (rD X.K fun x y => (memD x y).map fun b => .bool !b) := by
  rintro pins s σ H x y v u Q I rx ry ⟨R, st, as, d, e, r, w, p1, p2, k, q⟩
  cases e <;> simp only [memD] at k <;> try (cases k; done)
  · split at k
    · rename_i ds c
      rw [Bool.and_eq_true] at c
      cases k
      exact op_notInD hu pins s σ H x y v u Q I rx ry ⟨d, ds, p1.dp (lay_of c.1), p2.dp (lay_of c.2), c.1, c.2, q.bool w⟩
    · cases k
  · split at k
    · rename_i ds c
      rw [Bool.and_eq_true] at c
      cases k
      obtain ⟨as1, r1⟩ := Dp.reads I d x v (p1.dp (lay_of c.1)) rx
      obtain ⟨bs1, r2⟩ := Dp.reads I (.tuple ds) y u (p2.dp (lay_of c.2)) ry
      exact SeqAt.notIn_tuple_reads r2 r1 (by have := lay_of c.2; rwa [PyData.canLay0] at this) (lay_of c.1) (room_in_shaped c.1 hu) ⟨.bl _, H, I, rfl, q.bool w⟩
    · cases k
  · split at k
    · rename_i es c
      cases k
      obtain ⟨a, o, H2, rfl, J, back, g, f⟩ := look_of I p2 p1 c
      cases ry
      refine d_notIn (by omega) J g rx fun s' J' => ⟨.bl _, H, back s' J', rfl, ?_⟩
      have e : o.isSome = (lookD es d).isSome := by
        cases h1 : lookD es d <;> cases h2 : o <;> rw [h1, h2] at f <;> first | rfl | exact f.elim
      rw [e]
      exact q.bool w
    · cases k
theorem op_ltD (hu : X.A.units + 65 < cLine) : OpR X (compareOp .Lt) (rD X.K fun x y => (ltD x y).map .bool) := by
  rintro pins s σ H x y v u Q I rx ry ⟨R, st, as, d, e, r, w, p1, p2, k, q⟩
  cases d <;> cases e <;> simp only [ltD] at k <;> try (cases k; done)
  · cases k
    exact op_lt pins s σ H x y v u Q I rx ry ⟨_, _, p1.int, p2.int, q.bool w⟩
  · cases k
    exact op_lt_str pins s σ H x y v u Q I rx ry ⟨_, _, p1.str, p2.str, q.bool w⟩
  · split at k
    · rename_i xs ys c
      rw [Bool.and_eq_true, Bool.and_eq_true] at c
      cases k
      obtain ⟨as1, r1⟩ := Dp.reads I (.tuple xs) x v (p1.dp (lay_of c.1.1)) rx
      obtain ⟨bs1, r2⟩ := Dp.reads I (.tuple ys) y u (p2.dp (lay_of c.1.2)) ry
      have room : X.A.units + min (PyData.tuple xs).depth (PyData.tuple ys).depth < cLine := SeqAt.room_of_shaped c.1.1 (by omega)
      exact PySem.W.rcLt_alike _ _ X.A s v u as1 bs1 r1 r2 c.2 (by intro z; cases z) room X.prog X.w X.xe _ ⟨.bl _, H, I, rfl, q.bool w⟩
    · cases k
theorem op_cmpD (hu : X.A.units + 65 < cLine) (op : CmpOp) : OpR X (compareOp op) (rD X.K fun x y => (cmpD op x y).map .bool) := by
  cases op with
  | Lt => exact op_ltD hu
  | In => exact op_inD0 hu
  | NotIn =>
    refine OpR.imp (op_notInD0 hu) ?_
    rintro x y H Q ⟨R, st, as, d, e, r, w, p1, p2, k, q⟩
    refine ⟨R, st, as, d, e, r, w, p1, p2, ?_, q⟩
    rw [← k]
    simp [cmpD, Function.comp_def]
  | Eq =>
    refine OpR.imp (op_eqD (by omega)) ?_
    rintro x y H Q ⟨R, st, as, d, e, r, w, p1, p2, k, q⟩
    simp only [cmpD] at k
    split at k
    · rename_i c
      rw [Bool.and_eq_true] at c
      cases k
      exact ⟨d, e, p1.dp (lay_of c.1), p2.dp (lay_of c.2), c.1, c.2, q.bool w⟩
    · cases k
  | NotEq =>
    refine OpR.imp (op_neD (by omega)) ?_
    rintro x y H Q ⟨R, st, as, d, e, r, w, p1, p2, k, q⟩
    simp only [cmpD] at k
    split at k
    · rename_i c
      rw [Bool.and_eq_true] at c
      cases k
      exact ⟨d, e, p1.dp (lay_of c.1), p2.dp (lay_of c.2), c.1, c.2, q.bool w⟩
    · cases k
  | Gt =>
    refine OpR.imp op_gt ?_
    rintro x y H Q ⟨R, st, as, d, e, r, w, p1, p2, k, q⟩
    cases d <;> cases e <;> simp only [cmpD] at k <;> try (cases k; done)
    cases k
    exact ⟨_, _, p1.int, p2.int, q.bool w⟩
  | GtE =>
    refine OpR.imp op_ge ?_
    rintro x y H Q ⟨R, st, as, d, e, r, w, p1, p2, k, q⟩
    cases d <;> cases e <;> simp only [cmpD] at k <;> try (cases k; done)
    cases k
    exact ⟨_, _, p1.int, p2.int, q.bool w⟩
  | LtE =>
    refine OpR.imp op_le ?_
    rintro x y H Q ⟨R, st, as, d, e, r, w, p1, p2, k, q⟩
    cases d <;> cases e <;> simp only [cmpD, leD] at k <;> try (cases k; done)
    cases k
    exact ⟨_, _, p1.int, p2.int, q.bool w⟩
  | Is =>
    refine OpR.imp (OpR.or op_isN op_isBl) ?_
    rintro x y H Q ⟨R, st, as, d, e, r, w, p1, p2, k, q⟩
    cases e <;> simp only [cmpD, isB] at k <;> try (cases k; done)
    · cases k
      refine .inl ⟨p2.non, ?_⟩
      have e : decide (x = .non) = isNoneD d := by
        cases p1 with
        | rel h => cases h <;> rfl
        | lst _ _ => rfl
        | dK _ _ => rfl
        | dT _ _ => rfl
      rw [e]
      exact q.bool w
    · cases d <;> simp only at k <;> try (cases k; done)
      cases k
      exact .inr ⟨_, _, p1.bool, p2.bool, q.bool w⟩
  | IsNot =>
    refine OpR.imp (OpR.or op_notN op_notBl) ?_
    rintro x y H Q ⟨R, st, as, d, e, r, w, p1, p2, k, q⟩
    cases e <;> simp only [cmpD, isB] at k <;> try (cases k; done)
    · cases k
      refine .inl ⟨p2.non, ?_⟩
      have e : decide (x = .non) = isNoneD d := by
        cases p1 with
        | rel h => cases h <;> rfl
        | lst _ _ => rfl
        | dK _ _ => rfl
        | dT _ _ => rfl
      rw [e]
      exact q.bool w
    · cases d <;> simp only at k <;> try (cases k; done)
      cases k
      exact .inr ⟨_, _, p1.bool, p2.bool, q.bool w⟩
end
end TB
set_option maxRecDepth 100000
/-! TBOps3: subscripts, slices, isinstance, built-ins, by trees. -/
namespace TB
open PySem PySem.Spec PyProof.Rows L2
/-! ### subscripts -/
section
variable {X : Cx}
theorem place_ix (n : Nat) (i : Int) : placeOf n i = ixN n i := rfl
theorem ix_dict (hu : X.A.units + 65 < cLine) : IxR X (fun x y H Q => ∃ R st as es k d, Wld X.K H R st as ∧ Pk X.K H (Zof st as R) (.dict es) x ∧ Pk X.K H (Zof st as R) k y ∧ keysOk es k = true ∧ lookD es k = some d ∧ Ans X.K R st as H d Q) := by
  rintro val sl pins s σ H x y v u Q I rx ry ⟨R, st, as, es, k, d, w, p1, p2, c, l, q⟩ hs
  obtain ⟨a, o, H2, rfl, J, back, g, f⟩ := look_of I p1 p2 c
  cases rx
  rw [l] at f
  cases o with
  | none => exact f.elim
  | some z => exact tail_any (dict_typeIs J g) PySem.F.slot_dict_getitem.lookup (d_getItem (by omega) J g ry fun w' s' J' rw' => ⟨z, H, back s' J', rw', q.is w f⟩) hs
theorem ix_D (hu : X.A.units + 65 < cLine) : IxR X (rD X.K getD) := by
  refine IxR.imp (IxR.or ix_seq (ix_dict hu)) ?_
  rintro x y H Q ⟨R, st, as, d, e, r, w, p1, p2, k, q⟩
  cases d <;> simp only [getD] at k <;> try (cases k; done)
  · cases e <;> simp only at k <;> try (cases k; done)
    rename_i z i
    split at k
    · rename_i hl
      rw [p1.str, p2.int]
      rw [Option.map_eq_some_iff] at k
      obtain ⟨c, hc, rfl⟩ := k
      exact .inl (.inr (.inr ⟨z, i, c, rfl, rfl, lim_line hl, hc, q.str w⟩))
    · cases k
  · cases e <;> simp only at k <;> try (cases k; done)
    rename_i xs i
    obtain ⟨a, vs, rfl, s1, r1⟩ := p1.list
    rw [p2.int]
    rw [Option.bind_eq_some_iff] at k
    obtain ⟨j, hj, hx⟩ := k
    obtain ⟨v, hv, rv⟩ := r1.get hx
    refine .inl (.inl ⟨a, vs, i, v, rfl, rfl, s1.sq, ?_, q.is w rv⟩)
    unfold atI
    rw [← r1.length, ← place_ix, hj]
    exact hv
  · cases e <;> simp only at k <;> try (cases k; done)
    rename_i xs i
    obtain ⟨a, vs, rfl, s1, r1⟩ := p1.tup
    rw [p2.int]
    rw [Option.bind_eq_some_iff] at k
    obtain ⟨j, hj, hx⟩ := k
    obtain ⟨v, hv, rv⟩ := r1.get hx
    refine .inl (.inr (.inl ⟨a, vs, i, v, rfl, rfl, s1.sq, ?_, q.is w rv⟩))
    unfold atI
    rw [← r1.length, ← place_ix, hj]
    exact hv
  · split at k
    · rename_i es c
      exact .inr ⟨R, st, as, es, e, r, w, p1, p2, c, k, q⟩
    · cases k
end
/-! ### slices -/
def rSlD (K : PySem.W.Frag) : V → Option Int → Option Int → Hp → VK → Prop := fun x lo hi H Q => ∃ R st as d r, Wld K H R st as ∧ Pk K H (Zof st as R) d x ∧ sliceD d lo hi = some r ∧ Ans K R st as H r Q
section
variable {X : Cx}
theorem sl_D : SlR X (rSlD X.K) := by
  intro pins s σ H x v vl vu lo hi sl Q I rx hs pl pu ⟨R, st, as, d, r, w, p, k, q⟩
  refine (SlR.or sl_list sl_tupA) pins s σ H x v vl vu lo hi sl Q I rx hs pl pu ?_
  cases d <;> simp only [sliceD] at k <;> try (cases k; done)
  · cases k
    obtain ⟨a, vs, rfl, s1, r1⟩ := p.list
    exact .inl ⟨a, vs, rfl, s1.sq, q.lst w (cut_rel r1 lo hi)⟩
  · cases k
    rename_i ds
    obtain ⟨a, vs, rfl, s1, r1⟩ := p.tup
    refine .inr ⟨a, vs, rfl, s1.sq, fun h => ?_, fun _ => q.tup w (cut_rel r1 lo hi)⟩
    have e : cutD ds lo hi = ds := by
      unfold cutD
      rw [clip_ix, clip_ix, r1.length, h.1, h.2]
      simp [← r1.length]
    rw [e] at q
    exact q.is w (.tup s1 r1)
end
/-! ### isinstance -/
def tyN : Ty → String
  | .int => "int" | .bool => "bool" | .str => "str" | .tuple => "tuple" | .list => "list" | .dict => "dict"
def nameD : D → String
  | .none => "NoneType" | .bool _ => "bool" | .int _ => "int" | .str _ => "str" | .list _ => "list" | .tuple _ => "tuple" | .dict _ => "dict"
theorem isTy_kit (t : Ty) (d : D) : kitB (nameD d) (tyN t) = some (isTy t d) := by
  cases t <;> cases d <;> (simp only [nameD, tyN, isTy]; decide +kernel)
section
variable {K : PySem.W.Frag} {H : Hp} {Z : Addr → Prop}
theorem ls_ty {a : Addr} {vs : List V} (h : LsX K H a vs) : TyX K H (.ref a) (.type "list") := by
  rcases h with (h | ⟨o, h⟩) | ⟨its, n, h, _⟩
  · exact .base (.lst h)
  · exact .base (.frz h)
  · exact .kList h rfl
theorem pk_ty {d : D} {v : V} (h : Pk K H Z d v) : TyX K H v (.type (nameD d)) := by
  cases d with
  | none => rw [h.non]; exact .base .non
  | bool b => rw [h.bool]; exact .base (.bl b)
  | int i => rw [h.int]; exact .base (.int i)
  | str x => rw [h.str]; exact .base (.str x)
  | list ds =>
    obtain ⟨a, vs, rfl, s1, _⟩ := h.list
    exact ls_ty s1
  | tuple ds =>
    obtain ⟨a, vs, rfl, s1, _⟩ := h.tup
    exact .base (.tup s1.1)
  | dict es =>
    obtain ⟨a, rfl, ⟨kvs, e, _⟩ | ⟨kvs, e, _⟩⟩ := h.dict
    · exact .base (.dK e)
    · exact .base (.dT e)
end
def rIsD (K : PySem.W.Frag) (t : Ty) : List V → Hp → VK → Prop := fun xs H Q => ∃ R st as d x, xs = [x, .ty (tyN t)] ∧ Wld K H R st as ∧ Pk K H (Zof st as R) d x ∧ Ans K R st as H (.bool (isTy t d)) Q
theorem call_isD {X : Cx} (t : Ty) : CallR X (.builtin "isinstance") (rIsD X.K t) := by
  refine CallR.imp call_isi ?_
  rintro xs H Q ⟨R, st, as, d, x, rfl, w, p, q⟩
  exact ⟨x, _, _, _, _, rfl, .ty _, pk_ty p, kit_ty (isTy_kit t d), q.bool w⟩
/-! ### built-ins by name -/
theorem bools_of : ∀ {ds : List D} {bs : List Bool}, boolsD ds = some bs → ds = bs.map .bool
  | [], _, h => by cases h; rfl
  | .bool b :: r, _, h => by
    simp only [boolsD, Option.map_eq_some_iff] at h
    obtain ⟨c, hc, rfl⟩ := h
    rw [bools_of hc]; rfl
  | .none :: _, _, h => by cases h
  | .int _ :: _, _, h => by cases h
  | .str _ :: _, _, h => by cases h
  | .list _ :: _, _, h => by cases h
  | .tuple _ :: _, _, h => by cases h
  | .dict _ :: _, _, h => by cases h
theorem ints_of : ∀ {ds : List D} {bs : List Int}, intsD ds = some bs → ds = bs.map .int
  | [], _, h => by cases h; rfl
  | .int b :: r, _, h => by
    simp only [intsD, Option.map_eq_some_iff] at h
    obtain ⟨c, hc, rfl⟩ := h
    rw [ints_of hc]; rfl
  | .none :: _, _, h => by cases h
  | .bool _ :: _, _, h => by cases h
  | .str _ :: _, _, h => by cases h
  | .list _ :: _, _, h => by cases h
  | .tuple _ :: _, _, h => by cases h
  | .dict _ :: _, _, h => by cases h
section
variable {K : PySem.W.Frag} {H : Hp} {Z : Addr → Prop}
theorem RelAll.bls : ∀ {bs : List Bool} {vs : List V}, RelAll K H Z (bs.map .bool) vs → vs = bs.map V.bl
  | [], _, h => by cases h; rfl
  | b :: bs, _, h => by
    cases h with
    | cons h1 h2 => cases h1; rw [RelAll.bls h2]; rfl
theorem RelAll.ints : ∀ {bs : List Int} {vs : List V}, RelAll K H Z (bs.map .int) vs → vs = bs.map V.int
  | [], _, h => by cases h; rfl
  | b :: bs, _, h => by
    cases h with
    | cons h1 h2 => cases h1; rw [RelAll.ints h2]; rfl
theorem RelAll.ofInts : ∀ (bs : List Int), RelAll K H Z (bs.map .int) (bs.map V.int)
  | [] => .nil
  | b :: bs => .cons (.int b) (RelAll.ofInts bs)
theorem PkAll.one {d : D} {vs : List V} (h : PkAll K H Z [d] vs) : ∃ v, vs = [v] ∧ Pk K H Z d v := by
  cases h with
  | cons h1 h2 => cases h2; exact ⟨_, rfl, h1⟩
theorem PkAll.two {d e : D} {vs : List V} (h : PkAll K H Z [d, e] vs) : ∃ v u, vs = [v, u] ∧ Pk K H Z d v ∧ Pk K H Z e u := by
  cases h with
  | cons h1 h2 => obtain ⟨u, rfl, h3⟩ := h2.one; exact ⟨_, u, rfl, h1, h3⟩
end
theorem maxI : ∀ {ns : List Int} {m : Int}, ns.max? = some m → m ∈ ns ∧ ∀ y ∈ ns, y ≤ m := by
  intro ns m h
  have h1 := List.max?_mem h
  refine ⟨h1, fun y hy => ?_⟩
  exact (List.max?_le_iff h).mp (Int.le_refl _) y hy
theorem minI : ∀ {ns : List Int} {m : Int}, ns.min? = some m → m ∈ ns ∧ ∀ y ∈ ns, m ≤ y := by
  intro ns m h
  have h1 := List.min?_mem h
  refine ⟨h1, fun y hy => ?_⟩
  exact (List.le_min?_iff h).mp (Int.le_refl _) y hy
end TB
set_option maxRecDepth 100000
/-! TBDict: dict of a list of pairs whose first things are tuples. -/
namespace TB
open PySem PySem.Spec PyProof.Rows L2
section
variable {prog : Program} {w : World} {A : Around} {E : Value → Shared → Prop}
abbrev TK (prog : Program) (w : World) := tupleKind (mixKind prog w)
theorem tk_keep {h h' : Heap} {ks : List Key} {a : Addr} (k : ∀ b o, h.get? b = some o → o.cls = .type "tuple" → h'.get? b = some o) (x : (TK prog w).is h ks a) : (TK prog w).is h' ks a := by
  obtain ⟨o, items, n, h1, h2, h3⟩ := id x
  exact ⟨o, items, n, k a o h1 h2, h2, h3⟩
theorem dt_keep {h h' : Heap} {d : Addr} {xs : List (List Key × Addr × Value)} (m : h.DictOfH (TK prog w) d xs) (kd : ∀ o, h.get? d = some o → h'.get? d = some o) (k : ∀ b o, h.get? b = some o → o.cls = .type "tuple" → h'.get? b = some o) : h'.DictOfH (TK prog w) d xs := by
  obtain ⟨o, es, ep, h1, h2, h3, h4, h5, h6⟩ := m
  exact ⟨o, es, ep, kd o h1, h2, h3, h4, fun x hx => tk_keep k (h5 x hx), h6⟩
def mergedT (acc : List (List Key × Addr × Value)) : List (List Key × Addr × Value) → List (List Key × Addr × Value)
  | [] => acc
  | q :: rest => mergedT (storedH acc q.1 q.2.1 q.2.2) rest
theorem storedH_le (xs : List (List Key × Addr × Value)) (k : List Key) (a : Addr) (v : Value) : (storedH xs k a v).length ≤ xs.length + 1 := by
  unfold storedH
  split <;> simp
/-- where the walk stands that puts a list's pairs into a dict: the walk I over the list l is at place i, the dict D holds acc -/
structure At (prog : Program) (w : World) (D I l : Addr) (items : Array Value) (h : Heap) (i : Nat) (acc : List (List Key × Addr × Value)) : Prop where
  walk : h.IsListIter I l i
  src : h.IsList l items
  dict : h.DictOfH (TK prog w) D acc
section
variable {D I l : Addr} {items : Array Value} {h h' : Heap} {i : Nat} {acc : List (List Key × Addr × Value)}
/-- neither the walk nor the dict is a tuple -/
theorem At.tupI (x : At prog w D I l items h i acc) {b : Addr} {o : Obj} (e : h.get? b = some o) (c : o.cls = .type "tuple") : b ≠ I := by
  rintro rfl
  obtain ⟨u, eu, cu, _⟩ := x.walk
  rw [e, Option.some.injEq] at eu
  rw [← eu, c] at cu
  exact absurd cu (by decide)
theorem At.tupD (x : At prog w D I l items h i acc) {b : Addr} {o : Obj} (e : h.get? b = some o) (c : o.cls = .type "tuple") : b ≠ D := by
  rintro rfl
  obtain ⟨u, _, _, eu, cu, _⟩ := x.dict
  rw [e, Option.some.injEq] at eu
  subst eu
  have both := cu.1
  rw [c] at both
  exact absurd both (by decide)
/-- tuples stay when the walk goes on -/
theorem At.stepI (x : At prog w D I l items h i acc) (lI : l ≠ I) (DI : D ≠ I) {j : Nat} (y : h'.IsListIter I l j) (k : Heap.SameBut I h h') : At prog w D I l items h' j acc :=
  ⟨y, x.src.extBut k.extBut lI, dt_keep x.dict (fun o e => k.extBut D o DI e) fun b o e c => k.extBut b o (x.tupI e c) e⟩
/-- .. and when a pair is put in -/
theorem At.stepD (x : At prog w D I l items h i acc) (lD : l ≠ D) (DI : D ≠ I) {acc' : List (List Key × Addr × Value)} (y : h'.DictOfH (TK prog w) D acc') (k : Heap.SameBut D h h') : At prog w D I l items h' i acc' :=
  ⟨x.walk.at fun o e => k.extBut I o (Ne.symm DI) e, x.src.extBut k.extBut lD, y⟩
end
section
variable {D I l : Addr} {items : Array Value} {i : Nat} {acc : List (List Key × Addr × Value)} {s : Shared} {res : Value} {ix : Int} {t : Tok} {R : Result → Shared → Prop}
/-- the walk's one round, told by what the next element is -/
abbrev Round (prog : Program) (w : World) (A : Around) (D I : Addr) (res : Value) (ix : Int) (t : Tok) (R : Result → Shared → Prop) (s : Shared) : Prop := codeAny (model prog w) A (.builtin "dict.update.loop" ⟨[.ref D, .ref I, .int ix t, res], []⟩) R s
theorem round_over (quiet : A.handled = none) (DI : D ≠ I) (x : At prog w D I l items s.heap i acc) (none : items[i]? = .none)
    (then_ : ∀ h', h'.DictOfH (TK prog w) D acc → (∀ b o, b ≠ I → s.heap.get? b = some o → h'.get? b = some o) → R (.ok (.ret res)) { s with heap := h' }) : Round prog w A D I res ix t R s := by
  refine codeAny_builtin ud_entry ((Around.under_plainId ud_plain _).symm ▸ wpAny_bind (wpAny_pyNext_list_end (A := A.in1) quiet x.walk x.src none fun h' k => wpAny_bind (m := Builtin.Dict.addKeywords D []) (wpAny_pure (wpAny_pure (then_ h' ?_ k)))))
  exact dt_keep x.dict (fun o e => k D o DI e) fun b o e c => k b o (x.tupI e c) e
theorem round_pair (low : A.units + 3 < cLine) (room : acc.length ≤ sizeLine) (lI : l ≠ I) (DI : D ≠ I) (lD : l ≠ D) (x : At prog w D I l items s.heap i acc) {b kb : Addr} {v : Value} {ks : List Key} (some_ : items[i]? = some (.ref b)) (bI : b ≠ I)
    (two : IsTup s.heap b #[.ref kb, v]) (key : (TK prog w).is s.heap ks kb)
    (then_ : ∀ h' tk, At prog w D I l items h' (i + 1) (storedH acc ks kb v) → (∀ c o, c ≠ D → c ≠ I → s.heap.get? c = some o → h'.get? c = some o) → (∀ c o, o.cls = .type "tuple" → s.heap.get? c = some o → h'.get? c = some o) →
      Round prog w A D I res (ix + 1) 0 R { s with heap := h', toks := tk }) : Round prog w A D I res ix t R s := by
  refine codeAny_builtin ud_entry ((Around.under_plainId ud_plain _).symm ▸ wpAny_bind (wpAny_pyNext_list_item (A := A.in1) x.walk x.src some_ fun h1 y1 k1 => ?_))
  have x1 := x.stepI lI DI y1 k1
  have key1 := tk_keep (fun c o e q => k1.extBut c o (x.tupI e q) e) key
  obtain ⟨o, at_, cls, n, dat⟩ := two.extBut k1.extBut bI
  refine wpAny_bind (m := holding [Value.ref b] _) (wpAny_holding (wpAny_bind (wpAny_tryCatch ?_)))
  unfold Builtin.Dict.pairItems
  refine wpAny_bind (wpAny_typeOf ⟨o, at_, cls⟩ ?_)
  rw [if_pos (by decide)]
  refine wpAny_bind (wpAny_seqItems at_ dat (wpAny_pure (wpAny_holding (wpAny_dictSet_heap (knd := TK prog w) (Nat.lt_of_le_of_lt (Nat.add_le_add_left (by decide) _) low) key1 x1.dict (fun h2 d2 k2 => ?_) room))))
  exact wpAny_pure ⟨plainId_quiet ud_plain _, then_ h2 _ (x1.stepD lD DI d2 k2) (fun c o cD cI e => k2.extBut c o cD (k1.extBut c o cI e)) fun c o q e => have e1 := k1.extBut c o (x.tupI e q) e; k2.extBut c o (x1.tupD e1 q) e1⟩
/-- all rounds -/
theorem rounds (quiet : A.handled = none) (low : A.units + 3 < cLine) (lI : l ≠ I) (DI : D ≠ I) (lD : l ≠ D) : ∀ (prs : List (List Key × Addr × Value)) (i : Nat) (acc : List (List Key × Addr × Value)) (ix : Int) (t : Tok) (s : Shared), At prog w D I l items s.heap i acc → items.size = i + prs.length → acc.length + prs.length ≤ sizeLine →
    (∀ (j : Nat) (q : List Key × Addr × Value), prs[j]? = some q → ∃ b : Addr, items[i + j]? = some (.ref b) ∧ b ≠ I ∧ IsTup s.heap b #[.ref q.2.1, q.2.2] ∧ (TK prog w).is s.heap q.1 q.2.1) →
    (∀ h' tk, h'.DictOfH (TK prog w) D (mergedT acc prs) → (∀ b o, b ≠ D → b ≠ I → s.heap.get? b = some o → h'.get? b = some o) → R (.ok (.ret res)) { s with heap := h', toks := tk }) → Round prog w A D I res ix t R s
  | [], i, acc, ix, t, s, x, size, _, _, fin => round_over quiet DI x (Array.getElem?_eq_none (Nat.le_of_eq size)) fun h' d k => fin h' s.toks d fun b o _ => k b o
  | q :: prs, i, acc, ix, t, s, x, size, line, pairs, fin => by
    obtain ⟨b, e, bI, two, key⟩ := pairs 0 q rfl
    have len : (q :: prs).length = prs.length + 1 := rfl
    have grow := storedH_le acc q.1 q.2.1 q.2.2
    refine round_pair low (by omega) lI DI lD x e bI two key fun h' tk y far tups => rounds quiet low lI DI lD prs (i + 1) _ (ix + 1) 0 _ y (by omega) (by omega) (fun j q' e' => ?_) fun h2 tk2 d2 far2 => ?_
    · obtain ⟨b', c1, c2, c3, c4⟩ := pairs (j + 1) q' e'
      have same : i + 1 + j = i + (j + 1) := by omega
      obtain ⟨o, at_, cls, dat⟩ := c3
      exact ⟨b', by rw [same]; exact c1, c2, ⟨o, tups b' o cls at_, cls, dat⟩, tk_keep (fun c o e q => tups c o q e) c4⟩
    · exact fin h2 tk2 d2 fun c o cD cI e => far2 c o cD cI (far c o cD cI e)
end
/-- what stands where the new dict and the walk are made -/
theorem new_keeps (h : Heap) (u : Obj) : ∀ b o, h.get? b = some o → (h.push u).get? b = some o := fun _ _ => Heap.get?_push_of_some _
end
section
variable {prog : Program} {w : World} {A : Around} {E : Value → Shared → Prop} {s : Shared}
/-- an empty dict takes in a list's pairs -/
theorem from_pairs {D l : Addr} {ol : Obj} {items : Array Value} {n : Nat} {prs : List (List Key × Addr × Value)} {R : Result → Shared → Prop} (low : A.units + 3 < cLine) (quiet : A.handled = none) (lD : l ≠ D) (empty : s.heap.DictOfH (TK prog w) D []) (at_ : s.heap.get? l = some ol)
    (cls : ol.cls = .type "list") (bare : ol.dict = none) (dat : ol.data = .seq items n) (size : items.size = prs.length) (line : prs.length ≤ sizeLine)
    (pairs : ∀ (j : Nat) (q : List Key × Addr × Value), prs[j]? = some q → ∃ b : Addr, items[j]? = some (.ref b) ∧ IsTup s.heap b #[.ref q.2.1, q.2.2] ∧ (TK prog w).is s.heap q.1 q.2.1)
    (fin : ∀ h' tk, h'.DictOfH (TK prog w) D (mergedT [] prs) → (∀ b o, b ≠ D → s.heap.get? b = some o → h'.get? b = some o) → R (.ok (.ret .none)) { s with heap := h', toks := tk }) :
    wpAny (model prog w) A.in1 (Builtin.Dict.updateFrom "dict.__init__" D (.ref l) [] .none) (fun f s2 => match f with
      | .done r => R (.ok r) s2
      | .again c => c.quiet = true ∧ codeAny (model prog w) A c R s2) E s := by
  unfold Builtin.Dict.updateFrom
  refine wpAny_bind (wpAny_typeOf ⟨ol, at_, cls⟩ ?_)
  rw [if_pos (by decide)]
  refine wpAny_bind (miss_list at_ cls dat bare quiet fun h1 tk1 k1 => ?_)
  rw [if_pos (show (none : Option Value).isNone = true from rfl)]
  have src : h1.IsList l items := ⟨ol, k1 _ _ at_, cls, n, dat⟩
  refine wpAny_bind (wpAny_rule (wpAny_bind (wpAny_pyIter_list src ?_)))
  generalize hu : ({ cls := .type "list_iterator", data := .fields #[.ref l, .int 0 0] } : Obj) = u
  have k2 := new_keeps h1 u
  have k12 : ∀ b o, s.heap.get? b = some o → (h1.push u).get? b = some o := fun b o e => k2 b o (k1 b o e)
  have old : ∀ b o, s.heap.get? b = some o → b ≠ h1.objs.size := fun b o e => Nat.ne_of_lt (Heap.lt_size (k1 b o e))
  have DI : D ≠ h1.objs.size := by
    obtain ⟨o, _, _, e, _⟩ := empty
    exact old D o e
  have start : At prog w D h1.objs.size l items (h1.push u) 0 [] := ⟨⟨u, Heap.get?_push_size _ (by rw [← hu]; rfl), by rw [← hu], by rw [← hu]; rfl⟩, src.at fun o e => k2 _ _ e, dt_keep empty (fun o e => k12 _ _ e) fun b o e _ => k12 _ _ e⟩
  have all := rounds (prog := prog) (w := w) (A := A) (res := Value.none) (R := R) quiet low (old l ol at_) DI lD prs 0 [] 0 0 { s with heap := h1.push u, toks := tk1 } start (by omega) (by simpa using line)
    (fun j q e => by
      obtain ⟨b, e1, e2, e3⟩ := pairs j q e
      obtain ⟨o, at2, rest⟩ := id e2
      exact ⟨b, by rw [Nat.zero_add]; exact e1, old b o at2, ⟨o, k12 b o at2, rest⟩, tk_keep (fun c o e _ => k12 c o e) e3⟩)
    (fun h' tk d k => fin h' tk d fun b o bD e => k b o bD (old b o e) (k12 b o e))
  first
    | exact wpAny_pure ⟨plainId_quiet ud_plain _, all⟩
    | exact wpAny_bind (wpAny_pure (wpAny_pure ⟨plainId_quiet ud_plain _, all⟩))
theorem call_dict_tups {l : Addr} {ol : Obj} {items : Array Value} {n : Nat} {prs : List (List Key × Addr × Value)} {Q : Value → Shared → Prop} (hu : A.units + 4 < cLine) (hh : A.handled = none) (hl : s.heap.get? l = some ol) (hc : ol.cls = .type "list") (hd : ol.dict = none)
    (hdat : ol.data = .seq items n) (hsz : items.size = prs.length) (hln : prs.length ≤ sizeLine)
    (ht : ∀ (j : Nat) (q : List Key × Addr × Value), prs[j]? = some q → ∃ b : Addr, items[j]? = some (.ref b) ∧ IsTup s.heap b #[.ref q.2.1, q.2.2] ∧ (TK prog w).is s.heap q.1 q.2.1)
    (h : ∀ h' tk, h'.DictOfH (TK prog w) s.heap.objs.size (mergedT [] prs) → (∀ b o, s.heap.get? b = some o → h'.get? b = some o) → Q (.ref s.heap.objs.size) { s with heap := h', toks := tk }) :
    wpAny (model prog w) A (call (.type "dict") [.ref l]) Q E s := by
  refine callType_codes (Q₁ := fun x s1 => x = .ref s.heap.objs.size ∧ s1 = { s with heap := s.heap.push { cls := .type "dict", data := .dict #[] } }) PySem.F.kt_called_dict (PySem.F.kt_typeCall_dict_1 _) PySem.F.entry_dict_init (kt_code_dict_new _ ⟨rfl, rfl⟩) fun x s1 made => ?_
  obtain ⟨rfl, rfl⟩ := made
  have empty : (s.heap.push { cls := .type "dict", data := .dict #[] }).DictOfH (TK prog w) s.heap.objs.size [] := Heap.DictOfH.new s.heap
  have k0 := new_keeps s.heap { cls := .type "dict", data := .dict #[] }
  refine ⟨empty.typeIs, PySem.F.args_dict_init_2 _ _, ?_⟩
  unfold Builtin.«dict.__init__» Builtin.Dict.selfAndRest
  refine wpAny_bind (wpAny_bind (wpAny_notOrdered_dict empty.typeIs (wpAny_pure ?_)))
  refine wpAny_mono (from_pairs (A := A.in1) (R := wants (fun r s2 => r = .none ∧ Q (.ref s.heap.objs.size) s2) E) (show A.units + 1 + 3 < cLine by omega) hh (Nat.ne_of_lt (Heap.lt_size hl)) empty (k0 _ _ hl) hc hd hdat hsz hln (fun j q e => ?_) fun h' tk d k => ?_) (fun _ _ y => y) fun _ _ y => y
  · obtain ⟨b, e1, ⟨o, at2, rest⟩, e3⟩ := ht j q e
    exact ⟨b, e1, ⟨o, k0 b o at2, rest⟩, tk_keep (fun c o e _ => k0 c o e) e3⟩
  · exact ⟨rfl, h h' tk d fun b o e => k b o (Nat.ne_of_lt (Heap.lt_size e)) (k0 b o e)⟩
end
section
variable {K : PySem.W.Frag} {H : Hp} {Z : Addr → Prop}
theorem RelK.put {k : Key} {d : D} {v : V} (h : Rel K H Z d v) {es : List (D × D)} {kvs : List (Key × V)} (r : RelK K H Z es kvs) : RelK K H Z (putD es (kD k) d) (putK kvs k v) := by
  have hany : ∀ {es : List (D × D)} {kvs : List (Key × V)}, RelK K H Z es kvs → (es.any fun p => PyData.eqv p.1 (kD k)) = (kvs.any fun kv => decide (kv.1 = k)) := by
    intro es kvs r
    induction kvs generalizing es with
    | nil => cases r; rfl
    | cons q kvs ih =>
      cases r with
      | cons h1 h2 => rw [List.any_cons, List.any_cons, ih h2]; rw [eqv_kD]
  have hmap : ∀ {es : List (D × D)} {kvs : List (Key × V)}, RelK K H Z es kvs → RelK K H Z (es.map fun p => if PyData.eqv p.1 (kD k) then (p.1, d) else p) (kvs.map fun kv => if kv.1 = k then (kv.1, v) else kv) := by
    intro es kvs r
    induction kvs generalizing es with
    | nil => cases r; exact .nil
    | cons q kvs ih =>
      cases r with
      | @cons k' d' es v' _ h1 h2 =>
        rw [List.map_cons, List.map_cons]
        by_cases e : k' = k
        · simp only [eqv_kD, e, decide_true, if_true]
          exact .cons h (ih h2)
        · simp only [eqv_kD, e, decide_false, Bool.false_eq_true, if_false]
          exact .cons h1 (ih h2)
  have happ : ∀ {es : List (D × D)} {kvs : List (Key × V)}, RelK K H Z es kvs → RelK K H Z (es ++ [(kD k, d)]) (kvs ++ [(k, v)]) := by
    intro es kvs r
    induction kvs generalizing es with
    | nil => cases r; exact .cons h .nil
    | cons q kvs ih =>
      cases r with
      | cons h1 h2 => exact .cons h1 (ih h2)
  unfold putD putK
  rw [hany r]
  split
  · exact hmap r
  · exact happ r
theorem RelT.put {k : List Key} {d : D} {v : V} (h : Rel K H Z d v) {es : List (D × D)} {kvs : List (List Key × V)} (r : RelT K H Z es kvs) : RelT K H Z (putD es (.tuple (k.map kD)) d) (putK kvs k v) := by
  have hany : ∀ {es : List (D × D)} {kvs : List (List Key × V)}, RelT K H Z es kvs → (es.any fun p => PyData.eqv p.1 (.tuple (k.map kD))) = (kvs.any fun kv => decide (kv.1 = k)) := by
    intro es kvs r
    induction kvs generalizing es with
    | nil => cases r; rfl
    | cons q kvs ih =>
      cases r with
      | cons h1 h2 => rw [List.any_cons, List.any_cons, ih h2]; rw [eqv_kT]
  have hmap : ∀ {es : List (D × D)} {kvs : List (List Key × V)}, RelT K H Z es kvs → RelT K H Z (es.map fun p => if PyData.eqv p.1 (.tuple (k.map kD)) then (p.1, d) else p) (kvs.map fun kv => if kv.1 = k then (kv.1, v) else kv) := by
    intro es kvs r
    induction kvs generalizing es with
    | nil => cases r; exact .nil
    | cons q kvs ih =>
      cases r with
      | @cons k' d' es v' _ h1 h2 =>
        rw [List.map_cons, List.map_cons]
        by_cases e : k' = k
        · simp only [eqv_kT, e, decide_true, if_true]
          exact .cons h (ih h2)
        · simp only [eqv_kT, e, decide_false, Bool.false_eq_true, if_false]
          exact .cons h1 (ih h2)
  have happ : ∀ {es : List (D × D)} {kvs : List (List Key × V)}, RelT K H Z es kvs → RelT K H Z (es ++ [(.tuple (k.map kD), d)]) (kvs ++ [(k, v)]) := by
    intro es kvs r
    induction kvs generalizing es with
    | nil => cases r; exact .cons h .nil
    | cons q kvs ih =>
      cases r with
      | cons h1 h2 => exact .cons h1 (ih h2)
  unfold putD putK
  rw [hany r]
  split
  · exact hmap r
  · exact happ r
end
section
variable {K : PySem.W.Frag} {H : Hp} {Z : Addr → Prop}
def mergeTV (acc : List (List Key × V)) : List (List Key × V) → List (List Key × V)
  | [] => acc
  | q :: rest => mergeTV (putK acc q.1 q.2) rest
inductive PR (K : PySem.W.Frag) (H : Hp) (Z : Addr → Prop) : List (D × D) → List (List Key × V) → List (List Key × Addr × Value) → Prop
  | nil : PR K H Z [] [] []
  | cons {k : List Key} {d : D} {v : V} {b : Addr} {u : Value} {ps : List (D × D)} {kvs : List (List Key × V)} {prs : List (List Key × Addr × Value)} : Rel K H Z d v → H b = some (.tup (k.map kV)) → RelV v u → PR K H Z ps kvs prs → PR K H Z ((.tuple (k.map kD), d) :: ps) ((k, v) :: kvs) ((k, b, u) :: prs)
theorem PR.merge {ps : List (D × D)} {kvs : List (List Key × V)} {prs : List (List Key × Addr × Value)} (h : PR K H Z ps kvs prs) : ∀ {acc : List (D × D)} {kA : List (List Key × V)} {ys : List (List Key × Addr × Value)}, RelT K H Z acc kA → KT H kA ys → RelT K H Z (mergeD acc ps) (mergeTV kA kvs) ∧ KT H (mergeTV kA kvs) (mergedT ys prs) := by
  induction h with
  | nil => intro acc kA ys r t; exact ⟨r, t⟩
  | cons h1 h2 h3 _ ih => intro acc kA ys r t; exact ih (r.put h1) (t.put _ h2 h3)
theorem PR.len {ps : List (D × D)} {kvs : List (List Key × V)} {prs : List (List Key × Addr × Value)} (h : PR K H Z ps kvs prs) : kvs.length = prs.length := by
  induction h with
  | nil => rfl
  | cons _ _ _ _ ih => rw [List.length_cons, List.length_cons, ih]
theorem mergeTV_len : ∀ (kvs acc : List (List Key × V)), (mergeTV acc kvs).length ≤ acc.length + kvs.length
  | [], acc => Nat.le_refl _
  | q :: r, acc => by
    have := mergeTV_len r (putK acc q.1 q.2)
    have := length_putK acc q.1 q.2
    rw [mergeTV, List.length_cons]
    omega
theorem pairD_of {x : D} {p : D × D} (h : pairD x = some p) : x = .tuple [p.1, p.2] := by
  unfold pairD at h
  split at h
  · cases h; rfl
  · cases h
end
section
variable {X : Cx} {pins : List (Addr × Obj)} {σ : L2.St} {H : Hp} {s : Shared} {Z : Addr → Prop}
theorem tup_prs (I : Inv X pins σ H s) : ∀ {xs : List D} {vs : List V} {its : List Value} {ps : List (D × D)}, RelAll X.K H Z xs vs → Vals vs its → pairsD xs = some ps → ps.all (fun p => tupK p.1) = true →
    ∃ kvs prs, PR X.K H Z ps kvs prs ∧ prs.length = its.length ∧ ∀ (j : Nat) (q : List Key × Addr × Value), prs[j]? = some q → ∃ b : Addr, its[j]? = some (.ref b) ∧ IsTup s.heap b #[.ref q.2.1, q.2.2] ∧ (TK X.prog X.w).is s.heap q.1 q.2.1
  | [], _, _, ps, .nil, .nil, h, _ => by
    cases h
    exact ⟨[], [], .nil, rfl, fun j q e => by simp at e⟩
  | x :: xs, _, _, ps, .cons r1 r2, .cons v1 v2, h, ha => by
    rw [pairsD, Option.bind_eq_some_iff] at h
    obtain ⟨p, hp, h⟩ := h
    rw [Option.map_eq_some_iff] at h
    obtain ⟨ps', h1, rfl⟩ := h
    rw [List.all_cons, Bool.and_eq_true] at ha
    obtain ⟨kvs, prs, g1, g2, g3⟩ := tup_prs I r2 v2 h1 ha.2
    obtain ⟨ks, ek⟩ := tup_key ha.1
    obtain rfl := pairD_of hp
    cases r1 with
    | tup s1 s2 =>
      cases s2 with
      | cons a1 a2 =>
        cases a2 with
        | cons b1 b2 =>
          cases b2
          rw [ek] at a1
          cases a1 with
          | tup t1 t2 =>
            obtain rfl := t2.keys
            obtain ⟨its0, rv0, pt, _⟩ := I.tuple s1.sq
            obtain ⟨u1, u2, ei, ru1, ru2⟩ := vals2 rv0
            subst ei
            cases ru1
            cases v1
            obtain ⟨p1, p2⟩ := p
            simp only at ek
            subst ek
            refine ⟨_, _, .cons b1 t1.1 ru2 g1, by rw [List.length_cons, List.length_cons, g2], fun j q e => ?_⟩
            cases j with
            | zero =>
              cases e
              exact ⟨_, rfl, pt, key_of I.hok t1.1⟩
            | succ j =>
              obtain ⟨b, e1, e2⟩ := g3 j q (by simpa using e)
              exact ⟨b, by simpa using e1, e2⟩
theorem flat_prs : ∀ {K : PySem.W.Frag} {xs : List D} {vs : List V} {ps : List (D × D)}, RelAll K H Z xs vs → pairsD xs = some ps → ps.all (fun p => flatK p.1) = true →
    ∃ (as : List Addr) (kvs : List (Key × V)), vs = as.map V.ref ∧ Paired (fun p kv => SqT K H p [kV kv.1, kv.2]) as kvs ∧ ∀ {acc : List (D × D)} {kA : List (Key × V)}, RelK K H Z acc kA → RelK K H Z (mergeD acc ps) (mergeK kA kvs)
  | _, [], _, ps, .nil, h, _ => by
    cases h
    exact ⟨[], [], rfl, .nil, fun r => r⟩
  | _, x :: xs, _, ps, .cons r1 r2, h, ha => by
    rw [pairsD, Option.bind_eq_some_iff] at h
    obtain ⟨p, hp, h⟩ := h
    rw [Option.map_eq_some_iff] at h
    obtain ⟨ps', h1, rfl⟩ := h
    rw [List.all_cons, Bool.and_eq_true] at ha
    obtain ⟨as, kvs, rfl, g2, g3⟩ := flat_prs r2 h1 ha.2
    obtain ⟨k, ek⟩ := flat_key ha.1
    obtain rfl := pairD_of hp
    obtain ⟨p1, p2⟩ := p
    simp only at ek
    subst ek
    cases r1 with
    | @tup a _ _ s1 s2 =>
      cases s2 with
      | cons a1 a2 =>
        cases a2 with
        | @cons _ _ v _ b1 b2 =>
          cases b2
          obtain rfl := a1.key
          exact ⟨a :: as, (k, v) :: kvs, rfl, .cons s1.sq g2, fun r => g3 (r.put b1)⟩
end
section
variable {X : Cx}
theorem biD_dict {ds : List D} {z : D} (h : biD .dict ds = some z) : ∃ xs es, ds = [.list xs] ∧ dictD xs = some es ∧ z = .dict es := by
  rcases ds with _ | ⟨d, _ | ⟨e, ds⟩⟩
  · simp [biD] at h
  · cases d <;> simp only [biD] at h <;> try (cases h; done)
    rw [Option.map_eq_some_iff] at h
    obtain ⟨es, h1, h2⟩ := h
    exact ⟨_, es, rfl, h1, h2.symm⟩
  · cases d <;> cases e <;> simp [biD] at h
theorem cr_dictD (hc : X.calm = true) (hu : X.A.units + 200 < cLine) : CallR X (.type "dict") (rDs X.K (biD .dict)) := by
  rintro pins s σ H xs us Q I r ⟨R, st, as, ds, z, w, pk, k, q⟩
  obtain ⟨xs0, es, rfl, hd, rfl⟩ := biD_dict k
  obtain ⟨v, rfl, pv⟩ := pk.one
  obtain ⟨a, vs, rfl, s1, r1⟩ := pv.list
  unfold dictD at hd
  rw [Option.bind_eq_some_iff] at hd
  obtain ⟨ps, hps, hd⟩ := hd
  split at hd
  · rename_i hall
    cases hd
    rw [Bool.or_eq_true] at hall
    rcases hall with hall | hall
    · obtain rfl := Vals.ref1 r
      obtain ⟨its, n, rv, g, hz⟩ := s1.at I
      obtain ⟨kvs, prs, P1, P2, P3⟩ := tup_prs I r1 rv hps hall
      have hlv := rv.length
      obtain ⟨M1, M2⟩ := P1.merge (acc := []) .nil .nil
      refine call_dict_tups (prs := prs) (by omega) (I.ok.hd hc) g rfl rfl rfl (by rw [List.size_toArray, P2]) (by rw [P2, ← hlv]; exact hz) (fun j q' e => by
        obtain ⟨b, e1, e2⟩ := P3 j q' e
        exact ⟨b, by simpa using e1, e2⟩) fun h' tk hd' kp => ?_
      have hfresh := I.hok.fresh (Nat.le_refl s.heap.objs.size)
      have hm : (s.heap.objs.size == sysModules) = false := beq_eq_false_iff_ne.mpr (Nat.ne_of_gt I.big)
      have hlen : (mergeTV [] kvs).length ≤ sizeLine := by
        have := mergeTV_len kvs []
        rw [List.length_nil, Nat.zero_add, P1.len, P2, ← hlv] at this
        exact Nat.le_trans this hz
      obtain ⟨o, es', ep, g1, g2, g3, g4, g5, g6⟩ := hd'
      have J := I.laid (a := s.heap.objs.size) (o := .dT (mergeTV [] kvs)) (t' := tk) kp (Nat.le_refl _) ⟨hlen, hm, mergedT [] prs, M2.keeps fun b ys e => by rw [upd_ne (ne_of_none e hfresh)]; exact e, o, es', ep, g1, g2, g3, g4, g6⟩
      exact ⟨.ref s.heap.objs.size, _, J, rfl, q _ _ (.alloc w hfresh) (.dT ⟨upd_same, w.notZ hfresh⟩ (M1.grow (grows_new hfresh)))⟩
    · obtain ⟨as', kvs, rfl, g2, g3⟩ := flat_prs r1 hps hall
      refine call_dictP hc pins s σ H _ us Q I r ⟨a, as', kvs, rfl, s1.sq, g2, fun p hp => ?_⟩
      exact q _ _ (.alloc w hp) (.dK ⟨upd_same, w.notZ hp⟩ ((g3 .nil).grow (grows_new hp)))
  · cases hd
end
end TB
set_option maxRecDepth 100000
/-! TBDict2: sorted(d), list(d). -/
namespace TB
open PySem PySem.Spec PyProof.Rows L2 PySem.W
section
variable {prog : Program} {w : World} {A : Around} {E : Value → Shared → Prop} {s : Shared} {T : String} {r d : Addr} {n : Nat} {P : Nat → Value → Prop} {OK : Heap → Prop}
/-- an address behind all that a heap has, and behind what it becomes -/
def Behind (h : Heap) (B : Addr) : Prop := ∃ g : Heap, (∀ b o, h.get? b = some o → g.get? b = some o) ∧ g.objs.size ≤ B
theorem Behind.none {h : Heap} {B : Addr} (x : Behind h B) : h.get? B = none := by
  obtain ⟨g, k, le⟩ := x
  cases e : h.get? B with
  | none => rfl
  | some o => exact absurd (Heap.lt_size (k B o e)) (Nat.not_lt.mpr le)
theorem Behind.free {P : Program} {H : Hp} {h : Heap} {B : Addr} (x : Behind h B) (y : HOk P w H h) : H B = .none := by
  obtain ⟨g, k, le⟩ := x
  exact (y.kept k).fresh le
theorem sorted_src {ds : List PyData} {R : Value → PyData → Prop} {Q : Value → Shared → Prop} (Kd : KdlSrc prog w T r d n P OK) (hh : A.handled = none) (hok : OK s.heap) (hn : n ≤ sizeLine)
    (hv : ∀ acc : Array Value, ItemsOf P acc n → EachIs R acc.toList ds ∧ EachIs (fun v b => ∃ as, Reads s.heap v b as) acc.toList ds)
    (hal : AllAlike ds) (hk : Sortable ds) (hu : ∀ b, b ∈ ds → A.units + 2 + b.depth < cLine)
    (h : ∀ (h' : Heap) (tk : Nat) (B : Addr) (out : List Value), (∀ b o, s.heap.get? b = some o → h'.get? b = some o) → Behind s.heap B → (∃ ep, h'.get? B = some (seqObj "list" out.toArray ep)) → EachIs R out (ds.mergeSort (dataLe false id)) → Q (.ref B) { s with heap := h', toks := tk }) :
    wpAny (model prog w) A (call (.builtin "sorted") [.ref r]) Q E s := by
  refine call_function_entry_kw kind_sorted plain_sorted entry_sorted (args_sorted1 _) ?_
  unfold Builtin.«sorted»
  refine wpAny_bind (m := checkCount "sorted" 1 1 _) <| wpAny_pure ?_
  refine wpAny_bind (kdu_collect (A := A.in1) Kd hh hok hn fun h1 tk acc hkp hacc => ?_)
  obtain ⟨e, er⟩ := hv acc hacc
  have hL : acc.toList.length ≤ sizeLine := by rw [Array.length_toList, hacc.1]; exact hn
  refine wpAny_bind <| wpAny_newList ?_ hL
  have hat : (h1.push (seqObj "list" acc.toList.toArray 0)).get? h1.objs.size = some (seqObj "list" acc.toList.toArray 0) := Heap.get?_push_size _ rfl
  have old : ∀ b o, s.heap.get? b = some o → (h1.push (seqObj "list" acc.toList.toArray 0)).get? b = some o := fun b o e => Heap.get?_push_of_some _ (hkp b o e)
  have er' : EachIs (fun v b => ∃ as, Reads (sortingHeap (h1.push (seqObj "list" acc.toList.toArray 0)) h1.objs.size acc.toList) v b as) acc.toList ds := er.mono fun _ _ ⟨as, r⟩ => ⟨as, PyProof.Rows.Reads.keeps (fun b o e => sortingHeap_old (Nat.ne_of_lt (Heap.lt_size (hkp b o e))) (old b o e)) r⟩
  have S : SortsAt prog w A.in1.in1 { s with heap := sortingHeap (h1.push (seqObj "list" acc.toList.toArray 0)) h1.objs.size acc.toList, toks := tk } (dataKind (sortingHeap (h1.push (seqObj "list" acc.toList.toArray 0)) h1.objs.size acc.toList) ds) acc.toList :=
    SortsAt.data (s := { s with heap := sortingHeap (h1.push (seqObj "list" acc.toList.toArray 0)) h1.objs.size acc.toList, toks := tk }) er' hal hk hu
  refine wpAny_bind <| wpAny_holding <| wpAny_call_entry_kw slot_list_sort ⟨_, hat, rfl⟩ entry_list_sort ?bd (args_list_sort _)
  case bd =>
    refine wpAny_mono (list_sort_vals (s := { s with heap := h1.push (seqObj "list" acc.toList.toArray 0), toks := tk }) (P := fun f s' => f = .done (.ret .none) ∧ Q (.ref h1.objs.size) s') hat S hL ⟨rfl, ?_⟩) (fun f s' hf => ?_) fun _ _ e => e
    · have hs := sortVals_data (enc := id) (h' := sortingHeap (h1.push (seqObj "list" acc.toList.toArray 0)) h1.objs.size acc.toList) false e er' (by rw [List.map_id]; exact hal)
      rw [List.map_id] at hs
      refine h _ tk h1.objs.size _ (fun b o eb => ?_) ?_ ?_ hs
      · exact (sortedHeap_old (Nat.ne_of_lt (Heap.lt_size (hkp b o eb))) (Heap.lt_size (old b o eb))).trans (old b o eb)
      · exact ⟨h1, hkp, Nat.le_refl _⟩
      · exact sortedHeap_at hat
    · rw [hf.1]
      exact ⟨_, rfl, wpAny_pure ⟨_, rfl, hf.2⟩⟩
end
section
variable {K : PySem.W.Frag} {H : Hp} {Z : Addr → Prop}
theorem RelT.keys {es : List (D × D)} {kvs : List (List Key × V)} (r : RelT K H Z es kvs) : es.map (·.1) = kvs.map fun q => PyData.tuple (q.1.map kD) := by
  induction kvs generalizing es with
  | nil => cases r; rfl
  | cons q kvs ih =>
    cases r with
    | cons h1 h2 => rw [List.map_cons, List.map_cons, ih h2]
theorem key_rel : ∀ (k : Key), Rel K H Z (kD k) (kV k)
  | .inl i => .int i
  | .inr x => .str x
theorem keys_rel : ∀ (ks : List Key), RelAll K H Z (ks.map kD) (ks.map kV)
  | [] => .nil
  | k :: ks => .cons (key_rel k) (keys_rel ks)
theorem keys_each {X : Cx} {pins : List (Addr × Obj)} {σ : L2.St} {s : Shared} (I : Inv X pins σ H s) {R : Addr → Prop} {st : Sto} {as : As} (w : Wld K H R st as) : ∀ {kvs : List (List Key × V)} {xs : List (List Key × Addr × Value)}, KT H kvs xs →
    EachIs (fun u d => ∃ v, Rel K H (Zof st as R) d v ∧ RelV v u) (xs.map fun x => Value.ref x.2.1) (kvs.map fun q => PyData.tuple (q.1.map kD)) := by
  intro kvs xs h
  induction h with
  | nil => exact .nil
  | @cons p q ps qs h t ih => exact .cons ⟨.ref q.2.1, .tup ⟨h.2.1, w.tupZ h.2.1⟩ (keys_rel _), rfl⟩ ih
theorem acc_keys {prog : Program} {w : World} {es : Array DictEntry} {xs : List (List Key × Addr × Value)} (g : es.toList = xs.map (entryOfKey (TK prog w))) {acc : Array Value} (h : ItemsOf (fun i v => ∃ hi : i < es.size, v = es[i].key) acc es.size) : acc.toList = xs.map fun x => Value.ref x.2.1 := by
  have e1 : acc.toList = es.toList.map fun x => x.key := by
    apply List.ext_getElem
    · rw [List.length_map, Array.length_toList, Array.length_toList, h.1]
    · intro j h1 h2
      rw [Array.length_toList] at h1
      obtain ⟨hi, e⟩ := h.2 j acc[j] (Array.getElem?_eq_getElem h1)
      rw [Array.getElem_toList, e, List.getElem_map, Array.getElem_toList]
  rw [e1, g, List.map_map]
  rfl
end
end TB
set_option maxRecDepth 100000
/-! TBSum: sum(lists, []); min of tuples. -/
namespace TB
open PySem PySem.Spec PyProof.Rows L2 PySem.W
section
variable {prog : Program} {w : World} {A : Around} {R : Result → Shared → Prop} {I : Addr} {fp wr : List Addr} {G : Array GenState → Array GenState → Prop} {n : Nat} {P : Nat → Value → Prop} {St : Nat → Shared → Prop}
/-- a list's object -/
abbrev lsO (its : List Value) (m : Nat) : Obj := { cls := .type "list", data := .seq its.toArray m }
/-- what is had ahead of the item i -/
def upTo (ys : Nat → List Value) : Nat → List Value
  | 0 => []
  | i + 1 => upTo ys i ++ ys i
theorem sumL_loop (W : WalksS prog w A.in1 I fp wr G n P St) (H : Heap) (hw : ∀ b o, H.get? b = some o → b ∉ wr) (hex : ∀ i s b, St i s → b ∈ wr → ∃ o, s.heap.get? b = some o) (ys : Nat → List Value)
    (hP : ∀ i v, P i v → ∃ b m, v = .ref b ∧ H.get? b = some (lsO (ys i) m)) (hsz : ∀ i ≤ n, (upTo ys i).length ≤ sizeLine) (S : Addr) (hSf : S ∉ fp) (hSH : H.get? S = none) :
    ∀ (k i : Nat) (s : Shared) (t m c : Nat), n - i = k → i ≤ n → St i s → (∀ b o, H.get? b = some o → s.heap.get? b = some o) → t ∉ S :: wr → s.heap.get? t = some (lsO (upTo ys i) m) → s.heap.get? S = some { cls := .type "list", dict := none, data := .seq #[.ref t] c, slots := #[] } →
      (∀ (s' : Shared) (t' m' : Nat), s'.heap.get? t' = some (lsO (upTo ys n) m') → Moved (S :: wr) G s s' → (i = n ∧ t' = t ∨ Behind H t') → R (.ok (.ret (.ref t'))) s') →
      codeAny (model prog w) A (.builtin "sum.loop" ⟨[.ref I, .ref S, rawInt 2, rawInt 0], []⟩) R s := by
  have sw : S ∉ wr := fun h => hSf (W.sub _ h)
  intro k
  induction k with
  | zero =>
    intro i s t m c hk hi hst hkeep ht et eS fin
    obtain rfl : i = n := by omega
    refine codeAny_builtin F.entry_sum_loop ?_
    rw [Around.under_plainId F.plain_sum_loop _]
    refine wpAny_bind (m := seqItems? (.ref S)) (wpAny_seqItems eS rfl ?_)
    refine wpAny_bind (m := tryCatch (pyNext (.ref I)) _) (wpAny_tryCatch (W.done s _ _ hst fun s' mv => ?_))
    have mv' : Moved (S :: wr) G s s' := mv.mono fun b hb => List.mem_cons_of_mem _ hb
    exact wpAny_pure (fin s' t m (mv'.heap t _ ht et) mv' (.inl ⟨rfl, rfl⟩))
  | succ k ih =>
    intro i s t m c hk hi hst hkeep ht et eS fin
    have lt : i < n := by omega
    refine codeAny_builtin F.entry_sum_loop ?_
    rw [Around.under_plainId F.plain_sum_loop _]
    refine wpAny_bind (m := seqItems? (.ref S)) (wpAny_seqItems eS rfl ?_)
    refine wpAny_bind (m := tryCatch (pyNext (.ref I)) _) (wpAny_tryCatch (W.item i s _ _ lt hst fun v s' pv hst' mv => ?_))
    obtain ⟨b, mb, rfl, eb⟩ := hP i v pv
    have mv' : Moved (S :: wr) G s s' := mv.mono fun b hb => List.mem_cons_of_mem _ hb
    have keep' : ∀ b o, H.get? b = some o → s'.heap.get? b = some o := fun b o e => mv.heap b o (hw b o e) (hkeep b o e)
    have et' := mv'.heap t _ ht et
    have eS' := mv.heap S _ sw eS
    have eq : (upTo ys i).toArray ++ (ys i).toArray = (upTo ys (i + 1)).toArray := by simp [upTo]
    have l1 := hsz (i + 1) (by omega)
    show wpAny _ A.in1 ((holding [Value.ref b] (binaryOp .Add (.ref t) (.ref b))).attempt >>= _) _ _ _
    refine wpAny_bind (wpAny_attempt (wpAny_holding (PySem.P.add_list et' (keep' b _ eb) ?_ (by
      rw [List.size_toArray, List.size_toArray]
      simpa [upTo] using l1))))
    rw [eq]
    have ne1 : s'.heap.objs.size ∉ S :: wr := fun z => by
      rcases List.mem_cons.mp z with z | z
      · exact Nat.lt_irrefl _ (z ▸ Heap.lt_size eS')
      · obtain ⟨o, eo⟩ := hex _ s' _ hst' z
        exact Nat.lt_irrefl _ (Heap.lt_size eo)
    have old : ∀ (b : Addr) (o : Obj), s'.heap.get? b = some o → (s'.heap.push (lsO (upTo ys (i + 1)) 0)).get? b = some o := fun b o e => Heap.get?_push_of_some _ e
    have eS2 := old S _ eS'
    show wpAny _ A.in1 (updateSeq S (fun _ => #[Value.ref s'.heap.objs.size]) >>= _) _ _ _
    refine wpAny_bind (wpAny_updateSeq eS2 rfl ?_)
    have eS3 := Heap.get?_update_self (Obj.mapSeq fun _ => #[Value.ref s'.heap.objs.size]) eS2 rfl
    refine wpAny_bind (wpAny_letGo ?_)
    refine wpAny_bind (wpAny_updateSeq eS3 rfl (wpAny_pure ⟨plainId_quiet F.plain_sum_loop _, ?_⟩))
    have eS4 := Heap.get?_update_self (Obj.mapSeq fun _ => #[Value.ref s'.heap.objs.size]) eS3 rfl
    have far : ∀ (b : Addr) (o : Obj), b ≠ S → s'.heap.get? b = some o → (((s'.heap.push (lsO (upTo ys (i + 1)) 0)).update S (Obj.mapSeq fun _ => #[Value.ref s'.heap.objs.size])).update S (Obj.mapSeq fun _ => #[Value.ref s'.heap.objs.size])).get? b = some o := fun b o hb e => by
      rw [Heap.get?_update_other _ _ (Ne.symm hb), Heap.get?_update_other _ _ (Ne.symm hb)]
      exact old b o e
    have tn : s'.heap.objs.size ≠ S := fun z => ne1 (z ▸ List.mem_cons_self ..)
    refine ih (i + 1) _ s'.heap.objs.size 0 _ (by omega) lt (W.frame _ s' _ _ hst' (Nat.le_refl _) fun b hb o e => far b o (fun z => hSf (z ▸ hb)) e) (fun b o e => far b o (fun z => by rw [z, hSH] at e; cases e) (keep' b o e)) ne1 ?_ eS4 fun s2 t2 m2 e2 mv2 q => ?_
    · rw [Heap.get?_update_other _ _ (Ne.symm tn), Heap.get?_update_other _ _ (Ne.symm tn)]
      exact Heap.get?_push_size _ rfl
    · refine fin s2 t2 m2 e2 (Moved.trans W.gtrans (mv'.then_heap (Nat.le_refl _) fun b o hb e => far b o (fun z => hb (z ▸ List.mem_cons_self ..)) e) mv2) (.inr ?_)
      rcases q with ⟨_, rfl⟩ | q
      · exact ⟨s'.heap, keep', Nat.le_refl _⟩
      · exact q
end
section
variable {prog : Program} {w : World} {A : Around} {E : Value → Shared → Prop} {s : Shared}
theorem args_sum2 (a b : Value) : argsOk "sum" ⟨[a, b], []⟩ := by unfold argsOk; kernel_rfl
theorem sub_ls_str : isSubtype (.type "list") (.type "str") = pure false := by rw [isSubtype_type]; kernel_rfl
theorem sub_ls_bytes : isSubtype (.type "list") (.type "bytes") = pure false := by rw [isSubtype_type]; kernel_rfl
theorem sub_ls_ba : isSubtype (.type "list") (.type "bytearray") = pure false := by rw [isSubtype_type]; kernel_rfl
/-- sum(lists, []) -/
theorem sumL_call {l e : Addr} {its : List Value} {m : Nat} {Q : Value → Shared → Prop} (hh : A.handled = none) (hl : s.heap.IsList l its.toArray) (he : s.heap.get? e = some (lsO [] m)) (ys : Nat → List Value)
    (hP : ∀ (i : Nat) v, its.toArray[i]? = some v → ∃ b m, v = .ref b ∧ s.heap.get? b = some (lsO (ys i) m)) (hsz : ∀ i ≤ its.length, (upTo ys i).length ≤ sizeLine)
    (h : ∀ (h' : Heap) (tk t' m' : Nat), (∀ b o, s.heap.get? b = some o → h'.get? b = some o) → h'.get? t' = some (lsO (upTo ys its.length) m') → (0 = its.length ∧ t' = e ∨ Behind s.heap t') → Q (.ref t') { s with heap := h', toks := tk }) :
    wpAny (model prog w) A (call (.builtin "sum") [.ref l, .ref e]) Q E s := by
  refine call_function_tree F.kind_sum F.plain_sum F.entry_sum (args_sum2 _ _) ?_
  unfold Builtin.«sum»
  simp only [List.length_cons, List.length_nil]
  rw [if_neg (by decide)]
  refine wpAny_bind (wpAny_of_eq (show Builtin.Builtins.bindParams "sum" ["start"] 0 ⟨[.ref e], []⟩ = pure [some (.ref e)] from rfl) ?_)
  refine wpAny_bind (iter_listW (A := A.in1) hh hl fun s₂ e2 W st hfp hw hk => ?_)
  have he2 := hk e _ he
  refine wpAny_bind (wpAny_pure ?_)
  simp only [List.forIn_cons, List.forIn_nil]
  refine wpAny_bind (wpAny_bind (wpAny_bind (wpAny_isInstance (T := "list") (b := false) ⟨_, he2, rfl⟩ sub_ls_str ?_)))
  simp only [Bool.false_eq_true, if_false]
  refine wpAny_pure (wpAny_bind (wpAny_bind (wpAny_isInstance (T := "list") (b := false) ⟨_, he2, rfl⟩ sub_ls_bytes ?_)))
  simp only [Bool.false_eq_true, if_false]
  refine wpAny_pure (wpAny_bind (wpAny_bind (wpAny_isInstance (T := "list") (b := false) ⟨_, he2, rfl⟩ sub_ls_ba ?_)))
  simp only [Bool.false_eq_true, if_false]
  refine wpAny_pure (wpAny_pure ?_)
  refine wpAny_bind (wpAny_newObj_type ?_)
  have hSf : s₂.heap.objs.size ∉ [s.heap.objs.size, l] := fun z => Nat.lt_irrefl _ (hfp _ z)
  have sz : its.toArray.size = its.length := List.size_toArray
  have hSH : s.heap.get? s₂.heap.objs.size = none := by
    cases q : s.heap.get? s₂.heap.objs.size with
    | none => rfl
    | some o => exact absurd (Heap.lt_size (hk _ _ q)) (Nat.lt_irrefl _)
  have nte : e ∉ s₂.heap.objs.size :: [s.heap.objs.size] := fun z => by
    rcases List.mem_cons.mp z with z | z
    · rw [z, hSH] at he
      cases he
    · exact hw e _ he z
  refine wpAny_pure ⟨plainId_quiet F.plain_sum_loop _, sumL_loop W s.heap hw (fun i s b hs hb => ?_) ys hP (fun i hi => hsz i (by rw [← sz]; exact hi)) s₂.heap.objs.size hSf hSH its.toArray.size 0 _ e m 0 rfl (Nat.zero_le _)
    (W.frame 0 s₂ _ _ st (Nat.le_refl _) fun b _ o q => Heap.get?_push_of_some _ q) (fun b o q => Heap.get?_push_of_some _ (hk b o q)) nte (Heap.get?_push_of_some _ he2) (Heap.get?_push_size _ rfl) fun s' t' m' et mv q => ?_⟩
  · rw [List.mem_singleton] at hb
    subst hb
    obtain ⟨o, q, _⟩ := hs.1
    exact ⟨o, q⟩
  · obtain ⟨h', tk, rfl, keep⟩ := moved_old e2 rfl (Moved.drop_new mv (Nat.le_refl _))
    rw [sz] at et q
    exact h h' tk t' m' keep et q
end
/-! ### by trees -/
/-- each is a list -/
inductive EachL (K : PySem.W.Frag) (H : Hp) : List V → List (List V) → Prop
  | nil : EachL K H [] []
  | cons {b : Addr} {xs : List V} {vs : List V} {vss : List (List V)} : LsX K H b xs → EachL K H vs vss → EachL K H (.ref b :: vs) (xs :: vss)
theorem each_lists {K : PySem.W.Frag} {H : Hp} {Z : Addr → Prop} : ∀ {es : List D} {vs : List V} {ys : List D}, RelAll K H Z es vs → listsD es = some ys → ∃ vss, EachL K H vs vss ∧ RelAll K H Z ys vss.flatten
  | [], _, ys, r, h => by
    cases r
    cases h
    exact ⟨[], .nil, .nil⟩
  | e :: es, _, ys, r, h => by
    cases r with
    | cons r1 r2 =>
      cases e <;> simp only [listsD] at h <;> try (cases h; done)
      rw [Option.map_eq_some_iff] at h
      obtain ⟨zs, hz, rfl⟩ := h
      obtain ⟨vss, h1, h2⟩ := each_lists r2 hz
      cases r1 with
      | lst q1 q2 => exact ⟨_ :: vss, .cons q1.sq h1, by rw [List.flatten_cons]; exact q2.app h2⟩
theorem each_items {X : Cx} {pins : List (Addr × Obj)} {σ : L2.St} {H : Hp} {s : Shared} (I : Inv X pins σ H s) : ∀ {vs : List V} {vss : List (List V)} {its : List Value}, EachL X.K H vs vss → Vals vs its →
    ∃ iss : List (List Value), iss.length = its.length ∧ Vals vss.flatten iss.flatten ∧ ∀ (i : Nat) v, its[i]? = some v → ∃ b m, v = .ref b ∧ s.heap.get? b = some (lsO (iss.getD i []) m)
  | _, _, _, .nil, .nil => ⟨[], rfl, .nil, fun i v e => by simp at e⟩
  | _, _, _, .cons h1 h2, .cons q1 q2 => by
    obtain ⟨iss, g1, g2, g3⟩ := each_items I h2 q2
    obtain ⟨its, n, r, g, _⟩ := h1.at I
    cases q1
    refine ⟨its :: iss, by rw [List.length_cons, List.length_cons, g1], by rw [List.flatten_cons, List.flatten_cons]; exact r.append g2, fun i v e => ?_⟩
    cases i with
    | zero =>
      cases e
      exact ⟨_, n, rfl, g⟩
    | succ i => exact g3 i v (by simpa using e)
theorem upTo_take (iss : List (List Value)) : ∀ i, i ≤ iss.length → upTo (fun i => iss.getD i []) i = (iss.take i).flatten
  | 0, _ => by simp [upTo]
  | i + 1, h => by
    have hi : i < iss.length := h
    show upTo _ i ++ iss.getD i [] = _
    rw [upTo_take iss i (Nat.le_of_lt hi), List.take_succ, List.flatten_append, List.getD_eq_getElem?_getD, List.getElem?_eq_getElem hi]
    simp
def rSumL (K : PySem.W.Frag) : List V → Hp → VK → Prop := fun xs H Q => ∃ (a p : Addr) (vs : List V) (vss : List (List V)), xs = [.ref a, .ref p] ∧ LsX K H a vs ∧ EachL K H vs vss ∧ H p = some (.lst []) ∧ vss.flatten.length ≤ sizeLine ∧ (vs = [] → Q (.ref p) H) ∧ ∀ t, H t = none → Q (.ref t) (upd H t (.lst vss.flatten))
theorem cr_sumL {X : Cx} (hc : X.calm = true) : CallR X (.builtin "sum") (rSumL X.K) := by
  rintro pins s σ H xs us Q I rx ⟨a, p, vs, vss, rfl, h1, h2, h3, h4, h5, h6⟩
  obtain ⟨its, n, rv, hg, _⟩ := h1.at I
  obtain ⟨its2, n2, r2, hg2, _⟩ := LsX.at (xs := []) I (.inl (.inl h3))
  cases r2
  obtain ⟨iss, g1, g2, g3⟩ := each_items I h2 rv
  have e2 : us = [.ref a, .ref p] := by
    cases rx with
    | cons q1 q2 =>
      cases q2 with
      | cons q3 q4 =>
        cases q4
        cases q1
        cases q3
        rfl
  rw [e2]
  refine sumL_call (I.ok.hd hc) ⟨_, hg, rfl, n, rfl⟩ hg2 (fun i => iss.getD i []) (fun i v e => g3 i v (by simpa using e)) (fun i hi => ?_) fun h' tk t' m' keep et q => ?_
  · rw [upTo_take iss i (by rw [g1]; exact hi)]
    have e3 : iss.flatten = (iss.take i).flatten ++ (iss.drop i).flatten := by rw [← List.flatten_append, List.take_append_drop]
    have e4 := g2.length
    rw [e3, List.length_append] at e4
    omega
  · rw [← g1, upTo_take iss _ (Nat.le_refl _), List.take_length] at et
    rcases q with ⟨z, rfl⟩ | q
    · have hv : vs = [] := List.eq_nil_of_length_eq_zero (by rw [rv.length]; exact z.symm)
      exact ⟨.ref _, H, I.kept (t' := tk) keep, rfl, h5 hv⟩
    · refine ⟨.ref _, upd H t' (.lst vss.flatten), I.laidN (t' := tk) keep q.none (q.free I.hok) ⟨h4, iss.flatten, m', g2, et⟩, rfl, h6 t' (q.free I.hok)⟩
end TB
set_option maxRecDepth 100000
/-! TBOps4: sorted; each built-in by trees. -/
namespace TB
open PySem PySem.Spec PyProof.Rows L2 PySem.W
section
variable {prog : Program} {w : World} {A : Around} {E : Value → Shared → Prop} {s : Shared}
/-- a tuple's items, gathered -/
theorem gather_tuple {l : Addr} {vs : List Value} {Q : List Value → Shared → Prop} (hl : IsTup s.heap l vs.toArray) (hsz : vs.length ≤ sizeLine)
    (h : Q vs { s with heap := (s.heap.push (seqObj "list" #[] 0)).update s.heap.objs.size (Obj.mapSeq (· ++ vs.toArray)) }) : wpAny (model prog w) A (collect (.ref l)) Q E s := by
  obtain ⟨o, ho, hc, n, hd⟩ := id hl
  unfold collect
  refine wpAny_bind <| wpAny_runValue <| codeAny_builtin entry_proto_collect' ?_
  show wpAny _ _ (do again (.builtin "list.__iadd__" ⟨[← newList [], Value.ref l], []⟩)) _ _ s
  refine wpAny_bind <| wpAny_newList <| wpAny_pure ⟨Code.quiet_builtin _ (by decide +kernel), codeAny_builtin entry_list_iadd' ?_⟩
  show wpAny _ _ (Builtin.List.listExtendWith (Value.ref s.heap.objs.size) (Value.ref l) (Value.ref s.heap.objs.size)) _ _ ({ s with heap := s.heap.push (seqObj "list" #[] 0) } : Shared)
  unfold Builtin.List.listExtendWith
  have ho2 : (s.heap.push (seqObj "list" #[] 0)).get? l = some o := Heap.get?_push_of_some _ ho
  refine wpAny_bind <| wpAny_typeOf (T := "tuple") ⟨o, ho2, hc⟩ ?_
  have ht : (Value.type "tuple" == Value.type "tuple") = true := by decide
  rw [if_pos (show _ = true by rw [ht, Bool.or_true])]
  refine wpAny_bind <| listItems_at ho2 hd ?_
  refine wpAny_bind <| listItems_at (xs := #[]) (n := 0) (Heap.get?_push_size _ rfl) rfl ?_
  rw [if_neg (by simp)]
  refine wpAny_bind <| listUpdate_at (xs := #[]) (n := 0) (Heap.get?_push_size _ rfl) rfl ?_ (Nat.zero_le _) (by
    show (#[] ++ vs.toArray).size ≤ sizeLine + 1
    rw [Array.size_append, List.size_toArray]
    exact Nat.le_succ_of_le (by simpa using hsz))
  refine wpAny_pure ?_
  refine wpAny_bind <| wpAny_load (get?_update_seq (Heap.get?_push_size _ rfl) _) ?_
  show wpAny _ _ (pure ((#[] : Array Value) ++ vs.toArray).toList) Q E _
  rw [show ((#[] : Array Value) ++ vs.toArray).toList = vs from by simp]
  exact wpAny_pure h
/-- sorted of a thing whose items are gathered in one step -/
theorem sorted_gathered {x : Value} {vs : List Value} {Q : Value → Shared → Prop} (hL : vs.length ≤ sizeLine) (ha : argsOk "sorted" ⟨[x], []⟩)
    (col : ∀ (E' : Value → Shared → Prop) (Q' : List Value → Shared → Prop), Q' vs { s with heap := (s.heap.push (seqObj "list" #[] 0)).update s.heap.objs.size (Obj.mapSeq (· ++ vs.toArray)) } → wpAny (model prog w) A.in1 (collect x) Q' E' s)
    (body : ∀ E' : Value → Shared → Prop, wpAny (model prog w) A.in1.in1 (Builtin.«list.sort» ⟨[.ref (s.heap.objs.size + 1)], []⟩) (fun f s' => f = .done (.ret .none) ∧ Q (.ref (s.heap.objs.size + 1)) s') E' { s with heap := copyHeap s.heap vs }) :
    wpAny (model prog w) A (call (.builtin "sorted") [x] []) Q E s := by
  refine call_function_entry_kw kind_sorted plain_sorted entry_sorted ha ?_
  unfold Builtin.«sorted»
  refine wpAny_bind (m := checkCount "sorted" 1 1 _) <| wpAny_pure ?_
  refine wpAny_bind <| col _ _ ?_
  refine wpAny_bind <| wpAny_newList ?_ hL
  have hz : ((s.heap.push (seqObj "list" #[] 0)).update s.heap.objs.size (Obj.mapSeq (· ++ vs.toArray))).objs.size = s.heap.objs.size + 1 := (Heap.size_update ..).trans (size_push' ..)
  show wpAny _ _ _ _ _ ({ s with heap := copyHeap s.heap vs } : Shared)
  rw [hz]
  refine wpAny_bind <| wpAny_holding <| wpAny_call_entry_kw slot_list_sort ⟨_, copyHeap_at s.heap vs, rfl⟩ entry_list_sort ?bd (args_list_sort _)
  case bd =>
    refine wpAny_mono (body _) (fun f s' hf => ?_) fun _ _ e => e
    rw [hf.1]
    exact ⟨_, rfl, wpAny_pure ⟨_, rfl, hf.2⟩⟩
theorem args_sortedX (x : Value) : argsOk "sorted" ⟨[x], []⟩ := args_sorted1 x
theorem sorted_tup_data {l : Addr} {vs : List Value} {ds : List PyData} {R : Value → PyData → Prop} {Q : Value → Shared → Prop} (hl : IsTup s.heap l vs.toArray) (e : EachIs R vs ds) (er : EachIs (fun v b => ∃ as, Reads s.heap v b as) vs ds)
    (hal : AllAlike ds) (hk : Sortable ds) (hL : ds.length ≤ sizeLine) (hu : ∀ b, b ∈ ds → A.units + 2 + b.depth < cLine)
    (h : ∀ out, out.length = ds.length → EachIs R out (ds.mergeSort (dataLe false id)) → Q (.ref (s.heap.objs.size + 1)) { s with heap := sortedAll s.heap vs (List.toArray out) }) :
    wpAny (model prog w) A (call (.builtin "sorted") [.ref l]) Q E s := by
  have hL' : vs.length ≤ sizeLine := by rw [e.length]; exact hL
  refine sorted_gathered (vs := vs) hL' (args_sortedX _) (fun E' Q' q => gather_tuple hl hL' q) fun E' => ?_
  have er' : EachIs (fun v b => ∃ as, Reads (sortingHeap (copyHeap s.heap vs) (s.heap.objs.size + 1) vs) v b as) vs ds := er.mono fun _ _ ⟨as, r⟩ => ⟨as, PyProof.Rows.Reads.keeps (fun _ _ => sorting_copy_old) r⟩
  have S : SortsAt prog w A.in1.in1 { s with heap := sortingHeap (copyHeap s.heap vs) (s.heap.objs.size + 1) vs } (dataKind (sortingHeap (copyHeap s.heap vs) (s.heap.objs.size + 1) vs) ds) vs :=
    SortsAt.data (s := { s with heap := sortingHeap (copyHeap s.heap vs) (s.heap.objs.size + 1) vs }) er' hal hk hu
  refine list_sort_vals (s := { s with heap := copyHeap s.heap vs }) (copyHeap_at s.heap vs) S hL' ⟨rfl, ?_⟩
  have hs := sortVals_data (enc := id) (h' := sortingHeap (copyHeap s.heap vs) (s.heap.objs.size + 1) vs) false e er' (by rw [List.map_id]; exact hal)
  rw [List.map_id] at hs
  exact h _ ((sortVals_length false rfl).trans e.length) hs
end
/-! ### by trees -/
section
variable {K : PySem.W.Frag} {H : Hp} {Z : Addr → Prop}
theorem RelAll.each : ∀ {ds : List D} {vs : List V} {us : List Value}, RelAll K H Z ds vs → Vals vs us → EachIs (fun u d => ∃ v, Rel K H Z d v ∧ RelV v u) us ds
  | _, _, _, .nil, .nil => .nil
  | _, _, _, .cons h r, .cons q t => .cons ⟨_, h, q⟩ (RelAll.each r t)
theorem each_rel : ∀ {us : List Value} {ds : List D}, EachIs (fun u d => ∃ v, Rel K H Z d v ∧ RelV v u) us ds → ∃ vs, RelAll K H Z ds vs ∧ Vals vs us
  | _, _, .nil => ⟨[], .nil, .nil⟩
  | _, _, .cons ⟨v, h1, h2⟩ t => by
    obtain ⟨vs, h3, h4⟩ := each_rel t
    exact ⟨v :: vs, .cons h1 h3, .cons h2 h4⟩
theorem each_reads {X : Cx} {pins : List (Addr × Obj)} {σ : L2.St} {s : Shared} (I : Inv X pins σ H s) : ∀ {us : List Value} {ds : List D}, (∀ d ∈ ds, shapedB d = true) → EachIs (fun u d => ∃ v, Rel X.K H Z d v ∧ RelV v u) us ds → EachIs (fun u d => ∃ as, Reads s.heap u d as) us ds := by
  intro us ds hs e
  induction e with
  | nil => exact .nil
  | cons h t ih =>
    obtain ⟨v, h1, h2⟩ := h
    exact .cons (Dp.reads I _ v _ (h1.dp (lay_of (hs _ (.head _)))) h2) (ih fun d hd => hs d (.tail _ hd))
end
theorem alike_of {ds : List D} (h : alikeAllB ds = true) : AllAlike ds := by
  intro d hd e he
  unfold alikeAllB at h
  rw [List.all_eq_true] at h
  have := h d hd
  rw [List.all_eq_true] at this
  exact this e he
theorem sortable_of {ds : List D} (h : sortableB ds = true) : Sortable ds := by
  unfold sortableB at h
  rw [Bool.or_eq_true, List.all_eq_true, List.all_eq_true] at h
  rcases h with h | h
  · refine .inl fun d hd => ?_
    have := h d hd
    split at this
    · exact ⟨_, _, rfl⟩
    · cases this
  · refine .inr fun d hd => ?_
    have := h d hd
    split at this
    · cases this
    · cases this
    · rename_i h1 h2
      exact ⟨fun z => h1 z, fun xs z => h2 xs z⟩
section
variable {X : Cx}
theorem readsAll_each {h : Heap} {us : List Value} {ds : List D} (e : EachIs (fun u d => ∃ as, Reads h u d as) us ds) : ∃ as, ReadsAll h us ds as := by
  induction e with
  | nil => exact ⟨[], .nil⟩
  | cons q t ih =>
    obtain ⟨as, q⟩ := q
    obtain ⟨bs, ih⟩ := ih
    exact ⟨as ++ bs, .cons q ih⟩
theorem each_get {R : Value → D → Prop} {us : List Value} {ds : List D} (e : EachIs R us ds) : ∀ {i : Nat} {u : Value}, us[i]? = some u → ∃ d, d ∈ ds ∧ R u d := by
  induction e with
  | nil => intro i u z; simp at z
  | cons q t ih =>
    intro i u z
    cases i with
    | zero =>
      cases z
      exact ⟨_, List.mem_cons_self .., q⟩
    | succ i =>
      obtain ⟨d, h1, h2⟩ := ih (i := i) (by simpa using z)
      exact ⟨d, List.mem_cons_of_mem _ h1, h2⟩
theorem deps_le : ∀ {es : List D}, (∀ d ∈ es, shapedB d = true) → PyData.depthAll es ≤ 64
  | [], _ => by rw [PyData.depthAll]; omega
  | d :: es, h => by
    rw [PyData.depthAll]
    have h1 := SeqAt.depth_of_shaped (h d (List.mem_cons_self ..))
    have h2 := deps_le fun x hx => h x (List.mem_cons_of_mem _ hx)
    omega
/-- the least of tuples -/
def minL : List D → Option D
  | [.list es] => minTD es
  | _ => none
theorem cr_minT (hc : X.calm = true) (hu : X.A.units + 200 < cLine) : CallR X (.builtin "min") (rDs X.K minL) := by
  rintro pins s σ H xs us Q I rx ⟨R, st, as, ds, r, w, p, k, q⟩
  match ds, p, k with
  | [.list es], p, k =>
    obtain ⟨v, rfl, p1⟩ := p.one
    obtain ⟨a, vs, rfl, s1, r1⟩ := p1.list
    obtain ⟨its, n, rv, hg, _⟩ := s1.at I
    rw [Vals.ref1 rx]
    cases es with
    | nil => cases k
    | cons d es =>
      cases d <;> simp only [minL, minTD] at k <;> try (cases k; done)
      rename_i t
      split at k
      · rename_i c
        rw [Bool.and_eq_true, List.all_eq_true] at c
        cases k
        have c2 : ∀ d ∈ (PyData.tuple t :: es), shapedB d = true := fun d hd => by
          have := c.2 d hd
          rw [Bool.and_eq_true] at this
          exact this.1
        have e := r1.each rv
        have er := each_reads I c2 e
        obtain ⟨bs, ra⟩ := readsAll_each er
        have hal : AlikeAll (PyData.tuple t :: es) := ⟨alike_of c.1, fun x hx z => by
          subst z
          have := c.2 _ hx
          rw [Bool.and_eq_true] at this
          exact absurd this.2 (by decide)⟩
        refine min_list_data (I.ok.hd hc) ⟨_, hg, rfl, n, rfl⟩ ra hal ?_ fun i v h' tk bs hv rd keep => ?_
        · have := deps_le c2
          omega
        · have hv2 : its[i]? = some v := by simpa using hv
          obtain ⟨d1, hd1, v1, e1, e2⟩ := each_get e hv2
          have rd1 := Dp.reads I _ v1 _ (e1.dp (lay_of (c2 d1 hd1))) e2
          obtain ⟨as1, rd1⟩ := rd1
          have det := (reads_det (fun b o e _ => keep b o e) rd1 rd).1
          rw [det] at q
          exact ⟨v1, H, I.kept (t' := tk) keep, e2, q v1 H (.refl w) e1⟩
      · cases k
theorem cr_sortedD (hc : X.calm = true) (hu : X.A.units + 200 < cLine) : CallR X (.builtin "sorted") (rDs X.K (biD .sorted)) := by
  rintro pins s σ H xs us Q I rx ⟨R, st, as, ds, r, w, p, k, q⟩
  have main : ∀ (es : List D) (vs : List V) (its : List Value), RelAll X.K H (Zof st as R) es vs → Vals vs its → sortedD es = some r → AllAlike es ∧ Sortable es ∧ es.length ≤ sizeLine ∧ (∀ b ∈ es, X.A.units + 2 + b.depth < cLine) ∧ (∀ d ∈ es, shapedB d = true) ∧
      ∀ out : List Value, out.length = es.length → EachIs (fun u d => ∃ v, Rel X.K H (Zof st as R) d v ∧ RelV v u) out (es.mergeSort (dataLe false id)) → EP X pins σ Q (.ref (s.heap.objs.size + 1)) { s with heap := PyProof.Rows.sortedAll s.heap its (List.toArray out) } := by
    intro es vs its re rv hk
    unfold sortedD at hk
    split at hk
    · rename_i c
      simp only [Bool.and_eq_true, decide_eq_true_eq, List.all_eq_true] at c
      cases hk
      refine ⟨alike_of c.1.1.1, sortable_of c.1.1.2, lim_line c.1.2, fun b hb => ?_, c.2, fun out hl eo => ?_⟩
      · have := SeqAt.depth_of_shaped (c.2 b hb)
        omega
      · obtain ⟨ws, r2, v2⟩ := each_rel eo
        obtain ⟨ep, he⟩ := PyProof.Rows.sortedAll_at s.heap its (List.toArray out)
        refine ⟨.ref _, upd H (s.heap.objs.size + 1) (.lst ws), I.laid (t' := s.toks) (fun _ _ => PyProof.Rows.sortedAll_old) (Nat.le_succ _) ⟨?_, out, ep, v2, he⟩, rfl, q.lst w r2 _ (I.hok.fresh (Nat.le_succ _))⟩
        rw [v2.length, hl]
        exact lim_line c.1.2
    · cases hk
  match ds, p, k with
  | [.list es], p, k =>
    obtain ⟨v, rfl, p1⟩ := p.one
    obtain ⟨a, vs, rfl, s1, r1⟩ := p1.list
    obtain ⟨its, n, rv, hg, _⟩ := s1.at I
    obtain ⟨h1, h2, h3, h4, h5, h6⟩ := main es vs its r1 rv k
    rw [Vals.ref1 rx]
    have e := r1.each rv
    refine sorted_data (enc := id) (vs := its) (bs := es) ⟨_, hg, rfl, n, rfl⟩ e (each_reads I h5 e) (by rw [List.map_id]; exact h1) (by rw [List.map_id]; exact h2) h3 h4 fun out o1 o2 => h6 out o1 o2
  | [.tuple es], p, k =>
    obtain ⟨v, rfl, p1⟩ := p.one
    obtain ⟨a, vs, rfl, s1, r1⟩ := p1.tup
    obtain ⟨its, rv, ht, _⟩ := I.tuple s1.sq
    obtain ⟨h1, h2, h3, h4, h5, h6⟩ := main es vs its r1 rv k
    rw [Vals.ref1 rx]
    have e := r1.each rv
    exact sorted_tup_data ht e (each_reads I h5 e) h1 h2 h3 h4 fun out o1 o2 => h6 out o1 o2
  | [.dict es], p, k =>
    obtain ⟨v, rfl, p1⟩ := p.one
    simp only [biD] at k
    split at k
    · rename_i hk
      rw [Bool.and_eq_true] at hk
      have hn : es ≠ [] := by
        intro z
        rw [z] at hk
        exact absurd hk.1 (by decide)
      obtain ⟨a, rfl, ⟨kvs, e, re⟩ | ⟨kvs, e, re⟩⟩ := p1.dict
      · have := re.flat hn
        rw [this] at hk
        exact absurd hk.2 (by decide)
      · rw [re.keys] at k
        obtain ⟨hz, hd, xs', kt, o, es', ep, g1, g2, g3, g4, g5, g6⟩ := dt_of I.hok e
        rw [Vals.ref1 rx]
        unfold sortedD at k
        split at k
        · rename_i c
          simp only [Bool.and_eq_true, decide_eq_true_eq, List.all_eq_true] at c
          cases k
          have hlen : es'.size = xs'.length := by rw [← Array.length_toList, g4, List.length_map]
          have hkl : kvs.length = xs'.length := Paired.length kt
          refine sorted_src (R := fun u d => ∃ v, Rel X.K H (Zof st as R) d v ∧ RelV v u) (KdlSrc.rawDict (es := es') (ep := ep) hd) (I.ok.hd hc) ⟨o, g1, g2, g3⟩ (by rw [hlen, ← hkl]; exact hz) (fun acc hacc => ?_) (alike_of c.1.1.1) (sortable_of c.1.1.2) (fun b hb => ?_) fun h' tk B out keep hB hat eo => ?_
          · rw [acc_keys g4 hacc]
            have ee := keys_each I w kt
            exact ⟨ee, each_reads I c.2 ee⟩
          · have := SeqAt.depth_of_shaped (c.2 b hb)
            omega
          · obtain ⟨ws, r2, v2⟩ := each_rel eo
            obtain ⟨ep2, he⟩ := hat
            refine ⟨.ref B, upd H B (.lst ws), I.laidN (t' := tk) keep hB.none (hB.free I.hok) ⟨?_, out, ep2, v2, he⟩, rfl, q.lst w r2 _ (hB.free I.hok)⟩
            rw [v2.length, eo.length, List.length_mergeSort]
            exact lim_line c.1.2
        · cases k
    · cases k
def biV : Bi → Value
  | .len => .builtin "len" | .all => .builtin "all" | .any => .builtin "any" | .tuple => .type "tuple" | .list => .type "list" | .sorted => .builtin "sorted"
  | .max => .builtin "max" | .min => .builtin "min" | .sum => .builtin "sum" | .abs => .builtin "abs" | .divmod => .builtin "divmod" | .int => .type "int"
  | .str => .type "str" | .repr => .builtin "repr" | .sortedset => .none | .lenset => .none | .dict => .type "dict" | .bool => .type "bool"
theorem dict_len (es : List (D × D)) : True := trivial
theorem repr_D (gd : X.A.guards = some []) (hu : X.A.units + 200 < cLine) {pins : List (Addr × Obj)} {σ : L2.St} {s : Shared} {H : Hp} {Q : VK} {R : Addr → Prop} {st : Sto} {as : As} {d r : D} {a : Addr} (I : Inv X pins σ H s) (w : Wld X.K H R st as)
    (p : Pk X.K H (Zof st as R) d (.ref a)) (k : reprD d = some r) (q : Ans X.K R st as H r Q) : wpAny (model X.prog X.w) X.A (PySem.call (.builtin "repr") [.ref a]) (EP X pins σ Q) X.xe s := by
  unfold reprD at k
  split at k
  · rename_i c
    simp only [Bool.and_eq_true, decide_eq_true_eq] at c
    obtain ⟨⟨c1, c2⟩, c3⟩ := c
    cases k
    obtain ⟨as1, r1⟩ := Dp.reads I d (.ref a) (.ref a) (p.dp (lay_of c2)) rfl
    have hd := SeqAt.depth_of_shaped c2
    exact repr_of_reads' r1 c1 (PyData.noDict_hsm (PyData.hasDict_of_canLay d (lay_of c2))) gd (by omega) (fun _ _ e => e)
      (fun h' u tk hk => ⟨.str d.shown, H, I.kept (t' := tk) hk, ⟨u, rfl⟩, q.str w⟩) (lim_line c3)
  · cases k
theorem cr_biD (hc : X.calm = true) (hu : X.A.units + 200 < cLine) (gd : X.A.guards = some []) (b : Bi) (h1 : b ≠ .sortedset) (h2 : b ≠ .lenset) : CallR X (biV b) (rDs X.K (biD b)) := by
  cases b with
  | sorted => exact cr_sortedD hc hu
  | len =>
    rintro pins s σ H xs us Q I rx ⟨R, st, as, ds, r, w, p, k, q⟩
    match ds, p, k with
    | [.list es], p, k =>
      cases k
      obtain ⟨v, rfl, p1⟩ := p.one
      obtain ⟨a, vs, rfl, s1, r1⟩ := p1.list
      refine call_len pins s σ H _ us Q I rx ⟨_, vs.length, rfl, .inl ⟨vs, s1.sq, rfl⟩, ?_⟩
      rw [← r1.length]; exact q.int w
    | [.tuple es], p, k =>
      cases k
      obtain ⟨v, rfl, p1⟩ := p.one
      obtain ⟨a, vs, rfl, s1, r1⟩ := p1.tup
      refine call_len pins s σ H _ us Q I rx ⟨_, vs.length, rfl, .inr ⟨vs, s1.sq, rfl⟩, ?_⟩
      rw [← r1.length]; exact q.int w
    | [.str z], p, k =>
      simp only [biD] at k
      split at k
      · rename_i hl
        cases k
        obtain ⟨v, rfl, p1⟩ := p.one
        rw [p1.str] at rx
        exact call_len pins s σ H _ us Q I rx ⟨_, z.length, rfl, ⟨lim_line hl, rfl⟩, q.int w⟩
      · cases k
    | [.dict es], p, k =>
      cases k
      obtain ⟨v, rfl, p1⟩ := p.one
      obtain ⟨a, rfl, ⟨kvs, e, re⟩ | ⟨kvs, e, re⟩⟩ := p1.dict
      · rw [Vals.ref1 rx]
        refine d_len I (.inl e) fun t s' I' => ⟨.int kvs.length, H, I', ⟨t, rfl⟩, ?_⟩
        rw [← re.length]; exact q.int w
      · refine call_len_dT pins s σ H _ us Q I rx ⟨a, kvs, rfl, e, ?_⟩
        rw [← re.length]; exact q.int w
  | all =>
    refine CallR.imp (cr_all hc) ?_
    rintro xs H Q ⟨R, st, as, ds, r, w, p, k, q⟩
    match ds, p, k with
    | [.list es], p, k =>
      simp only [biD, Option.map_eq_some_iff] at k
      obtain ⟨bs, hb, rfl⟩ := k
      obtain ⟨v, rfl, p1⟩ := p.one
      obtain ⟨a, vs, rfl, s1, r1⟩ := p1.list
      rw [bools_of hb] at r1
      rw [r1.bls] at s1
      exact ⟨a, bs, rfl, s1.sq, q.bool w⟩
  | any =>
    refine CallR.imp (cr_any hc) ?_
    rintro xs H Q ⟨R, st, as, ds, r, w, p, k, q⟩
    match ds, p, k with
    | [.list es], p, k =>
      simp only [biD, Option.map_eq_some_iff] at k
      obtain ⟨bs, hb, rfl⟩ := k
      obtain ⟨v, rfl, p1⟩ := p.one
      obtain ⟨a, vs, rfl, s1, r1⟩ := p1.list
      rw [bools_of hb] at r1
      rw [r1.bls] at s1
      exact ⟨a, bs, rfl, s1.sq, q.bool w⟩
  | tuple =>
    refine CallR.imp call_tuple_of ?_
    rintro xs H Q ⟨R, st, as, ds, r, w, p, k, q⟩
    match ds, p, k with
    | [.list es], p, k =>
      cases k
      obtain ⟨v, rfl, p1⟩ := p.one
      obtain ⟨a, vs, rfl, s1, r1⟩ := p1.list
      exact ⟨a, vs, rfl, .inl ⟨s1.sq, q.tup w r1⟩⟩
    | [.tuple es], p, k =>
      cases k
      obtain ⟨v, rfl, p1⟩ := p.one
      obtain ⟨a, vs, rfl, s1, r1⟩ := p1.tup
      exact ⟨a, vs, rfl, .inr ⟨s1.sq, q.is w (.tup s1 r1)⟩⟩
  | list =>
    refine CallR.imp call_list_of ?_
    rintro xs H Q ⟨R, st, as, ds, r, w, p, k, q⟩
    match ds, p, k with
    | [.list es], p, k =>
      cases k
      obtain ⟨v, rfl, p1⟩ := p.one
      obtain ⟨a, vs, rfl, s1, r1⟩ := p1.list
      exact ⟨a, vs, rfl, .inl s1.sq, q.lst w r1⟩
    | [.tuple es], p, k =>
      cases k
      obtain ⟨v, rfl, p1⟩ := p.one
      obtain ⟨a, vs, rfl, s1, r1⟩ := p1.tup
      exact ⟨a, vs, rfl, .inr s1.sq, q.lst w r1⟩
  | max =>
    refine CallR.imp (CallR.or (call_max2 hc) (cr_max hc)) ?_
    rintro xs H Q ⟨R, st, as, ds, r, w, p, k, q⟩
    match ds, p, k with
    | [.int i, .int j], p, k =>
      cases k
      obtain ⟨v, u, rfl, p1, p2⟩ := p.two
      rw [p1.int, p2.int]
      exact .inl ⟨i, j, rfl, q.int w⟩
    | [.list es], p, k =>
      simp only [biD, Option.bind_eq_some_iff, Option.map_eq_some_iff] at k
      obtain ⟨ns, hb, m, hm, rfl⟩ := k
      obtain ⟨v, rfl, p1⟩ := p.one
      obtain ⟨a, vs, rfl, s1, r1⟩ := p1.list
      rw [ints_of hb] at r1
      rw [r1.ints] at s1
      obtain ⟨m1, m2⟩ := maxI hm
      refine .inr ⟨a, ns, rfl, s1.sq, List.length_pos_of_mem m1, fun m' h1 h2 => ?_⟩
      have : m' = m := Int.le_antisymm (m2 _ h1) (h2 _ m1)
      rw [this]; exact q.int w
  | min =>
    refine CallR.imp (CallR.or (call_min2 hc) (CallR.or (cr_minT hc hu) (cr_min hc))) ?_
    rintro xs H Q ⟨R, st, as, ds, r, w, p, k, q⟩
    match ds, p, k with
    | [.int i, .int j], p, k =>
      cases k
      obtain ⟨v, u, rfl, p1, p2⟩ := p.two
      rw [p1.int, p2.int]
      exact .inl ⟨i, j, rfl, q.int w⟩
    | [.list es], p, k =>
      by_cases ht : tupHead es = true
      · simp only [biD, ht, if_true] at k
        exact .inr (.inl ⟨R, st, as, [.list es], r, w, p, k, q⟩)
      simp only [biD, ht, Bool.false_eq_true, if_false, Option.bind_eq_some_iff, Option.map_eq_some_iff] at k
      obtain ⟨ns, hb, m, hm, rfl⟩ := k
      obtain ⟨v, rfl, p1⟩ := p.one
      obtain ⟨a, vs, rfl, s1, r1⟩ := p1.list
      rw [ints_of hb] at r1
      rw [r1.ints] at s1
      obtain ⟨m1, m2⟩ := minI hm
      refine .inr (.inr ⟨a, ns, rfl, s1.sq, List.length_pos_of_mem m1, fun m' h1 h2 => ?_⟩)
      have : m' = m := Int.le_antisymm (h2 _ m1) (m2 _ h1)
      rw [this]; exact q.int w
  | sum =>
    refine CallR.imp (cr_sum hc) ?_
    rintro xs H Q ⟨R, st, as, ds, r, w, p, k, q⟩
    match ds, p, k with
    | [.list es], p, k =>
      simp only [biD, Option.map_eq_some_iff] at k
      obtain ⟨ns, hb, rfl⟩ := k
      obtain ⟨v, rfl, p1⟩ := p.one
      obtain ⟨a, vs, rfl, s1, r1⟩ := p1.list
      rw [ints_of hb] at r1
      rw [r1.ints] at s1
      exact ⟨a, ns, rfl, s1.sq, q.int w⟩
  | abs =>
    refine CallR.imp call_abs ?_
    rintro xs H Q ⟨R, st, as, ds, r, w, p, k, q⟩
    match ds, p, k with
    | [.int i], p, k =>
      cases k
      obtain ⟨v, rfl, p1⟩ := p.one
      rw [p1.int]
      exact ⟨i, rfl, q.int w⟩
  | divmod =>
    refine CallR.imp call_divmod ?_
    rintro xs H Q ⟨R, st, as, ds, r, w, p, k, q⟩
    match ds, p, k with
    | [.int i, .int j], p, k =>
      simp only [biD] at k
      split at k
      · rename_i c
        cases k
        obtain ⟨v, u, rfl, p1, p2⟩ := p.two
        rw [p1.int, p2.int]
        exact ⟨i, j, rfl, c, q.tup w (.cons (.int _) (.cons (.int _) .nil))⟩
      · cases k
  | int =>
    rintro pins s σ H xs us Q I rx ⟨R, st, as, ds, r, w, p, k, q⟩
    match ds, p, k with
    | [.int i], p, k =>
      cases k
      obtain ⟨v, rfl, p1⟩ := p.one
      rw [p1.int] at rx
      exact call_int1 pins s σ H _ us Q I rx (.inl ⟨i, rfl, q.int w⟩)
    | [.bool i], p, k =>
      cases k
      obtain ⟨v, rfl, p1⟩ := p.one
      rw [p1.bool] at rx
      exact call_int1 pins s σ H _ us Q I rx (.inr ⟨i, rfl, q.int w⟩)
    | [.str z], p, k =>
      simp only [biD] at k
      split at k
      · rename_i hl
        rw [Option.map_eq_some_iff] at k
        obtain ⟨n, hn, rfl⟩ := k
        obtain ⟨v, rfl, p1⟩ := p.one
        rw [p1.str] at rx
        exact call_int_str pins s σ H _ us Q I rx ⟨z, n, rfl, hn, hl, q.int w⟩
      · cases k
  | sortedset => exact absurd rfl h1
  | lenset => exact absurd rfl h2
  | str =>
    rintro pins s σ H xs us Q I rx ⟨R, st, as, ds, r, w, p, k, q⟩
    exact absurd k (by simp [biD])
  | repr =>
    rintro pins s σ H xs us Q I rx ⟨R, st, as, ds, r, w, p, k, q⟩
    match ds, p, k with
    | [.list es], p, k =>
      obtain ⟨v, rfl, p1⟩ := p.one
      obtain ⟨a, vs, rfl, s1, r1⟩ := p1.list
      rw [Vals.ref1 rx]
      exact repr_D gd hu I w p1 k q
    | [.tuple es], p, k =>
      obtain ⟨v, rfl, p1⟩ := p.one
      obtain ⟨a, vs, rfl, s1, r1⟩ := p1.tup
      rw [Vals.ref1 rx]
      exact repr_D gd hu I w p1 k q
    | [.int i], p, k =>
      simp only [biD, reprD] at k
      split at k
      · rename_i c
        simp only [Bool.and_eq_true, decide_eq_true_eq] at c
        cases k
        obtain ⟨v, rfl, p1⟩ := p.one
        rw [p1.int] at rx
        exact SkE.call_repr_int pins s σ H _ us Q I rx ⟨i, rfl, by simpa [PyData.showable] using c.1.1, q.str w⟩
      · cases k
  | dict => exact cr_dictD hc hu
  | bool =>
    rintro pins s σ H xs us Q I rx ⟨R, st, as, ds, r, w, p, k, q⟩
    exact absurd k (by simp [biD])
end
end TB
set_option maxRecDepth 100000
/-! TBMatch: a syntax tree of mine stands for a tree of the machine's. -/
namespace TB
open PySem PySem.Spec PyProof.Rows L2
/-- names by slots, functions by numbers, constants by numbers -/
structure Cxt where
  N : List Str
  fn : Nat → Option Str
  gl : Nat → Option Str
  ex : Nat → Option Str := fun _ => none
  hot : Bool := false
  /-- the def whose body it is, where lambdas are served -/
  me : Option Str := none
  /-- words alone are asked, too -/
  wd : Bool := false
def visB (sc : Scope) (x : Str) : Bool := match sc.names.lookup x with
  | some .local => true
  | some .cell => true
  | some .free => true
  | _ => false
def locB (sc : Scope) (x : Str) : Bool := match sc.names.lookup x with
  | some .local => true
  | _ => false
def lcB (sc : Scope) (x : Str) : Bool := match sc.names.lookup x with
  | some .local => true
  | some .cell => true
  | _ => false
def glB (sc : Scope) (x : Str) : Bool := match sc.names.lookup x with
  | some .globalImplicit => true
  | _ => false
def plainN (x : Str) : Bool := !(x == ("__debug__" : Str)) && !(x == ("__classdict__" : Str))
def notStar : Expr → Bool
  | .Starred _ _ => false
  | _ => true
def notSlice : Expr → Bool
  | .Slice _ _ _ _ => false
  | _ => true
def notCall : Expr → Bool
  | .Call _ _ _ _ => false
  | _ => true
def notSetD : Expr → Bool
  | .Set _ _ _ => false
  | _ => true
def biX : Bi → Str
  | .len => "len" | .all => "all" | .any => "any" | .tuple => "tuple" | .list => "list" | .sorted => "sorted"
  | .max => "max" | .min => "min" | .sum => "sum" | .abs => "abs" | .divmod => "divmod" | .int => "int"
  | .str => "str" | .repr => "repr" | .sortedset => "sorted" | .lenset => "len" | .dict => "dict" | .bool => "bool"
def tyX : Ty → Str
  | .int => "int" | .bool => "bool" | .str => "str" | .tuple => "tuple" | .list => "list" | .dict => "dict"
def meX : Me → Str
  | .count => "count" | .index => "index" | .get => "get" | .items => "items" | .values => "values" | .join => "join"
/-- methods that are served -/
def meOk : Me → Bool
  | .count => true
  | .index => true
  | _ => false
def matchLo (lo : Nat) : Option Expr → Bool
  | none => decide (lo = 0)
  | some (.Constant (.int k) _ _) => decide (k = (lo : Int))
  | _ => false
def nmIs (c : Cxt) (i : Nat) (x : Str) : Bool := decide (c.N[i]? = some x)
def eqOp (a b : Operator) : Bool := match a, b with
  | .Add, .Add => true | .Sub, .Sub => true | .Mult, .Mult => true | .Mod, .Mod => true | .FloorDiv, .FloorDiv => true | .Pow, .Pow => true
  | .LShift, .LShift => true | .RShift, .RShift => true | .BitAnd, .BitAnd => true | _, _ => false
def eqCmp (a b : CmpOp) : Bool := match a, b with
  | .Eq, .Eq => true | .NotEq, .NotEq => true | .Lt, .Lt => true | .LtE, .LtE => true | .Gt, .Gt => true | .GtE, .GtE => true
  | .Is, .Is => true | .IsNot, .IsNot => true | .In, .In => true | .NotIn, .NotIn => true | _, _ => false
theorem eqOp_eq {a b : Operator} (h : eqOp a b = true) : a = b := by cases a <;> cases b <;> first | rfl | cases h
theorem eqCmp_eq {a b : CmpOp} (h : eqCmp a b = true) : a = b := by cases a <;> cases b <;> first | rfl | cases h
def matchC (d : D) (k : Const) : Bool := match d, k with
  | .none, .none => true
  | .bool b, .bool c => b == c
  | .int i, .int j => decide (i = j)
  | .str x, .str y => decide (x = y)
  | _, _ => false
def matchNm (c : Cxt) (sc : Scope) (i : Nat) (py : Expr) : Bool := match py with
  | .Name x _ => nmIs c i x && lcB sc x && plainN x
  | _ => false
def matchNms (c : Cxt) (sc : Scope) : List Nat → List Expr → Bool
  | [], [] => true
  | i :: is, e :: es => matchNm c sc i e && matchNms c sc is es
  | _, _ => false
def matchT (c : Cxt) (sc : Scope) (t : Tg) (py : Expr) : Bool := match t, py with
  | .nm i, py => matchNm c sc i py
  | .tp is, .Tuple es _ _ => matchNms c sc is es && decide (is.length ≤ 1000)
  | _, _ => false
def tgB (t : Tg) (own : List Nat) : Bool := match t with
  | .nm i => own.contains i
  | .tp is => is.all fun i => own.contains i
def pairI : I → Bool
  | .en _ => true
  | .z2 _ _ => true
  | _ => false
def isRg : I → Bool
  | .r1 _ => true
  | .r2 _ _ => true
  | _ => false
def isTp : Tg → Bool
  | .tp _ => true
  | _ => false
def ownP (c : Cxt) (own : List Nat) : List (Str × Nat) := own.map fun i => (c.N.getD i "", i)
def saidX (wd : Bool) : Str := if wd then "_law_word" else "_law_said"
section
mutual
def matchE : Cxt → E → Scope → Expr → Bool
  | c, .var i, sc, py => match py with
    | .Name x _ => nmIs c i x && visB sc x && plainN x
    | _ => false
  | c, .cn d, _, py => match py with
    | .Constant k _ _ => matchC d k
    | _ => false
  | c, .glob i, sc, py => match py with
    | .Name x _ => decide (c.gl i = some x) && glB sc x && plainN x
    | _ => false
  | c, .tup es, sc, py => match py with
    | .Tuple xs _ _ => matchEs c es sc xs && decide (xs.length ≤ 1000)
    | _ => false
  | c, .lst es, sc, py => match py with
    | .List xs _ => matchEs c es sc xs && decide (xs.length ≤ 1000)
    | _ => false
  | c, .dnew, _, py => match py with
    | .Dict [] [] _ => true
    | _ => false
  | c, .bin op a b, sc, py => match py with
    | .BinOp x o y _ => eqOp op o && matchE c a sc x && matchE c b sc y
    | _ => false
  | c, .neg a, sc, py => match py with
    | .UnaryOp .USub x _ => matchE c a sc x
    | _ => false
  | c, .not a, sc, py => match py with
    | .UnaryOp .Not x _ => matchE c a sc x
    | _ => false
  | c, .and a b, sc, py => match py with
    | .BoolOp .And (x :: y :: r) pos => matchE c a sc x && (match r with | [] => matchE c b sc y | _ :: _ => matchE c b sc (.BoolOp .And (y :: r) pos))
    | _ => false
  | c, .or a b, sc, py => match py with
    | .BoolOp .Or (x :: y :: r) pos => matchE c a sc x && (match r with | [] => matchE c b sc y | _ :: _ => matchE c b sc (.BoolOp .Or (y :: r) pos))
    | _ => false
  | c, .cmp op a b, sc, py => match py with
    | .Compare x [o] [y] _ => eqCmp op o && matchE c a sc x && matchE c b sc y && notSetD y
    | _ => false
  | c, .chain op op' a b d, sc, py => match py with
    | .Compare x [o, o'] [y, z] _ => eqCmp op o && eqCmp op' o' && matchE c a sc x && matchE c b sc y && matchE c d sc z && notSetD z
    | _ => false
  | c, .ite d a b, sc, py => match py with
    | .IfExp z x y _ => matchE c d sc z && matchE c a sc x && matchE c b sc y
    | _ => false
  | c, .call f es, sc, py => match py with
    | .Call (.Name x _) xs [] _ => decide (c.fn f = some x) && glB sc x && plainN x && matchEs c es sc xs && !xs.isEmpty
    | _ => false
  | c, .bi b es, sc, py => match py with
    | .Call (.Name x _) xs [] _ => !c.hot && decide (x = biX b) && glB sc x && (match b with
      | .sortedset => (match xs with
        | [.Call (.Name y _) ys [] _] => decide (y = ("set" : Str)) && glB sc y && matchEs c es sc ys && !ys.isEmpty
        | _ => false)
      | .lenset => false
      | _ => matchEs c es sc xs && !xs.isEmpty)
    | _ => false
  | c, .isin a t, sc, py => match py with
    | .Call (.Name x _) [y, .Name z _] [] _ => decide (x = ("isinstance" : Str)) && glB sc x && decide (z = tyX t) && glB sc z && matchE c a sc y && notStar y
    | _ => false
  | c, .idx o i, sc, py => match py with
    | .Subscript x y _ => matchE c o sc x && matchE c i sc y && notSlice y
    | _ => false
  | c, .slc o a b, sc, py => match py with
    | .Subscript x (.Slice lo hi none _) _ => matchE c o sc x && matchO c a sc lo && matchO c b sc hi
    | _ => false
  | c, .back o, sc, py => match py with
    | .Subscript x (.Slice none none (some (.UnaryOp .USub (.Constant (.int k) _ _) _)) _) _ => matchE c o sc x && decide (k = 1)
    | _ => false
  | c, .rep es k, sc, py => match py with
    | .BinOp (.List xs _) .Mult y _ => matchEs c es sc xs && decide (xs.length ≤ 1000) && matchE c k sc y
    | _ => false
  | c, .inG neg a i, sc, py => match py with
    | .Compare x [o] [.Name y _] _ => eqCmp (if neg then .NotIn else .In) o && matchE c a sc x && decide (c.gl i = some y) && glB sc y && plainN y && false
    | _ => false
  | c, .lof it, sc, py => match py with
    | .Call (.Name x _) [y] [] _ => !c.hot && decide (x = ("list" : Str)) && glB sc x && isRg it && matchI c it sc y && notStar y
    | _ => false
  | c, .split o s, sc, py => match py with
    | .Call (.Attribute x m ap) [y] [] cp => decide (m = ("split" : Str)) && matchE c o sc x && notCall x && matchE c s sc y && notStar y && (ap.endLine == cp.line)
    | _ => false
  | c, .me m o es, sc, py => match py with
    | .Call (.Attribute x mn ap) ys [] cp => decide (mn = meX m) && meOk m && matchE c o sc x && notCall x && matchEs c es sc ys && (ap.endLine == cp.line) && !ys.isEmpty && decide (ys.length < 20)
    | _ => false
  | c, .step2 o lo, sc, py => match py with
    | .Subscript x (.Slice a none (some (.Constant (.int k) _ _)) _) _ => matchE c o sc x && decide (k = 2) && matchLo lo a
    | _ => false
  | c, .sum2 a, sc, py => match py with
    | .Call (.Name x _) [y, .List [] _] [] _ => !c.hot && decide (x = ("sum" : Str)) && glB sc x && matchE c a sc y && notStar y
    | _ => false
  | c, .isE i n, sc, py => match py with
    | .Call (.Name x _) [.Name y _, .Name z _] [] _ => c.hot && decide (x = ("isinstance" : Str)) && glB sc x && nmIs c i y && visB sc y && plainN y && (if n = 99 then decide (z = ("ValueError" : Str)) else decide (c.ex n = some z)) && glB sc z && plainN z
    | _ => false
  | c, .orv a b, sc, py => match py with
    | .BoolOp .Or [x, y] _ => matchE c a sc x && matchE c b sc y
    | _ => false
  | c, .said x j w f es, sc, py => match py with
    | .Call (.Name g _) [.Lambda ⟨[], [], none, [], [], none, []⟩ (.Call (.Name y _) xs [] _) scope _] [] _ => !c.hot && (!w || c.wd) && decide (c.me = some x) && decide (g = saidX w) && glB sc g && LamX.lamSB sc scope && decide (c.fn f = some y) && glB scope y && plainN y && matchEs { c with me := none } es scope xs && !xs.isEmpty
    | _ => false
  | c, .nvr, _, py => match py with
    | .ListComp _ _ _ _ => false
    | .SetComp _ _ _ _ => false
    | .DictComp _ _ _ _ _ => false
    | _ => true
  | c, .popv j o, sc, py => match o, py with
    | .no, .Call (.Attribute (.Name x xp) m ap) [] [] cp => !c.hot && decide (m = ("pop" : Str)) && nmIs c j x && visB sc x && plainN x && (ap.endLine == cp.line)
    | _, _ => false
  | c, .popi j e, sc, py => match py with
    | .Call (.Attribute (.Name x xp) m ap) [y] [] cp => !c.hot && decide (m = ("pop" : Str)) && nmIs c j x && visB sc x && plainN x && matchE c e sc y && notStar y && (ap.endLine == cp.line)
    | _ => false
  | c, .get1 o k, sc, py => match py with
    | .Call (.Attribute x m ap) [y] [] cp => !c.hot && decide (m = ("get" : Str)) && matchE c o sc x && notCall x && matchE c k sc y && notStar y && (ap.endLine == cp.line)
    | _ => false
  | c, .get2 o k v, sc, py => match py with
    | .Call (.Attribute x m ap) [y, z] [] cp => !c.hot && decide (m = ("get" : Str)) && matchE c o sc x && notCall x && matchE c k sc y && notStar y && matchE c v sc z && notStar z && (ap.endLine == cp.line)
    | _ => false
  | c, .pld, _, py => match py with
    | .Dict [] [] _ => true
    | _ => false
  | c, .fz e, sc, py => !notCall py && matchE c e sc py
  | c, .lc elt t it own d, sc, py => match py with
    | .ListComp y [⟨tg, iter, ifs, k⟩] scope _ => !c.hot && decide (k = 0) && matchI c it sc iter && notSetD iter && (!pairI it || isTp t) && blkC c.N sc scope (ownP c own) && matchT c (relS scope sc) t tg && matchT c scope t tg && tgB t own && matchIf c d (relS scope sc) ifs && matchE c elt (relS scope sc) y
    | _ => false
def matchEs : Cxt → Es → Scope → List Expr → Bool
  | c, .nil, _, py => match py with
    | [] => true
    | _ => false
  | c, .cons e es, sc, py => match py with
    | x :: xs => matchE c e sc x && notStar x && matchEs c es sc xs
    | _ => false
def matchPop : Cxt → Oe → Scope → List Expr → Bool
  | c, .no, _, py => match py with
    | [] => true
    | _ => false
  | c, .yes e, sc, py => match py with
    | [x] => matchE c e sc x && notStar x
    | _ => false
def matchO : Cxt → Oe → Scope → Option Expr → Bool
  | c, .no, _, py => match py with
    | none => true
    | _ => false
  | c, .yes e, sc, py => match py with
    | some x => matchE c e sc x
    | _ => false
def matchIf : Cxt → Oe → Scope → List Expr → Bool
  | c, .no, _, py => match py with
    | [] => true
    | _ => false
  | c, .yes e, sc, py => match py with
    | [x] => matchE c e sc x
    | _ => false
def matchI : Cxt → I → Scope → Expr → Bool
  | c, .e e, sc, py => matchE c e sc py
  | c, .r1 a, sc, py => match py with
    | .Call (.Name x _) [y] [] _ => decide (x = ("range" : Str)) && glB sc x && matchE c a sc y && notStar y
    | _ => false
  | c, .r2 a b, sc, py => match py with
    | .Call (.Name x _) [y, z] [] _ => decide (x = ("range" : Str)) && glB sc x && matchE c a sc y && notStar y && matchE c b sc z && notStar z
    | _ => false
  | c, .r3 a b d, sc, py => match py with
    | .Call (.Name x _) [y, z, u] [] _ => decide (x = ("range" : Str)) && glB sc x && matchE c a sc y && notStar y && matchE c b sc z && notStar z && matchE c d sc u && notStar u
    | _ => false
  | c, .gl i, sc, py => match py with
    | .Name x _ => decide (c.gl i = some x) && glB sc x && plainN x && false
    | _ => false
  | c, .en a, sc, py => match py with
    | .Call (.Name x _) [y] [] _ => decide (x = ("enumerate" : Str)) && glB sc x && matchE c a sc y && notStar y
    | _ => false
  | c, .z2 a b, sc, py => match py with
    | .Call (.Name x _) [y, z] [] _ => decide (x = ("zip" : Str)) && glB sc x && matchE c a sc y && notStar y && matchE c b sc z && notStar z
    | _ => false
  | c, .z3 a b d, sc, py => false
  | c, .items a, sc, py => false
  | c, .values a, sc, py => false
end
end
theorem star_cons {e : Expr} {es : List Expr} {env : Env} (h : notStar e = true) : starEach (e :: es) env = (false, eval e env) :: starEach es env := by
  cases e <;> first | rfl | cases h
theorem plainIx_of {b : Expr} (h : notSlice b = true) : PlainIx b := by
  intro o i
  cases b <;> first | rfl | cases h
theorem nomark_of {op : CmpOp} {b : Expr} (h : notSetD b = true) : behindInMarks op b = false := by
  cases b <;> first | rfl | cases h
theorem folded_of {e : Expr} {env : Env} (h : notSetD e = true) : ∀ x, foldedSetIterable e env x = pure x := by
  intro x
  cases e <;> first | rfl | cases h
theorem vis_of {sc : Scope} {x : Str} (h : visB sc x = true) : Vis sc x := by
  unfold visB at h
  unfold Vis
  split at h
  · rename_i e; exact .inl e
  · rename_i e; exact .inr (.inl e)
  · rename_i e; exact .inr (.inr e)
  · cases h
theorem loc_of {sc : Scope} {x : Str} (h : lcB sc x = true) : L2.Loc sc x := by
  unfold lcB at h
  unfold L2.Loc
  split at h
  · rename_i e; exact .inl e
  · rename_i e; exact .inr e
  · cases h
theorem gl_of {sc : Scope} {x : Str} (h : glB sc x = true) : sc.names.lookup x = some .globalImplicit := by
  unfold glB at h
  split at h
  · rename_i e; exact e
  · cases h
theorem plain1 {x : Str} (h : plainN x = true) : (x == ("__debug__" : Str)) = false ∧ (x == ("__classdict__" : Str)) = false := by
  simp only [plainN, Bool.and_eq_true, Bool.not_eq_true'] at h
  exact h
theorem any_back {pos : Pos} {es : List (Bool × Sem Value)} (h : es.any (·.1) = false) : (backTo pos es).any (·.1) = false := by
  unfold backTo
  rw [List.any_map]
  exact h
theorem any_star {c : Cxt} {sc : Scope} {env : Env} : ∀ {es : Es} {xs : List Expr}, matchEs c es sc xs = true → (starEach xs env).any (·.1) = false
  | .nil, xs, h => by
    simp only [matchEs] at h
    split at h
    · rfl
    · cases h
  | .cons e es, xs, h => by
    simp only [matchEs] at h
    split at h
    · simp only [Bool.and_eq_true] at h
      rw [star_cons h.1.2, List.any_cons, any_star h.2]
      rfl
    · cases h
end TB
set_option maxRecDepth 100000
/-! TBSnd: what the evaluator tells of an expression is what the machine does. -/
namespace TB
open PySem PySem.Spec PyProof.Rows L2
/-! ### readings by the evaluator -/
def RelWs (K : PySem.W.Frag) (H : Hp) (Z : Addr → Prop) (as : As) : List W → List V → Prop
  | [], [] => True
  | w :: ws, v :: vs => RelW K H Z as w v ∧ RelWs K H Z as ws vs
  | _, _ => False
theorem RelWs.grow {K : PySem.W.Frag} {H H' : Hp} {Z Z' : Addr → Prop} {as as' : As} (g : Grows H Z H' Z') (e : ∃ more, as' = as ++ more) : ∀ {ws : List W} {vs : List V}, RelWs K H Z as ws vs → RelWs K H' Z' as' ws vs
  | [], [], _ => True.intro
  | _ :: _, _ :: _, h => ⟨h.1.grow g e, RelWs.grow g e h.2⟩
  | [], _ :: _, h => h.elim
  | _ :: _, [], h => h.elim
section
variable (K : PySem.W.Frag) (Φ : Nat → List W → Sto → Res W) (G : List D)
def rd {α β : Type} (f : Ev → Sto → Res α) (rel : Hp → (Addr → Prop) → As → α → β → Prop) (σV : L2.St) (H : Hp) (Q : β → Hp → Prop) : Prop :=
  ∃ R σ st as, Loc K H (Zof st as R) as σ σV ∧ Wld K H R st as ∧ (f σ st).wp fun a st' => ∀ b H' as', Post K R H st as st' H' as' → rel H' (Zof st' as' R) as' a b → Q b H'
def tE (e : E) : TE := rd K (ev Φ G e) (RelW K)
def tT (e : E) : TT := rd K (evT Φ G e) fun _ _ _ (a b : Bool) => b = a
def tA (es : Es) : TA := rd K (evs Φ G es) (RelWs K)
def tAD (es : Es) : TA := rd K (evD Φ G es) fun H Z _ ds vs => RelAll K H Z ds vs
def tO (o : Oe) : TO := rd K (evO Φ G o) fun _ _ _ (a b : Option Int) => b = a
def tIf (o : Oe) : TT := rd K (evC Φ G o) fun _ _ _ (a b : Bool) => b = a
end
section
variable {K : PySem.W.Frag} {α β γ δ : Type} {R : Addr → Prop} {σ : Ev} {σV : L2.St} {st : Sto} {as : As} {H : Hp} {rel : Hp → (Addr → Prop) → As → α → β → Prop}
/-- one step of a reading -/
theorem rd_step {f : Ev → Sto → Res α} {P : α → Sto → Prop} {Q : β → Hp → Prop} (hl : Loc K H (Zof st as R) as σ σV) (hw : Wld K H R st as) (h : (f σ st).wp P)
    (k : ∀ a st1 b H1 as1, P a st1 → Post K R H st as st1 H1 as1 → Loc K H1 (Zof st1 as1 R) as1 σ σV → rel H1 (Zof st1 as1 R) as1 a b → Q b H1) : rd K f rel σV H Q :=
  ⟨R, σ, st, as, hl, hw, wp_mono h fun a st1 p b H1 as1 po r => k a st1 b H1 as1 p po (hl.grow po.grow po.ext) r⟩
end
theorem PE.imp {X : Cx} {e : Expr} {t t' : TE} (h : PE X e t) (m : ∀ σ H Q, t' σ H Q → t σ H Q) : PE X e t' := ⟨fun pins s σ H Q I q => h.run pins s σ H Q I (m σ H Q q)⟩
theorem PT.imp {X : Cx} {e : Expr} {t t' : TT} (h : PT X e t) (m : ∀ σ H Q, t' σ H Q → t σ H Q) : PT X e t' := ⟨fun pins s σ H Q I q => h.run pins s σ H Q I (m σ H Q q)⟩
theorem PW.imp {X : Cx} {e : Expr} {t t' : TT} (h : PW X e t) (m : ∀ σ H Q, t' σ H Q → t σ H Q) : PW X e t' := ⟨fun wh pins s σ H Q I q => h.run wh pins s σ H Q I (m σ H Q q)⟩
theorem PA.imp {X : Cx} {es : List Expr} {t t' : TA} (h : PA X es t) (m : ∀ σ H Q, t' σ H Q → t σ H Q) : PA X es t' := ⟨fun pos pins s σ H Q I q => h.run pos pins s σ H Q I (m σ H Q q)⟩
theorem PO.imp {X : Cx} {e : Option Expr} {t t' : TO} (h : PO X e t) (m : ∀ σ H Q, t' σ H Q → t σ H Q) : PO X e t' := ⟨fun pins s σ H Q I q => h.run pins s σ H Q I (m σ H Q q)⟩
theorem PTs.imp {X : Cx} {es : List Expr} {t t' : TT} (h : PTs X es t) (m : ∀ σ H Q, t' σ H Q → t σ H Q) : PTs X es t' := ⟨fun pins s σ H Q I q => h.run pins s σ H Q I (m σ H Q q)⟩
/-- an answer by trees, as the reading of an expression wants it -/
theorem ans_of {K : PySem.W.Frag} {R : Addr → Prop} {st st1 : Sto} {as as1 : As} {H H1 : Hp} {d : D} {Q : VK} (po : Post K R H st as st1 H1 as1)
    (q : ∀ v H' as', Post K R H st as st1 H' as' → RelW K H' (Zof st1 as' R) as' (.d d) v → Q v H') : Ans K R st1 as1 H1 d Q := fun v H' po' r => q v H' as1 (po.trans po') r
/-! ### what a call is worth; what is known of the context -/
def spF (K : PySem.W.Frag) (F : List W → Sto → Res W) : List V → Hp → VK → Prop := fun vs H Q =>
  ∃ R ws st as, RelWs K H (Zof st as R) as ws vs ∧ Wld K H R st as ∧ (F ws st).wp fun w st' => ∀ v H' as', Post K R H st as st' H' as' → RelW K H' (Zof st' as' R) as' w v → Q v H'
def CallsOk (P : Program) (w : World) (K : PySem.W.Frag) (mg : Str → Option Value) (base : Heap) (A : Around) (fa : Addr) (F : List W → Sto → Res W) : Prop :=
  ∀ (outer : List Env) (s : Shared) (H : Hp) (us : List Value) (vs : List V) (Q : VK), Env0 P w K mg base A outer s H → Vals vs us → spF K F vs H Q → codeAny (model P w) A (.call (.ref fa) ⟨us, []⟩) (CR CX0 outer P w H s Q E0) s
def bNames : List Str := ["len", "all", "any", "tuple", "list", "sorted", "max", "min", "sum", "abs", "divmod", "int", "str", "repr", "dict", "bool", "set", "isinstance", "range", "enumerate", "zip"]
/-- constants: whole numbers -/
def GlobOk (d : Option D) (u : Value) : Prop := match d with
  | some (.int n) => ∃ t, u = .int n t
  | _ => True
/-- the caught exception, in a context that handles it -/
structure HotX (X : Cx) (c : Cxt) (a : Addr) (b : Int) : Prop where
  at_ : ∃ (C : Addr) (oe : Obj), (a, oe) ∈ X.pn ∧ Zc (.ref C) none oe ∧ (∃ vs, oe.data = .fields vs) ∧ ExcC X.K C ∧ (∀ (n : Nat) x, c.ex n = some x → ∃ T, X.mg x = some (.ref T) ∧ PySem.W.kitOne X.K (.ref C) (.ref T) = some (decide (b = (n : Int)))) ∧ PySem.W.kitOne X.K (.ref C) (.type "ValueError") = some true
/-- the names of an exception's values -/
def fldsOf : List D → List (Str × V)
  | [.int a, .int b] => [("most", .int b), ("many", .int a)]
  | [.int a] => [("many", .int a)]
  | _ => []
/-- an exception, and mine -/
def ExcR (cl : Nat → Option Addr) (c : Nat) (xs : List D) (cls : Value) (d : Option Addr) (H : Hp) : Prop := ∃ C, cl c = some C ∧ cls = .ref C ∧ ((xs = [] ∧ d = none) ∨ (xs ≠ [] ∧ ∃ dd, d = some dd ∧ H dd = some (.xd (fldsOf xs))))
/-- what a call is worth, and its exceptions -/
def spX (K : PySem.W.Frag) (cl : Nat → Option Addr) (F : List W → Sto → Res W) : List V → Hp → VK → XK → Prop := fun vs H Q E =>
  ∃ R ws st as, RelWs K H (Zof st as R) as ws vs ∧ Wld K H R st as ∧ match F ws st with
    | .ok w st' => ∀ v H' as', Post K R H st as st' H' as' → RelW K H' (Zof st' as' R) as' w v → Q v H'
    | .exc c xs st' => ∀ cls d H' as', Post K R H st as st' H' as' → ExcR cl c xs cls d H' → E cls d H'
    | .bad => False
/-- calls that may raise -/
def CallsX (P : Program) (w : World) (K : PySem.W.Frag) (mg : Str → Option Value) (base : Heap) (A : Around) (fa : Addr) (cl : Nat → Option Addr) (F : List W → Sto → Res W) : Prop :=
  ∀ (outer : List Env) (s : Shared) (H : Hp) (us : List Value) (vs : List V) (Q : VK) (E : XK), Env0 P w K mg base A outer s H → Vals vs us → spX K cl F vs H Q E → codeAny (model P w) A (.call (.ref fa) ⟨us, []⟩) (CR (L2N.CX P w) outer P w H s Q E) s
section
variable {P : Program} {w : World} {K : PySem.W.Frag} {cl : Nat → Option Addr}
/-- no exception, no way out -/
theorem cr_none {outer : List Env} {H : Hp} {s s' : Shared} {Q : VK} {res : Result} (h : CR (L2N.CX P w) outer P w H s Q (fun _ _ _ => False) res s') : CR CX0 outer P w H s Q E0 res s' := by
  match res, h with
  | .ok (.ret _), h => exact h
  | .ok .next, h => exact h
  | .ok .brk, h => exact h
  | .ok .cont, h => exact h
  | .error _, ⟨_, _, _, _, _, _, _, _, _, _, _, _, h⟩ => exact h
theorem spX_of {F : List W → Sto → Res W} {vs : List V} {H : Hp} {Q : VK} {E : XK} (h : spF K F vs H Q) : spX K cl F vs H Q E := by
  obtain ⟨R, ws, st, as, r, hw, h⟩ := h
  refine ⟨R, ws, st, as, r, hw, ?_⟩
  revert h
  cases F ws st with
  | ok w st' => exact fun h => h
  | exc c xs st' => exact fun h => h.elim
  | bad => exact fun h => h
end
/-- what a computation is worth, by trees, with its exceptions -/
def ansR (K : PySem.W.Frag) (cl : Nat → Option Addr) (R : Addr → Prop) (H : Hp) (st : Sto) (as : As) (r : Res W) (Q : VK) (E : XK) : Prop :=
  match r with
  | .ok w st' => ∀ v H' as', Post K R H st as st' H' as' → RelW K H' (Zof st' as' R) as' w v → Q v H'
  | .exc c xs st' => ∀ cls d H' as', Post K R H st as st' H' as' → ExcR cl c xs cls d H' → E cls d H'
  | .bad => False
/-- a lambda without parameters, made with the frames fs below: what its call is worth, later on -/
structure LamAt (P : Program) (w : World) (K : PySem.W.Frag) (mg : Str → Option Value) (base : Heap) (k : Nat) (fs : List Addr) (s : Shared) (H : Hp) (f : Addr) (T : VK → XK → Prop) : Prop where
  fn : ∀ (s2 : Shared), Un fs [] H H s.heap s2.heap → PySem.W.FnAt f s2.heap
  run : ∀ (A : Around) (outer : List Env) (s2 : Shared) (Q : VK) (E : XK), Room k A → A.guards = some [] → Env0 P w K mg base A outer s2 H → Un fs [] H H s.heap s2.heap → T Q E → codeAny (model P w) A (.call (.ref f) ⟨[], []⟩) (CR (L2N.CX P w) outer P w H s2 Q E) s2
/-- the def that is given a lambda and tells what it says -/
def GiveOk (P : Program) (w : World) (K : PySem.W.Frag) (mg : Str → Option Value) (base : Heap) (k : Nat) (cl : Nat → Option Addr) (g : Addr) (wd : Bool) : Prop :=
  ∀ (A : Around) (outer : List Env) (s : Shared) (H : Hp) (f : Addr) (R : Addr → Prop) (st : Sto) (as : As) (r : Res W) (Q : VK), Room (k + (if wd then 3 else 2)) A → A.guards = some [] → Env0 P w K mg base A outer s H → LamAt P w K mg base (k + 1) (frs outer) s H f (ansR K cl R H st as r) → Wld K H R st as →
    ((saidR st.length wd r).wp fun y st' => ∀ v H' as', Post K R H st as st' H' as' → RelW K H' (Zof st' as' R) as' y v → Q v H') → codeAny (model P w) A (.call (.ref g) ⟨[.ref f], []⟩) (CR CX0 outer P w H s Q E0) s
/-- where lambdas are served: the def's name, its code object, its table -/
structure SaidOk (X : Cx) (c : Cxt) (Φ : Nat → List W → Sto → Res W) (x : Str) : Prop where
  qual : X.env.qual = x ++ ".<locals>."
  code : X.env.code = .ref (He.cT X.K (x, none)).1
  tab : LamX.TabB X.base X.mg (He.cT X.K (x, none)).1 (He.cT X.K (x, none)).2
  ex : ∃ (k : Nat) (cl : Nat → Option Addr), Room (k + 3) X.A ∧ (∀ (f : Nat) y, c.fn f = some y → ∃ fa, X.mg y = some (.ref fa) ∧ PySem.W.keepIn X.K (.ref fa) = true ∧ ∀ A, Room k A → A.guards = some [] → CallsX X.prog X.w X.K X.mg X.base A fa cl (Φ f)) ∧
    ∀ wd, (wd = true → c.wd = true) → ∃ g, X.mg (saidX wd) = some (.ref g) ∧ PySem.W.keepIn X.K (.ref g) = true ∧ GiveOk X.prog X.w X.K X.mg X.base k cl g wd
structure XOk (X : Cx) (c : Cxt) (Φ : Nat → List W → Sto → Res W) (G : List D) : Prop where
  calm : c.hot = false → X.calm = true
  N : X.N = c.N
  nd : X.N.Nodup
  hu : X.A.units + 200 < cLine
  gd : X.A.guards = some []
  blt : ∀ x ∈ bNames, X.mg x = none
  glob : ∀ (i : Nat) x, c.gl i = some x → ∃ u, X.mg x = some u ∧ GlobOk G[i]? u
  hotx : ∀ (a b : Int) xs, c.hot = true → G[50]? = some (.tuple (.int a :: .int b :: xs)) → HotX X c a.toNat b
  mgV : c.hot = true → X.mg "ValueError" = none
  said : ∀ x, c.me = some x → SaidOk X c Φ x
  calls : ∀ (f : Nat) x, c.fn f = some x → ∃ fa, X.mg x = some (.ref fa) ∧ PySem.W.keepIn X.K (.ref fa) = true ∧ CallsOk X.prog X.w X.K X.mg X.base X.A fa (Φ f)
theorem XOk.blk {X : Cx} {c : Cxt} {Φ : Nat → List W → Sto → Res W} {G : List D} (h : XOk X c Φ G) (hc : c.hot = false) (s : Shared) (H : Hp) (scope : Scope) (cenv : Env) (fp : List Addr) (hq : cenv.qual = X.env.qual := by rfl) (hd : cenv.code = X.env.code := by rfl) : XOk (X.blk s H scope cenv fp) c Φ G :=
  ⟨h.calm, h.N, h.nd, h.hu, h.gd, h.blt, h.glob, fun _ _ _ q _ => absurd (hc.symm.trans q) (by decide), h.mgV, fun x hx => ⟨hq.trans (h.said x hx).qual, hd.trans (h.said x hx).code, (h.said x hx).tab, (h.said x hx).ex⟩, h.calls⟩
/-! ### calls -/
section
variable {X : Cx} {c : Cxt} {Φ : Nat → List W → Sto → Res W} {G : List D}
theorem run_ok (ok : XOk X c Φ G) {fa : Addr} {F : List W → Sto → Res W} (hf : CallsOk X.prog X.w X.K X.mg X.base X.A fa F) {pins : List (Addr × Obj)} {σ : L2.St} {H : Hp} {s : Shared} {Q : VK} {us : List Value} {vs : List V} (I : Inv X pins σ H s) (r : Vals vs us) (h : spF X.K F vs H Q) :
    wpAny (model X.prog X.w) X.A (PySem.call (.ref fa) us) (EP X pins σ Q) X.xe s := by
  refine wpAny_call <| codeAny_mono (hf X.stack s H us vs Q I.env0 r h) fun res s' hq => ?_
  match res, hq with
  | .ok (.ret u), hq => exact I.after hq
  | .ok .next, hq => exact False.elim hq
  | .ok .brk, hq => exact False.elim hq
  | .ok .cont, hq => exact False.elim hq
  | .error e, hq => exact False.elim hq
theorem pe_fn (ok : XOk X c Φ G) {f : Nat} {x : Str} {p pos : Pos} {e : Expr} {es : List Expr} {t : TA} (hx : c.fn f = some x) (hg : Gl X x) (hd : (x == ("__debug__" : Str)) = false) (ha : PA X (e :: es) t)
    (h1 : starEach (e :: es) X.env = (false, eval e X.env) :: starEach es X.env) (h2 : (starEach es X.env).any (·.1) = false) :
    PE X (.Call (.Name x p) (e :: es) [] pos) (fun σ H Q => t σ H fun vs H1 => spF X.K (Φ f) vs H1 Q) := by
  obtain ⟨fa, hm, hk, hf⟩ := ok.calls f x hx
  refine ⟨fun pins s σ H Q I h => ?_⟩
  refine wpAny_Call_Name_kw (ld_glob I hg hm ?_ hd)
  exact PySem.W.callWith_K (h₀ := X.base) I.ok.mod.kin hk (thn (ha.run pos pins s σ H _ I h) fun us s1 ⟨vs, H1, I1, r, q⟩ => ⟨I1.kIn, run_ok ok hf I1 r q⟩) h1 (any_back h2)
end
/-! ### targets -/
section
variable {K : PySem.W.Frag} {R Z : Addr → Prop} {as : As} {H : Hp}
theorem wipe_set {σV : L2.St} {i : Nat} {o : Option V} : ∀ {vs : List Nat}, i ∈ vs → wipe (σV.set i o) vs = wipe σV vs
  | [], h => by cases h
  | v :: vs, h => by
    unfold wipe
    by_cases e : i ∈ vs
    · rw [wipe_set e]
    · rcases List.mem_cons.mp h with rfl | h
      · have key : ∀ (ws : List Nat), i ∉ ws → (wipe (σV.set i o) ws).set i none = (wipe σV ws).set i none := by
          intro ws
          induction ws with
          | nil => intro _; exact List.set_set ..
          | cons w ws ih =>
            intro hn
            rw [List.mem_cons, not_or] at hn
            unfold wipe
            rw [List.set_comm _ _ (Ne.symm hn.1), ih hn.2, List.set_comm _ _ hn.1]
        exact key vs e
      · exact absurd h e
theorem Loc.unset {σ : Ev} {σV : L2.St} (h : Loc K H Z as σ σV) (i : Nat) : Loc K H Z as (σ.set i none) (σV.set i none) := by
  refine ⟨by rw [List.length_set, List.length_set]; exact h.1, fun j x hj => ?_⟩
  by_cases e : j = i
  · subst e
    by_cases hl : j < σ.length
    · rw [List.getElem?_set_self hl] at hj; cases hj
    · rw [List.getElem?_eq_none (by rw [List.length_set]; omega)] at hj; cases hj
  · rw [List.getElem?_set_ne (Ne.symm e)] at hj
    obtain ⟨u, h1, h2⟩ := h.2 j x hj
    exact ⟨u, by rw [List.getElem?_set_ne (Ne.symm e)]; exact h1, h2⟩
theorem Loc.wipe {σ : Ev} {σV : L2.St} (h : Loc K H Z as σ σV) : ∀ vs : List Nat, Loc K H Z as (wipeE σ vs) (L2.wipe σV vs)
  | [] => h
  | v :: vs => (Loc.wipe h vs).unset v
def tGs : List Nat → TGs
  | [] => gNil
  | i :: is => gCons (gName i) (tGs is)
def tG (K : PySem.W.Frag) : Tg → TG
  | .nm i => gName i
  | .tp is => gTup K is.length (tGs is)
theorem tGs_of : ∀ {is : List Nat} {ds : List D} {vs : List V} {σ σ1 : Ev} {σV : L2.St} {Q : L2.St → Hp → Prop}, storeT is ds σ = some σ1 → RelAll K H Z ds vs → Loc K H Z as σ σV →
    (∀ σV1, Loc K H Z as σ1 σV1 → (∀ own : List Nat, (is.all fun i => own.contains i) = true → wipe σV1 own = wipe σV own) → Q σV1 H) → tGs is vs σV H Q
  | [], [], _, σ, σ1, σV, Q, h, r, l, k => by
    cases r
    cases h
    exact ⟨rfl, k σV l fun _ _ => rfl⟩
  | i :: is, d :: ds, _, σ, σ1, σV, Q, h, r, l, k => by
    cases r with
    | cons r1 r2 =>
      refine ⟨_, _, rfl, tGs_of h r2 (l.set (w := .d d) r1) fun σV1 l1 hw => k σV1 l1 fun own ho => ?_⟩
      rw [List.all_cons, Bool.and_eq_true] at ho
      rw [hw own ho.2]
      exact wipe_set (by simpa using ho.1)
  | [], _ :: _, _, _, _, _, _, h, _, _, _ => by cases h
  | _ :: _, [], _, _, _, _, _, h, _, _, _ => by cases h
theorem storeT_len : ∀ {is : List Nat} {ds : List D} {σ σ1 : Ev}, storeT is ds σ = some σ1 → is.length = ds.length
  | [], [], _, _, _ => rfl
  | _ :: is, _ :: ds, _, _, h => by
    have h' : storeT is ds _ = some _ := h
    rw [List.length_cons, List.length_cons, storeT_len h']
  | [], _ :: _, _, _, h => by cases h
  | _ :: _, [], _, _, h => by cases h
theorem tG_of {t : Tg} {d : D} {v : V} {σ σ1 : Ev} {σV : L2.St} {Q : L2.St → Hp → Prop} (h : bindT t d σ = some σ1) (r : Rel K H Z d v) (l : Loc K H Z as σ σV)
    (k : ∀ σV1, Loc K H Z as σ1 σV1 → (∀ own : List Nat, tgB t own = true → wipe σV1 own = wipe σV own) → Q σV1 H) : tG K t v σV H Q := by
  cases t with
  | nm i =>
    cases h
    exact k _ (l.set (w := .d d) r) fun own ho => wipe_set (by simpa [tgB] using ho)
  | tp is =>
    cases d <;> simp only [bindT] at h <;> try (cases h; done)
    cases r with
    | tup h1 h2 => exact ⟨_, _, rfl, h1.sq, by rw [← h2.length, storeT_len h], tGs_of h h2 l k⟩
end
section
variable {X : Cx} {c : Cxt} {Φ : Nat → List W → Sto → Res W} {G : List D}
theorem pg_nm (ok : XOk X c Φ G) {i : Nat} {py : Expr} {sc' : Scope} (h : matchNm c X.env.scope i py = true) (h' : matchNm c sc' i py = true) (hf : ∀ x, lcB sc' x = true → X.env.scope.names.lookup x = some .cell → X.fn x = true) : PG X py (gName i) := by
  unfold matchNm at h
  split at h
  · rename_i x pos
    simp only [matchNm, Bool.and_eq_true, nmIs, decide_eq_true_eq] at h h'
    have hl := loc_of h.1.2
    refine pg_name ok.nd (by rw [ok.N]; exact h.1.1) hl ?_
    rcases hl with e | e
    · exact .inr e
    · exact .inl (hf x h'.1.2 e)
  · cases h
theorem assign_cons {e : Expr} {es : List Expr} {env : Env} (h : notStar e = true) : assignEach (e :: es) env = (false, assign e env) :: assignEach es env := by
  cases e <;> first | rfl | cases h
theorem nm_star {sc : Scope} {i : Nat} {py : Expr} (h : matchNm c sc i py = true) : notStar py = true := by
  unfold matchNm at h
  split at h
  · rfl
  · cases h
theorem nms_each {sc : Scope} {env : Env} : ∀ {is : List Nat} {es : List Expr}, matchNms c sc is es = true → (assignEach es env).length = is.length ∧ (assignEach es env).findIdx? (·.1) = none
  | [], [], _ => ⟨rfl, rfl⟩
  | i :: is, e :: es, h => by
    rw [matchNms, Bool.and_eq_true] at h
    obtain ⟨h1, h2⟩ := nms_each (env := env) h.2
    rw [assign_cons (nm_star h.1)]
    refine ⟨by rw [List.length_cons, List.length_cons, h1], ?_⟩
    rw [List.findIdx?_cons]
    simp [h2]
  | [], _ :: _, h => by cases h
  | _ :: _, [], h => by cases h
theorem pg_nms (ok : XOk X c Φ G) {sc' : Scope} (hf : ∀ x, lcB sc' x = true → X.env.scope.names.lookup x = some .cell → X.fn x = true) : ∀ {is : List Nat} {es : List Expr}, matchNms c X.env.scope is es = true → matchNms c sc' is es = true → PGs X es (tGs is)
  | [], [], _, _ => pgs_nil
  | i :: is, e :: es, h, h' => by
    rw [matchNms, Bool.and_eq_true] at h h'
    refine pgs_cons (pg_nm ok h.1 h'.1 hf) (pg_nms ok hf h.2 h'.2) ?_
    rw [assign_cons (nm_star h.1)]
    rfl
  | [], _ :: _, h, _ => by cases h
  | _ :: _, [], h, _ => by cases h
theorem pg_tg (ok : XOk X c Φ G) (hot : c.hot = false) {sc' : Scope} (hf : ∀ x, lcB sc' x = true → X.env.scope.names.lookup x = some .cell → X.fn x = true) {t : Tg} {py : Expr} (h : matchT c X.env.scope t py = true) (h' : matchT c sc' t py = true) : PG X py (tG X.K t) := by
  unfold matchT at h
  split at h
  · exact pg_nm ok h h' hf
  · rename_i is es k pos
    simp only [matchT, Bool.and_eq_true] at h h'
    obtain ⟨h1, h2⟩ := nms_each (env := X.env) h.1
    exact pg_tup (ok.calm hot) (pg_nms ok hf h.1 h'.1) h1 h2
  · cases h
end
end TB
set_option maxRecDepth 100000
/-! TBIter: what is walked, by trees. -/
namespace TB
open PySem PySem.Spec PyProof.Rows L2
/-- J yields the things xs, wherever what stays has stayed -/
structure Yl (K : PySem.W.Frag) (J : It) (xs : List D) (H : Hp) (Z : Addr → Prop) : Prop where
  len : xs.length ≤ sizeLine
  go : ∀ H2 Z2, Grows H Z H2 Z2 → ∀ i, i < xs.length → J.go i H2
  stop : ∀ H2 Z2, Grows H Z H2 Z2 → J.stop xs.length H2
  yld : ∀ H2 Z2, Grows H Z H2 Z2 → (∀ p, Z2 p → ∃ o, H2 p = some o) → ∀ i x H3, i < xs.length → J.yld i H2 x H3 → (H3 = H2 ∨ ∃ T o, H2 T = none ∧ H3 = upd H2 T o) ∧ ∃ d, xs[i]? = some d ∧ Rel K H3 Z2 d x
def tI (K : PySem.W.Frag) (Φ : Nat → List W → Sto → Res W) (G : List D) (it : I) : TI := fun σV H RR =>
  ∃ R σ st as, Loc K H (Zof st as R) as σ σV ∧ Wld K H R st as ∧ (evI Φ G it σ st).wp fun xs st' => ∀ J H' as', Post K R H st as st' H' as' → Yl K J xs H' (Zof st' as' R) → RR J H'
section
variable {K : PySem.W.Frag} {H : Hp} {Z : Addr → Prop}
theorem yl_list {a : Addr} {vs : List V} {ds : List D} (h : StL K H Z a vs) (r : RelAll K H Z ds vs) (hb : vs.length ≤ sizeLine) : Yl K (Itl K a) ds H Z := by
  refine ⟨by rw [r.length]; exact hb, fun H2 Z2 g i hi => ?_, fun H2 Z2 g => ⟨vs, (h.grow g).sq.sq, Nat.le_of_eq r.length.symm⟩, fun H2 Z2 g hz i x H3 hi hy => ?_⟩
  · obtain ⟨v, hv, _⟩ := r.get (List.getElem?_eq_getElem hi)
    exact ⟨vs, v, (h.grow g).sq.sq, hv⟩
  · obtain ⟨rfl, hy⟩ := hy
    obtain ⟨v, hv, rv⟩ := (r.grow g).get (List.getElem?_eq_getElem hi)
    have := hy vs (h.grow g).sq.sq
    rw [hv] at this
    cases this
    exact ⟨.inl rfl, _, List.getElem?_eq_getElem hi, rv⟩
theorem yl_tup {a : Addr} {vs : List V} {ds : List D} (h : StT H Z a vs) (r : RelAll K H Z ds vs) (hb : vs.length ≤ sizeLine) : Yl K (Itt K a) ds H Z := by
  refine ⟨by rw [r.length]; exact hb, fun H2 Z2 g i hi => ?_, fun H2 Z2 g => ⟨vs, (h.grow g).sq, Nat.le_of_eq r.length.symm⟩, fun H2 Z2 g hz i x H3 hi hy => ?_⟩
  · obtain ⟨v, hv, _⟩ := r.get (List.getElem?_eq_getElem hi)
    exact ⟨vs, v, (h.grow g).sq, hv⟩
  · obtain ⟨rfl, hy⟩ := hy
    obtain ⟨v, hv, rv⟩ := (r.grow g).get (List.getElem?_eq_getElem hi)
    have := hy vs (h.grow g).sq
    rw [hv] at this
    cases this
    exact ⟨.inl rfl, _, List.getElem?_eq_getElem hi, rv⟩
theorem yl_str {z : Str} (hb : z.length ≤ sizeLine) : Yl K (Its z) (signsD z) H Z := by
  have hl : (signsD z).length = z.cps.size := by unfold signsD; rw [List.length_map, Array.length_toList]
  refine ⟨by rw [hl]; exact hb, fun H2 Z2 g i hi => by rw [hl] at hi; exact hi, fun H2 Z2 g => by rw [hl]; exact Nat.le_refl _, fun H2 Z2 g hz i x H3 hi hy => ?_⟩
  obtain ⟨rfl, c, hc, rfl⟩ := hy
  refine ⟨.inl rfl, _, ?_, .str _⟩
  unfold signsD
  rw [List.getElem?_map, Array.getElem?_toList, hc]
  rfl
theorem rangeL_len (lo c : Int) : ∀ n, (rangeL lo c n).length = n
  | 0 => rfl
  | n + 1 => by rw [rangeL, List.length_cons, rangeL_len]
theorem rangeL_get (c : Int) : ∀ (n : Nat) (lo : Int) (i : Nat), i < n → (rangeL lo c n)[i]? = some (.int (lo + (i : Nat) * c))
  | n + 1, lo, 0, _ => by simp [rangeL]
  | n + 1, lo, i + 1, h => by
    rw [rangeL, List.getElem?_cons_succ, rangeL_get c n (lo + c) i (by omega)]
    congr 2
    rw [Int.natCast_add, Int.add_mul]
    simp
    omega
theorem yl_range {lo : Int} {n : Nat} (hb : n ≤ sizeLine) : Yl K (Itr lo n) (rangeL lo 1 n) H Z := by
  refine ⟨by rw [rangeL_len]; exact hb, fun H2 Z2 g i hi => ?_, fun H2 Z2 g => ?_, fun H2 Z2 g hz i x H3 hi hy => ?_⟩
  · rwa [rangeL_len] at hi
  · rw [rangeL_len]; exact Nat.le_refl _
  · obtain ⟨rfl, rfl⟩ := hy
    rw [rangeL_len] at hi
    refine ⟨.inl rfl, _, rangeL_get 1 n lo i hi, ?_⟩
    rw [Int.mul_one]
    exact .int _
theorem yl_rangeC {lo c : Int} {n : Nat} (hb : n ≤ sizeLine) : Yl K (Itc lo c n) (rangeL lo c n) H Z := by
  refine ⟨by rw [rangeL_len]; exact hb, fun H2 Z2 g i hi => ?_, fun H2 Z2 g => ?_, fun H2 Z2 g hz i x H3 hi hy => ?_⟩
  · rwa [rangeL_len] at hi
  · rw [rangeL_len]; exact Nat.le_refl _
  · obtain ⟨rfl, rfl⟩ := hy
    rw [rangeL_len] at hi
    exact ⟨.inl rfl, _, rangeL_get c n lo i hi, .int _⟩
theorem enumL_get : ∀ (xs : List D) (k i : Nat) (d : D), xs[i]? = some d → (enumL k xs)[i]? = some (.tuple [.int ((k + i : Nat) : Int), d])
  | x :: xs, k, 0, d, h => by
    simp at h
    subst h
    simp [enumL]
  | x :: xs, k, i + 1, d, h => by
    rw [enumL, List.getElem?_cons_succ, enumL_get xs (k + 1) i d (by simpa using h)]
    congr 5
    omega
theorem enumL_len : ∀ (xs : List D) (k : Nat), (enumL k xs).length = xs.length
  | [], _ => rfl
  | x :: xs, k => by rw [enumL, List.length_cons, List.length_cons, enumL_len xs]
theorem zipL_len : ∀ (xs ys : List D), (zipL xs ys).length = min xs.length ys.length
  | [], _ => by simp [zipL]
  | _ :: _, [] => by simp [zipL]
  | x :: xs, y :: ys => by
    rw [zipL, List.length_cons, zipL_len xs ys, List.length_cons, List.length_cons]
    omega
theorem zipL_get : ∀ (xs ys : List D) (i : Nat) (d e : D), xs[i]? = some d → ys[i]? = some e → (zipL xs ys)[i]? = some (.tuple [d, e])
  | x :: xs, y :: ys, 0, d, e, h1, h2 => by
    simp at h1 h2
    subst h1 h2
    simp [zipL]
  | x :: xs, y :: ys, i + 1, d, e, h1, h2 => by
    rw [zipL, List.getElem?_cons_succ]
    exact zipL_get xs ys i d e (by simpa using h1) (by simpa using h2)
theorem grows_pair {H2 : Hp} {Z2 : Addr → Prop} {T : Addr} {x y : V} {d e : D} (hz : ∀ p, Z2 p → ∃ o, H2 p = some o) (hT : H2 T = none) (r1 : Rel K H2 Z2 d x) (r2 : Rel K H2 Z2 e y) : Rel K (upd H2 T (.tup [x, y])) Z2 (.tuple [d, e]) (.ref T) :=
  .tup ⟨upd_same, fun z => by obtain ⟨o, e⟩ := hz T z; rw [hT] at e; cases e⟩ (.cons (r1.grow (grows_new hT)) (.cons (r2.grow (grows_new hT)) .nil))
theorem yl_enum {a : Addr} {vs : List V} {ds : List D} (h : StL K H Z a vs) (r : RelAll K H Z ds vs) (hb : vs.length ≤ sizeLine) : Yl K (Ite K a) (enumL 0 ds) H Z := by
  refine ⟨by rw [enumL_len, r.length]; exact hb, fun H2 Z2 g i hi => ?_, fun H2 Z2 g => ⟨vs, (h.grow g).sq.sq, by rw [enumL_len]; exact Nat.le_of_eq r.length.symm⟩, fun H2 Z2 g hz i x H3 hi hy => ?_⟩
  · rw [enumL_len] at hi
    obtain ⟨v, hv, _⟩ := r.get (List.getElem?_eq_getElem hi)
    exact ⟨vs, v, (h.grow g).sq.sq, hv⟩
  · rw [enumL_len] at hi
    obtain ⟨T, z, rfl, hT, rfl, hy⟩ := hy
    obtain ⟨v, hv, rv⟩ := (r.grow g).get (List.getElem?_eq_getElem hi)
    have := hy vs (h.grow g).sq.sq
    rw [hv] at this
    cases this
    refine ⟨.inr ⟨T, _, hT, rfl⟩, _, enumL_get ds 0 i _ (List.getElem?_eq_getElem hi), ?_⟩
    rw [Nat.zero_add]
    exact grows_pair hz hT (.int _) rv
theorem yl_zip {a b : Addr} {vs us : List V} {ds es : List D} (h : StL K H Z a vs) (r : RelAll K H Z ds vs) (h' : StL K H Z b us) (r' : RelAll K H Z es us) (hb : vs.length ≤ sizeLine) : Yl K (Itz K a b) (zipL ds es) H Z := by
  refine ⟨by rw [zipL_len, r.length]; exact Nat.le_trans (Nat.min_le_left _ _) hb, fun H2 Z2 g i hi => ?_, fun H2 Z2 g => ⟨vs, us, (h.grow g).sq.sq, (h'.grow g).sq.sq, by rw [zipL_len, ← r.length, ← r'.length]; omega⟩, fun H2 Z2 g hz i x H3 hi hy => ?_⟩
  · rw [zipL_len] at hi
    obtain ⟨v, hv, _⟩ := r.get (List.getElem?_eq_getElem (i := i) (by omega))
    obtain ⟨u, hu, _⟩ := r'.get (List.getElem?_eq_getElem (i := i) (by omega))
    exact ⟨vs, us, v, u, (h.grow g).sq.sq, (h'.grow g).sq.sq, hv, hu⟩
  · rw [zipL_len] at hi
    obtain ⟨T, z, z', rfl, hT, rfl, hy, hy'⟩ := hy
    have e1 := List.getElem?_eq_getElem (l := ds) (i := i) (by omega)
    have e2 := List.getElem?_eq_getElem (l := es) (i := i) (by omega)
    obtain ⟨v, hv, rv⟩ := (r.grow g).get e1
    obtain ⟨u, hu, ru⟩ := (r'.grow g).get e2
    have q1 := hy vs (h.grow g).sq.sq
    have q2 := hy' us (h'.grow g).sq.sq
    rw [hv] at q1
    rw [hu] at q2
    cases q1; cases q2
    exact ⟨.inr ⟨T, _, hT, rfl⟩, _, zipL_get ds es i _ _ e1 e2, grows_pair hz hT rv ru⟩
theorem yl_zipT {a b : Addr} {vs us : List V} {ds es : List D} (h : StT H Z a vs) (r : RelAll K H Z ds vs) (h' : StT H Z b us) (r' : RelAll K H Z es us) (hb : vs.length ≤ sizeLine) : Yl K (RZ.ItzT K a b) (zipL ds es) H Z := by
  refine ⟨by rw [zipL_len, r.length]; exact Nat.le_trans (Nat.min_le_left _ _) hb, fun H2 Z2 g i hi => ?_, fun H2 Z2 g => ⟨vs, us, (h.grow g).sq, (h'.grow g).sq, by rw [zipL_len, ← r.length, ← r'.length]; omega⟩, fun H2 Z2 g hz i x H3 hi hy => ?_⟩
  · rw [zipL_len] at hi
    obtain ⟨v, hv, _⟩ := r.get (List.getElem?_eq_getElem (i := i) (by omega))
    obtain ⟨u, hu, _⟩ := r'.get (List.getElem?_eq_getElem (i := i) (by omega))
    exact ⟨vs, us, v, u, (h.grow g).sq, (h'.grow g).sq, hv, hu⟩
  · rw [zipL_len] at hi
    obtain ⟨T, z, z', rfl, hT, rfl, hy, hy'⟩ := hy
    have e1 := List.getElem?_eq_getElem (l := ds) (i := i) (by omega)
    have e2 := List.getElem?_eq_getElem (l := es) (i := i) (by omega)
    obtain ⟨v, hv, rv⟩ := (r.grow g).get e1
    obtain ⟨u, hu, ru⟩ := (r'.grow g).get e2
    have q1 := hy vs (h.grow g).sq
    have q2 := hy' us (h'.grow g).sq
    rw [hv] at q1
    rw [hu] at q2
    cases q1; cases q2
    exact ⟨.inr ⟨T, _, hT, rfl⟩, _, zipL_get ds es i _ _ e1 e2, grows_pair hz hT rv ru⟩
end
/-! ### a value that comes to rest as a tree -/
section
variable {K : PySem.W.Frag} {R : Addr → Prop} {st : Sto} {as : As} {H : Hp}
theorem val_of (w : Wld K H R st as) {x : W} {v : V} (r : RelW K H (Zof st as R) as x v) {P : D → Sto → Prop} (h : (val x st).wp P) : ∃ d st', P d st' ∧ Post K R H st as st' H as ∧ Rel K H (Zof st' as R) d v := by
  cases x with
  | e a => exact h.elim
  | d y => exact ⟨y, st, h, .refl w, r⟩
  | r a =>
    obtain ⟨b, qs, e, rfl⟩ := r
    cases hs : st[a]? with
    | none => simp only [val, hs] at h; exact h.elim
    | some ob =>
      simp only [val, hs] at h
      split at h
      · exact h.elim
      rename_i nt
      obtain ⟨w', g, rl⟩ := w.freeze (by simpa using nt) hs e
      exact ⟨_, _, h, ⟨w', g, ⟨[], by simp⟩, fun _ _ => rfl⟩, rl⟩
end
/-- no sequence is longer than the line -/
def Bnd (K : PySem.W.Frag) (H : Hp) (v : V) : Prop := ∀ a xs, v = .ref a → (SqL K H a xs ∨ SqT K H a xs) → xs.length ≤ sizeLine
theorem bnd_of {X : Cx} {pins : List (Addr × Obj)} {σ : L2.St} {H : Hp} {s : Shared} (I : Inv X pins σ H s) (v : V) : Bnd X.K H v := fun a xs _ h => by
  rcases h with h | h
  · obtain ⟨_, _, _, hz⟩ := I.list h
    exact hz
  · obtain ⟨_, _, _, hz⟩ := I.tuple h
    exact hz
theorem pe_bnd {X : Cx} {e : Expr} {t : TE} (h : PE X e t) : PE X e (fun σ H Q => t σ H fun v H1 => Bnd X.K H1 v → Q v H1) :=
  ⟨fun pins s σ H Q I q => thn (h.run pins s σ H _ I q) fun _ _ ⟨v, H1, I1, r, q1⟩ => ⟨v, H1, I1, r, q1 (bnd_of I1 v)⟩⟩
theorem pa_bnd {X : Cx} {es : List Expr} {t : TA} (h : PA X es t) : PA X es (fun σ H Q => t σ H fun vs H1 => (∀ v, Bnd X.K H1 v) → Q vs H1) :=
  ⟨fun pos pins s σ H Q I q => thn (h.run pos pins s σ H _ I q) fun _ _ ⟨v, H1, I1, r, q1⟩ => ⟨v, H1, I1, r, q1 (bnd_of I1)⟩⟩
section
variable {X : Cx} {tg : Expr}
/-- a list, a tuple or a text, walked -/
def iSeq (K : PySem.W.Frag) (tl : TE) : TI := fun σ H RR => tl σ H fun x H1 => (∃ a, x = .ref a ∧ (((∃ xs, SqL K H1 a xs) ∧ RR (Itl K a) H1) ∨ ((∃ xs, SqT K H1 a xs) ∧ RR (Itt K a) H1))) ∨ ∃ z, x = .str z ∧ RR (Its z) H1
theorem pi_seq {l : Expr} {tl : TE} (hl : PE X l tl) : PI X tg l (iSeq X.K tl) := by
  refine ⟨fun pins s σ H RR I h => thn (hl.run pins s σ H _ I h) fun v s1 ⟨x, H1, I1, r1, q⟩ => ?_⟩
  rcases q with ⟨a, e, q⟩ | ⟨z, e, q⟩
  rotate_left
  · subst e
    obtain ⟨t, rfl⟩ := r1
    cases ha : z.cps.all (· < 128)
    · exact wpAny_pyIter_wide ha (pi_one (tk := s1.toks) I1 _ (turn_str _ z t "str_iterator" (.inr rfl)) ⟨_, Heap.get?_push_size _ rfl, rfl, rfl⟩ q)
    · exact wpAny_pyIter_ascii ha (pi_one (tk := s1.toks) I1 _ (turn_str _ z t "str_ascii_iterator" (.inl rfl)) ⟨_, Heap.get?_push_size _ rfl, rfl, rfl⟩ q)
  subst e
  obtain rfl : v = Value.ref a := r1
  rcases q with ⟨⟨xs, hq⟩, q⟩ | ⟨⟨xs, hq⟩, q⟩
  · obtain ⟨its, rv, p, hz⟩ := I1.list hq
    exact wpAny_pyIter_list p.isList (pi_one (tk := s1.toks) I1 _ (turn_list a _) ⟨_, Heap.get?_push_size _ rfl, rfl, rfl⟩ q)
  · obtain ⟨its, rv, p, hz⟩ := I1.tuple hq
    exact wpAny_pyIter_tuple (show s1.heap.IsTuple a its.toArray from p) (pi_one (tk := s1.toks) I1 _ (turn_tuple a _) ⟨_, Heap.get?_push_size _ rfl, rfl, rfl⟩ q)
theorem PI.imp {e : Expr} {t t' : TI} (h : PI X tg e t) (m : ∀ σ H Q, t' σ H Q → t σ H Q) : PI X tg e t' := ⟨fun pins s σ H Q I q => h.run pins s σ H Q I (m σ H Q q)⟩
end
end TB
set_option maxRecDepth 100000
/-! TBComp: a comprehension, by trees. -/
namespace TB
open PySem PySem.Spec PyProof.Rows L2
theorem wipe_len (σV : L2.St) : ∀ vs : List Nat, (wipe σV vs).length = σV.length
  | [] => rfl
  | v :: vs => by unfold wipe; rw [List.length_set, wipe_len σV vs]
theorem wipe_get (σV : L2.St) (i : Nat) (hi : i < σV.length) : ∀ vs : List Nat, (wipe σV vs)[i]? = if i ∈ vs then some none else σV[i]?
  | [] => by simp [wipe]
  | v :: vs => by
    unfold wipe
    by_cases e : v = i
    · subst e
      rw [List.getElem?_set_self (by rw [wipe_len]; exact hi)]
      simp
    · rw [List.getElem?_set_ne e, wipe_get σV i hi vs]
      simp [Ne.symm e]
theorem wipe_idem (σV : L2.St) (vs : List Nat) : wipe (wipe σV vs) vs = wipe σV vs := by
  apply List.ext_getElem?
  intro i
  by_cases hi : i < σV.length
  · rw [wipe_get _ i (by rw [wipe_len]; exact hi), wipe_get σV i hi]
    split <;> rfl
  · rw [List.getElem?_eq_none (by rw [wipe_len, wipe_len]; omega), List.getElem?_eq_none (by rw [wipe_len]; omega)]
theorem zofR {st : Sto} {as : As} {R : Addr → Prop} {Dn p : Addr} (h : Zof st as R p) : Zof st as (fun q => R q ∨ q = Dn) p := h.imp id .inl
/-- behind an expression that made a new object at p -/
structure PostF (K : PySem.W.Frag) (R : Addr → Prop) (H : Hp) (st : Sto) (as : As) (p : Addr) (st' : Sto) (H' : Hp) (as' : As) : Prop where
  wld : Wld K H' (fun q => R q ∨ q = p) st' as'
  np : ¬ R p
  grow : Grows H (Zof st as R) H' (Zof st' as' fun q => R q ∨ q = p)
  ext : ∃ more, as' = as ++ more
  res : ∀ q, R q → H' q = H q
theorem PostF.post {K : PySem.W.Frag} {R : Addr → Prop} {H : Hp} {st : Sto} {as : As} {p : Addr} {st' : Sto} {H' : Hp} {as' : As} (h : PostF K R H st as p st' H' as') : Post K R H st as st' H' as' :=
  ⟨h.wld.less fun _ => .inl, h.grow.trans (grows_less fun _ z => zofR z), h.ext, h.res⟩
theorem PostF.nz {K : PySem.W.Frag} {R : Addr → Prop} {H : Hp} {st : Sto} {as : As} {p : Addr} {st' : Sto} {H' : Hp} {as' : As} (h : PostF K R H st as p st' H' as') : ¬ Zof st' as' R p := fun z =>
  z.elim (h.wld.res p (.inr rfl)).2 h.np
theorem PostF.fresh {K : PySem.W.Frag} {R : Addr → Prop} {H : Hp} {st : Sto} {as : As} {p : Addr} {st' : Sto} {H' : Hp} {as' : As} {o : HO} (h : Post K R H st as st' H' as') (e : H' p = none) (ho : Rob o := by refine ⟨?_, ?_, ?_⟩ <;> (intro _ z; cases z)) : PostF K R H st as p st' (upd H' p o) as' :=
  ⟨h.wld.allocR e ho, fun z => (by obtain ⟨⟨u, q⟩, _⟩ := h.wld.res p z; rw [e] at q; cases q), h.grow.trans (grows_keep e fun q z => by
    rcases z with z | z | z
    · exact .inl (.inl z)
    · exact .inl (.inr z)
    · exact .inr z), h.ext, fun q hq => by rw [upd_ne (fun z => by obtain ⟨⟨u, q'⟩, _⟩ := h.wld.res q hq; rw [z, e] at q'; cases q'), h.res q hq]⟩
/-- an answer that is a list just made -/
def AnsL (K : PySem.W.Frag) (R : Addr → Prop) (H : Hp) (st : Sto) (as : As) (ys : List D) (st' : Sto) (Q : VK) : Prop :=
  ∀ p vs H' as', PostF K R H st as p st' H' as' → H' p = some (.lst vs) → RelAll K H' (Zof st' as' fun q => R q ∨ q = p) ys vs → Q (.ref p) H'
theorem AnsL.of {K : PySem.W.Frag} {R : Addr → Prop} {H : Hp} {st : Sto} {as : As} {ys : List D} {st' : Sto} {Q : VK} (q : ∀ v H' as', Post K R H st as st' H' as' → RelW K H' (Zof st' as' R) as' (.d (.list ys)) v → Q v H') : AnsL K R H st as ys st' Q :=
  fun p vs H' as' h e r => q _ H' as' h.post (Rel.lst (.inl ⟨.inl e, h.nz⟩) (r.grow (grows_less fun _ z => zofR z)))
/-- an answer that is new, to stand in the store -/
def Fr (K : PySem.W.Frag) (R : Addr → Prop) (H : Hp) (st : Sto) (as : As) (w : W) (st' : Sto) (Q : VK) : Prop :=
  match w with
  | .r a => ∀ v H' as', Post K R H st as st' H' as' → RelW K H' (Zof st' as' R) as' (.r a) v → Q v H'
  | .e _ => False
  | .d d => ∀ p ob H' as', newOb d = some ob → PostF K R H st as p st' H' as' → Slot K H' (Zof st' as' fun q => R q ∨ q = p) ob p [] → Q (.ref p) H'
theorem AnsL.ofF {K : PySem.W.Frag} {R : Addr → Prop} {H : Hp} {st : Sto} {as : As} {ys : List D} {st' : Sto} {Q : VK} (q : Fr K R H st as (.d (.list ys)) st' Q) : AnsL K R H st as ys st' Q :=
  fun p vs H' as' h e r => q p (.lst ys) H' as' rfl h (.lst e r)
section
variable {K : PySem.W.Frag} {Φ : Nat → List W → Sto → Res W} {G : List D}
theorem lc_gen {elt : E} {t : Tg} {it : I} {own : List Nat} {d : Oe} (ht : tgB t own = true) (σV : L2.St) (H : Hp) (Q : VK) {R : Addr → Prop} {σ : Ev} {st : Sto} {as : As} (hl : Loc K H (Zof st as R) as σ σV) (hw : Wld K H R st as)
    (h : (ev Φ G (.lc elt t it own d) σ st).wp fun w st' => ∀ ys, w = .d (.list ys) → AnsL K R H st as ys st' Q) :
    tLc (tI K Φ G it) (tG K t) (tIf K Φ G d) (tE K Φ G elt) own σV H Q := by
  rw [ev] at h
  refine ⟨R, σ, st, as, hl, hw, wp_mono (wp_bind h) fun xs st1 h1 J H1 as1 po yl => ?_⟩
  intro Dn hD
  have h2 := wp_mono (wp_bind h1) fun (ys : List D) st' (q : ∀ zs, W.d (.list ys) = .d (.list zs) → AnsL K R H st as zs st' Q) => q ys rfl
  have nR : ∀ p, R p → p ≠ Dn := fun p hp => by
    obtain ⟨⟨u, e⟩, _⟩ := po.wld.res p hp
    exact ne_of_none e hD
  refine ⟨fun i m Hc => m = xs.length - i ∧ i ≤ xs.length ∧ ∃ st2 as2 acc accD, Hc Dn = some (.lst acc) ∧ Wld K Hc (fun q => R q ∨ q = Dn) st2 as2 ∧ Grows H1 (Zof st1 as1 R) Hc (Zof st2 as2 fun q => R q ∨ q = Dn) ∧ (∃ more, as2 = as1 ++ more) ∧
    (∀ p, R p → Hc p = H1 p) ∧ RelAll K Hc (Zof st2 as2 fun q => R q ∨ q = Dn) accD acc ∧ acc.length ≤ i ∧ (compL _ (xs.drop i) st2).wp fun ys st3 => AnsL K R H st as (accD ++ ys) st3 Q,
    ⟨xs.length, by simp, Nat.zero_le _, st1, as1, [], [], upd_same, po.wld.allocR hD, grows_keep hD fun q z => ?_, ⟨[], by simp⟩, fun p hp => upd_ne (nR p hp), .nil, Nat.zero_le _, h2⟩, ?_⟩
  · rcases z with z | z | z
    · exact .inl (.inl z)
    · exact .inl (.inr z)
    · exact .inr z
  rintro i m Hc ⟨rfl, hi, st2, as2, acc, accD, eD, w2, g2, x2, res2, r2, l2, c2⟩
  by_cases hlt : i < xs.length
  · refine .inr ⟨yl.go Hc _ g2 i hlt, fun Hn => ∃ m', m' < xs.length - i ∧ (m' = xs.length - (i + 1) ∧ i + 1 ≤ xs.length ∧ ∃ st2 as2 acc accD, Hn Dn = some (.lst acc) ∧ Wld K Hn (fun q => R q ∨ q = Dn) st2 as2 ∧ Grows H1 (Zof st1 as1 R) Hn (Zof st2 as2 fun q => R q ∨ q = Dn) ∧ (∃ more, as2 = as1 ++ more) ∧
      (∀ p, R p → Hn p = H1 p) ∧ RelAll K Hn (Zof st2 as2 fun q => R q ∨ q = Dn) accD acc ∧ acc.length ≤ i + 1 ∧ (compL _ (xs.drop (i + 1)) st2).wp fun ys st3 => AnsL K R H st as (accD ++ ys) st3 Q), fun H' z => z, fun x H3 hy => ?_⟩
    obtain ⟨hH, dd, hd, rd⟩ := yl.yld Hc _ g2 (fun p hp => w2.zof hp) i x H3 hlt hy
    have dr : xs.drop i = dd :: xs.drop (i + 1) := by
      rw [List.drop_eq_getElem_cons hlt]
      rw [List.getElem?_eq_getElem hlt] at hd
      rw [Option.some.inj hd]
    rw [dr, compL] at c2
    -- the heap of the item
    have w3 : Wld K H3 (fun q => R q ∨ q = Dn) st2 as2 := by
      rcases hH with rfl | ⟨T, o, hT, rfl⟩
      · exact w2
      · exact w2.alloc hT
    have g3 : Grows Hc (Zof st2 as2 fun q => R q ∨ q = Dn) H3 (Zof st2 as2 fun q => R q ∨ q = Dn) := by
      rcases hH with rfl | ⟨T, o, hT, rfl⟩
      · exact Grows.refl
      · exact grows_new hT
    have keep3 : ∀ p o, Hc p = some o → H3 p = some o := fun p o e => by
      rcases hH with rfl | ⟨T, u, hT, rfl⟩
      · exact e
      · rw [upd_ne (ne_of_none e hT)]; exact e
    have hl3 : Loc K H3 (Zof st2 as2 fun q => R q ∨ q = Dn) as2 σ σV := by
      obtain ⟨m1, e1⟩ := po.ext
      obtain ⟨m2, e2⟩ := x2
      exact hl.grow (po.grow.trans (g2.trans g3)) ⟨m1 ++ m2, by rw [e2, e1, List.append_assoc]⟩
    have c3 := wp_bind c2
    have c4 := wp_bind c3
    obtain ⟨σ1, hσ1, c5⟩ := wp_ofO c4
    refine tG_of hσ1 rd (hl3.wipe own) fun σV1 hl1 hwp => ⟨(hwp own ht).trans (wipe_idem σV own), ?_⟩
    refine ⟨_, σ1, st2, as2, hl1, w3, wp_mono (wp_bind c5) fun k st3 p3 b H4 as3 po3 eb => ?_⟩
    subst eb
    have w4 := po3.wld
    have g4 := g2.trans (g3.trans po3.grow)
    have x4 : ∃ more, as3 = as1 ++ more := by
      obtain ⟨m1, e1⟩ := x2
      obtain ⟨m2, e2⟩ := po3.ext
      exact ⟨m1 ++ m2, by rw [e2, e1, List.append_assoc]⟩
    have eD4 : H4 Dn = some (.lst acc) := by rw [po3.res Dn (.inr rfl)]; exact keep3 _ _ eD
    have res4 : ∀ p, R p → H4 p = H1 p := fun p hp => by
      rw [po3.res p (.inl hp), ← res2 p hp]
      obtain ⟨⟨o, e⟩, _⟩ := w2.res p (.inl hp)
      rw [e]
      exact keep3 p o e
    cases b with
    | false =>
      rw [if_neg Bool.false_ne_true] at p3 ⊢
      exact ⟨xs.length - (i + 1), by omega, rfl, by omega, st3, as3, acc, accD, eD4, w4, g4, x4, res4, r2.grow (g3.trans po3.grow), by omega, wp_mono (wp_bind p3) fun ys st4 q => q⟩
    | true =>
      rw [if_pos rfl] at p3 ⊢
      have p4 := wp_bind p3
      refine ⟨_, σ1, st3, as3, hl1.grow po3.grow po3.ext, w4, wp_mono p4 fun w st4 p5 y H5 as5 po5 r5 => ?_⟩
      obtain ⟨d', st5, p6, po6, r6⟩ := val_of po5.wld r5 (wp_bind p5)
      have po56 := po5.trans po6
      have eD5 : H5 Dn = some (.lst acc) := by rw [po5.res Dn (.inr rfl)]; exact eD4
      have hz : Zof st5 as5 (fun q => R q ∨ q = Dn) Dn := .inr (.inr rfl)
      refine ⟨acc, eD5, Nat.lt_of_le_of_lt l2 (Nat.lt_of_lt_of_le hlt yl.len), xs.length - (i + 1), by omega, rfl, by omega, st5, as5, acc ++ [y], accD ++ [d'], upd_same, po6.wld.resv (.inr rfl), g4.trans (po56.grow.trans (grows_mut hz)), ?_, fun p hp => ?_, ?_, ?_, ?_⟩
      · obtain ⟨m1, e1⟩ := x4
        obtain ⟨m2, e2⟩ := po56.ext
        exact ⟨m1 ++ m2, by rw [e2, e1, List.append_assoc]⟩
      · rw [upd_ne (nR p hp), po5.res p (.inl hp)]
        exact res4 p hp
      · exact ((r2.grow (g3.trans (po3.grow.trans po56.grow))).app (.cons r6 .nil)).grow (grows_mut hz)
      · rw [List.length_append]; simpa using l2
      · refine wp_mono (wp_bind p6) fun ys st6 q => ?_
        rw [List.append_assoc]
        exact q
  · have e : i = xs.length := by omega
    subst e
    rw [List.drop_length] at c2
    refine .inl ⟨yl.stop Hc _ g2, ?_⟩
    have q : AnsL K R H st as (accD ++ []) st2 Q := c2
    rw [List.append_nil] at q
    refine q Dn acc Hc as2 ⟨w2, fun z => nR Dn z rfl, po.grow.trans g2, ?_, fun p hp => (res2 p hp).trans (po.res p hp)⟩ eD r2
    obtain ⟨m1, e1⟩ := po.ext
    obtain ⟨m2, e2⟩ := x2
    exact ⟨m1 ++ m2, by rw [e2, e1, List.append_assoc]⟩
theorem lc_read {elt : E} {t : Tg} {it : I} {own : List Nat} {d : Oe} (ht : tgB t own = true) (σV : L2.St) (H : Hp) (Q : VK) (h : tE K Φ G (.lc elt t it own d) σV H Q) :
    tLc (tI K Φ G it) (tG K t) (tIf K Φ G d) (tE K Φ G elt) own σV H Q := by
  obtain ⟨R, σ, st, as, hl, hw, h⟩ := h
  exact lc_gen ht σV H Q hl hw (wp_mono h fun w st' q ys e => by subst e; exact .of q)
/-- a new object as it is read to be kept -/
def tEF (K : PySem.W.Frag) (Φ : Nat → List W → Sto → Res W) (G : List D) (e : E) : TE := fun σV H Q => ∃ R σ st as, Loc K H (Zof st as R) as σ σV ∧ Wld K H R st as ∧ (ev Φ G e σ st).wp fun w st' => Fr K R H st as w st' Q
theorem lc_readF {elt : E} {t : Tg} {it : I} {own : List Nat} {d : Oe} (ht : tgB t own = true) (σV : L2.St) (H : Hp) (Q : VK) (h : tEF K Φ G (.lc elt t it own d) σV H Q) :
    tLc (tI K Φ G it) (tG K t) (tIf K Φ G d) (tE K Φ G elt) own σV H Q := by
  obtain ⟨R, σ, st, as, hl, hw, h⟩ := h
  exact lc_gen ht σV H Q hl hw (wp_mono h fun w st' q ys e => by subst e; exact .ofF q)
end
end TB
set_option maxRecDepth 100000
/-! TBBack: t[::-1]. -/
namespace TB
open PySem PySem.Spec PyProof.Rows L2
section
variable {prog : Program} {w : World} {A : Around} {E : Value → Shared → Prop} {s : Shared}
theorem back_adjust (n : Nat) : Builtin.Slice.sliceAdjust none none (-1) (n : Int) = ((n : Int) - 1, -1) := by
  unfold Builtin.Slice.sliceAdjust
  simp
theorem back_places (n : Nat) : Builtin.Slice.slicePlaces ((n : Int) - 1) (-1) (-1) = n := by
  unfold Builtin.Slice.slicePlaces
  have h0 : ¬ ((-1 : Int) > 0) := by decide
  simp only [h0, if_false]
  by_cases h : (n : Int) - 1 > -1
  · rw [if_pos h, show (-(-1) : Int) = 1 by decide, Int.ediv_one]; omega
  · rw [if_neg h]; omega
theorem back_pick (xs : Array Value) : ((List.range xs.size).filterMap fun (k : Nat) => xs[((xs.size : Int) - 1 + (k : Int) * (-1)).toNat]?) = xs.toList.reverse := by
  have e1 : (fun (k : Nat) => xs[((xs.size : Int) - 1 + (k : Int) * (-1)).toNat]?) = fun k => (if k < xs.size then xs[xs.size - 1 - k]? else xs[((xs.size : Int) - 1 + (k : Int) * (-1)).toNat]?) := by
    funext k
    by_cases h : k < xs.size
    · rw [if_pos h]
      congr 1
      omega
    · rw [if_neg h]
  rw [e1]
  have e2 : ((List.range xs.size).filterMap fun k => (if k < xs.size then xs[xs.size - 1 - k]? else xs[((xs.size : Int) - 1 + (k : Int) * (-1)).toNat]?)) = (List.range xs.size).filterMap fun k => xs[xs.size - 1 - k]? := by
    have cong : ∀ {l : List Nat}, (∀ k ∈ l, k < xs.size) → (l.filterMap fun k => (if k < xs.size then xs[xs.size - 1 - k]? else xs[((xs.size : Int) - 1 + (k : Int) * (-1)).toNat]?)) = l.filterMap fun k => xs[xs.size - 1 - k]? := by
      intro l hl
      induction l with
      | nil => rfl
      | cons a l ih => rw [List.filterMap_cons, List.filterMap_cons, ih fun k hk => hl k (List.mem_cons_of_mem _ hk), if_pos (hl a (List.mem_cons_self ..))]
    exact cong fun k hk => List.mem_range.mp hk
  rw [e2]
  have e3 := PySem.W.krv_range xs.size
  have e4 : ((List.range xs.size).filterMap fun k => xs[xs.size - 1 - k]?) = ((List.range xs.size).map fun k => xs.size - 1 - k).filterMap (xs[·]?) := by
    rw [List.filterMap_map]
    rfl
  rw [e4, e3, List.filterMap_reverse, PySem.W.krv_all]
theorem back_applied {sl : Addr} {va vb vc : Value} {n : Nat} {Q : Int × Int × Nat → Shared → Prop} (hs : s.heap.IsSliceOf sl va vb vc) (pa : IsPart va none) (pb : IsPart vb none) (pc : IsPart vc (some (-1)))
    (h : Q ((n : Int) - 1, -1, n) s) : wpAny (model prog w) A (Builtin.Slice.sliceApplied (.ref sl) (pure (n : Int))) Q E s := by
  obtain ⟨ob, g1, g2, g3⟩ := id hs
  unfold Builtin.Slice.sliceApplied Builtin.Slice.sliceFields
  refine wpAny_bind (wpAny_bind (wpAny_field g1 g3 (x := va) rfl (wpAny_bind (wpAny_field g1 g3 (x := vb) rfl (wpAny_bind (wpAny_field g1 g3 (x := vc) rfl (wpAny_pure ?_)))))))
  refine wpAny_bind (HT.slicePart_ pc ?_)
  show wpAny _ _ (if ((-1 : Int) == 0) = true then _ else _) _ _ s
  rw [if_neg (by decide)]
  refine wpAny_bind (HT.slicePart_ pa (wpAny_bind (HT.slicePart_ pb (wpAny_bind (wpAny_pure ?_)))))
  show wpAny _ _ (match Builtin.Slice.sliceAdjust none none (-1) (n : Int) with | (a, b) => pure (a, (-1 : Int), Builtin.Slice.slicePlaces a b (-1))) _ _ s
  rw [back_adjust n]
  show wpAny _ _ (pure ((n : Int) - 1, (-1 : Int), Builtin.Slice.slicePlaces ((n : Int) - 1) (-1) (-1))) _ _ s
  rw [back_places]
  exact wpAny_pure h
theorem back_tup {t sl : Addr} {its : Array Value} {va vb vc : Value} {Q : Value → Shared → Prop} (ht : IsTup s.heap t its) (hs : s.heap.IsSliceOf sl va vb vc) (pa : IsPart va none) (pb : IsPart vb none) (pc : IsPart vc (some (-1)))
    (h : Q (.ref s.heap.objs.size) { s with heap := s.heap.push { cls := .type "tuple", data := .seq its.toList.reverse.toArray } })
    (hz : its.size ≤ sizeLine) : wpAny (model prog w) A (getItem (.ref t) (.ref sl)) Q E s := by
  have big : sizeOk (.seq its.toList.reverse.toArray) := by
    show its.toList.reverse.toArray.size ≤ sizeLine
    rw [List.size_toArray, List.length_reverse, Array.length_toList]
    exact hz
  obtain ⟨ob, g1, g2, g3⟩ := id hs
  have tsl : s.TypeIs (.ref sl) "slice" := ⟨ob, g1, g2⟩
  unfold getItem
  try with_reducible refine wpAny_holding ?_
  first | refine wpAny_bind (wpAny_pure ?_) | skip
  refine wpAny_bind (wpAny_sequenceKey ht.typeIs (by decide) ?_)
  refine wpAny_bind (wpAny_callSpecial?_slot (name := Str.ofString "__getitem__") ht.typeIs PyProof.Rows.slot_tuple_getitem
    (wpAny_call_entry PyProof.Rows.slot_tuple_getitem ht.typeIs PyProof.Rows.entry_tuple_getitem ?_ (PyProof.Rows.args_tuple_getitem _ _)))
  show wpAny _ _ (Builtin.Tuple.tupleItemsOf (.ref t) >>= _) _ _ s
  refine wpAny_bind (PyProof.Rows.tupleItemsOf_ ht ?_)
  refine wpAny_bind (wpAny_typeOf tsl ?_)
  rw [if_pos (by decide)]
  refine wpAny_bind (back_applied hs pa pb pc ?_)
  have nope : ¬ ((((its.size : Int) - 1 == 0) && ((-1 : Int) == 1) && (its.size == its.size)) = true) := by
    intro q
    rw [Bool.and_eq_true, Bool.and_eq_true] at q
    exact absurd q.1.2 (by decide)
  show wpAny _ _ (if (((its.size : Int) - 1 == 0) && ((-1 : Int) == 1) && (its.size == its.size)) = true then _ else _) _ _ s
  rw [if_neg nope, back_pick]
  first
    | exact wpAny_bind (m := Builtin.Tuple.tupleExact _) (wpAny_newObj_type (wpAny_pure ⟨_, rfl, wpAny_pure h⟩) big)
    | exact wpAny_bind (m := Builtin.Tuple.tupleExact _) (wpAny_newObj_type (wpAny_bind (wpAny_pure (wpAny_pure ⟨_, rfl, wpAny_pure h⟩))) big)
    | exact wpAny_bind (wpAny_bind (m := Builtin.Tuple.tupleExact _) (wpAny_newObj_type (wpAny_pure (wpAny_pure ⟨_, rfl, wpAny_pure h⟩)) big))
    | exact wpAny_bind (wpAny_bind (m := Builtin.Tuple.tupleExact _) (wpAny_newObj_type (wpAny_pure ⟨_, rfl, wpAny_pure h⟩) big))
end
/-- x[::-1], a list or a tuple -/
def tRevX (K : PySem.W.Frag) (te : TE) : TE := fun σ H Q => te σ H fun x H1 => ∃ a xs, x = .ref a ∧ ((SqL K H1 a xs ∧ ∀ p, H1 p = none → Q (.ref p) (upd H1 p (.lst xs.reverse))) ∨ (SqT K H1 a xs ∧ ∀ p, H1 p = none → Q (.ref p) (upd H1 p (.tup xs.reverse))))
theorem pe_revX {X : Cx} {e : Expr} {te : TE} {k : Nat} {p1 p2 p3 pos : Pos} (he : PE X e te) : PE X (.Subscript e (.Slice none none (some (.UnaryOp .USub (.Constant (.int 1) k p1) p2)) p3) pos) (tRevX X.K te) := by
  refine ⟨fun pins s σ H Q I h => Subscript_ (thn (he.run pins s σ H _ I h) fun v s1 ⟨x, H1, I1, r1, a, xs, ex, q⟩ => ?_)⟩
  subst ex
  cases r1
  have st : PO X (some (.UnaryOp .USub (.Constant (.int 1) k p1) p2)) (tPart (tUn (rU fun i => .int (-i)) (tC (.int 1)))) := po_some (pe_un un_neg pe_int)
  refine wpAny_Slice (thn (po_none.run pins s1 σ H1 (fun o H2 => o = none ∧ H2 = H1) I1 ⟨rfl, rfl⟩) fun va s2 ⟨o1, H2, I2, pa, z1, z2⟩ => ?_)
  subst z1 z2
  refine thn (po_none.run pins s2 σ H2 (fun o H3 => o = none ∧ H3 = H2) I2 ⟨rfl, rfl⟩) fun vb s3 ⟨o2, H3, I3, pb, z3, z4⟩ => ?_
  subst z3 z4
  refine thn (st.run pins s3 σ H3 (fun o H4 => o = some (-1) ∧ H4 = H3) I3 ⟨1, rfl, -1, rfl, rfl, rfl⟩) fun vc s4 ⟨o3, H4, I4, pc, z5, z6⟩ => ?_
  subst z5 z6
  have I5 : Inv X pins σ H4 { s4 with heap := s4.heap.push { cls := .type "slice", data := .fields #[va, vb, vc] } } := I4.kept (t' := s4.toks) fun b ob q => Heap.get?_push_of_some _ q
  show wpAny (model X.prog X.w) X.A (subscriptTail e (.Slice none none (some (.UnaryOp .USub (.Constant (.int 1) k p1) p2)) p3) (.ref a) (.ref s4.heap.objs.size)) (EP X pins σ Q) X.xe { s4 with heap := s4.heap.push { cls := .type "slice", data := .fields #[va, vb, vc] } }
  rcases q with ⟨hx, q⟩ | ⟨hx, q⟩
  · obtain ⟨its, r, ht, hz⟩ := I5.list hx
    have ln := r.length
    refine tail_any (ops := [.ref a, .ref s4.heap.objs.size]) ht.isList.typeIs (PySem.slot_list_getitem.lookup) ?_ (by with_unfolding_all rfl)
    refine wpAny_getItem_list_slice ht.isList (Heap.IsSliceOf.new _ va vb vc) pa pb pc (by decide) ?_ (by rw [List.size_toArray]; omega)
    rw [PySem.W.krv_pick]
    exact ⟨.ref _, _, I5.laid (t' := s4.toks) (o := .lst xs.reverse) (fun b ob q => Heap.get?_push_of_some _ q) (Nat.le_refl _) ⟨by rw [List.length_reverse]; exact hz, _, 0, r.reverse, Heap.get?_push_size _ rfl⟩, rfl, q _ (I5.hok.fresh (Nat.le_refl _))⟩
  · obtain ⟨its, r, ht, hz⟩ := I5.tuple hx
    have ln := r.length
    refine tail_any (ops := [.ref a, .ref s4.heap.objs.size]) ht.typeIs PyProof.Rows.slot_tuple_getitem.lookup ?_ (by with_unfolding_all rfl)
    refine back_tup ht (Heap.IsSliceOf.new _ va vb vc) pa pb pc ?_ (by rw [List.size_toArray]; omega)
    exact ⟨.ref _, _, I5.laid (t' := s4.toks) (o := .tup xs.reverse) (fun b ob q => Heap.get?_push_of_some _ q) (Nat.le_refl _) ⟨by rw [List.length_reverse]; exact hz, _, r.reverse, IsTup.new _ _⟩, rfl, q _ (I5.hok.fresh (Nat.le_refl _))⟩
end TB
set_option maxRecDepth 100000
set_option maxHeartbeats 3200000
/-! TBSet: set(l), l a list of whole numbers, its order known. -/
namespace TB
open PySem PySem.Spec PyProof.Rows L2
section
variable {prog : Program} {w : World} {A : Around} {E : Value → Shared → Prop} {s : Shared}
/-- the set object as it is made -/
abbrev setOb (w : World) : Obj := { cls := .type "set", dict := none, data := .set #[] 0 (.fresh 0 0 (!w.params.followText "set-order")) }
/-- what set.__init__ does to the new set, out of a list -/
theorem set_filled {l : Addr} {its : Array Value} (ns : List Int) {Q : Result → Shared → Prop} (calm : A.handled = none) (gl : s.heap.IsList l its) (hin : IntsAre its.toList ns) (few : ns.length + 1 < scanBound)
    (h : ∀ (h' : Heap) (tk c : Nat), SetR w h' s.heap.objs.size (fun j => decide (j ∈ ns)) c → c ≤ ns.length → (∀ b o, s.heap.get? b = some o → h'.get? b = some o) → Q (.ok (.ret .none)) { s with heap := h', toks := tk }) :
    codeAny (model prog w) A (.call (.builtin "set.__init__") ⟨[.ref s.heap.objs.size, .ref l], []⟩) Q { s with heap := s.heap.push (setOb w) } := by
  have n1 : its.size = ns.length := by rw [← Array.length_toList]; exact IntsAre.length hin
  have g0 : (s.heap.push (setOb w)).get? s.heap.objs.size = some (setOb w) := Heap.get?_push_size _ rfl
  have sz : (s.heap.push (setOb w)).objs.size = s.heap.objs.size + 1 := Heap.size_push ..
  have ty : Shared.TypeIs { s with heap := s.heap.push (setOb w) } (.ref s.heap.objs.size) "set" := ⟨_, g0, rfl⟩
  obtain ⟨⟨oc, od, oda, osl⟩, e1, e2, n, e4⟩ := id gl
  simp only at e2 e4
  subst e2 e4
  have ll : l < s.heap.objs.size := Heap.lt_size e1
  have gl1 : (s.heap.push (setOb w)).IsList l its := ⟨_, Heap.get?_push_of_some _ e1, rfl, n, rfl⟩
  have e1' := Heap.get?_push_of_some (setOb w) e1
  have q1 := F.sub_list_set
  have q2 := F.sub_list_frozenset
  have q3 : (Value.type "list" == Value.type "dict") = false := by decide
  refine codeAny_call_builtin F.called_set.init.plain F.entry_set_init (check_set_init_1 ty ?_)
  unfold Builtin.«set.__init__» noKeywords Builtin.Frozenset.updateFrom
  generalize gPI : pyIter = PI
  wp_walk
  subst gPI
  refine wpAny_pyIter_list gl1 (wpAny_bind (wpAny_runValue ?_))
  have c3 : A.in1.in1.handled = none := calm
  have l2 : l ≠ (s.heap.push (setOb w)).objs.size := by rw [sz]; exact Nat.ne_of_lt (Nat.lt_succ_of_lt ll)
  have nf : s.heap.objs.size ∉ [(s.heap.push (setOb w)).objs.size, l] := by
    rw [sz]
    simp only [List.mem_cons, List.not_mem_nil, or_false, not_or]
    exact ⟨Nat.ne_of_lt (Nat.lt_succ_self _), Nat.ne_of_gt ll⟩
  have hv : ∀ (i : Nat) (v : Value), its[i]? = some v → ∃ k t, ns[i]? = some k ∧ v = .int k t := fun i v hi => by
    obtain ⟨t, e⟩ := IntsAre.int_at hin i v (by rw [Array.getElem?_toList]; exact hi)
    have b : i < ns.length := by rw [← n1]; exact (Array.getElem?_eq_some_iff.mp hi).1
    exact ⟨ns[i], t, List.getElem?_eq_getElem b, by rw [e, List.getD_eq_getElem?_getD, List.getElem?_eq_getElem b]; rfl⟩
  refine set_update_ints ((Walks.list c3 _ l l2 its).toS) s.heap.objs.size nf ns n1 few hv (its.size - 0) 0 _ (by omega) (Nat.zero_le _) ?keeps ?fresh ?done
  case keeps => exact ⟨⟨_, Heap.get?_push_size _ rfl, rfl, rfl⟩, gl1.push _⟩
  case fresh =>
    have g1 : ((s.heap.push (setOb w)).push { cls := .type "list_iterator", data := .fields #[.ref l, .int 0 0] }).get? s.heap.objs.size = some (setOb w) := Heap.get?_push_of_some _ g0
    exact ⟨0, Nat.le_refl 0, setR_new_at g1⟩
  intro s' c mv hc hr
  obtain ⟨h2, g2, d2, t2, o2⟩ := s'
  obtain rfl : g2 = s.gens := mv.gens
  obtain rfl : d2 = s.drawn := mv.drawn
  obtain rfl : o2 = s.os := mv.os
  refine wpAny_pure (show wpAny _ _ (ret Value.none) _ _ _ from wpAny_pure (h h2 t2 c hr (by omega) fun b o e => ?_))
  have b0 : b < s.heap.objs.size := Heap.lt_size e
  refine mv.heap b o ?_ (Heap.get?_push_of_some _ (Heap.get?_push_of_some _ e))
  rw [sz]
  simp only [List.mem_cons, List.not_mem_nil, or_false, not_or]
  exact ⟨Nat.ne_of_lt b0, Nat.ne_of_lt (Nat.lt_succ_of_lt b0)⟩
/-- set(l) -/
theorem set_of_list {l : Addr} {its : Array Value} (ns : List Int) {Q : Value → Shared → Prop} (calm : A.handled = none) (gl : s.heap.IsList l its) (hin : IntsAre its.toList ns) (few : ns.length + 1 < scanBound)
    (h : ∀ (h' : Heap) (tk c : Nat), SetR w h' s.heap.objs.size (fun j => decide (j ∈ ns)) c → c ≤ ns.length → (∀ b o, s.heap.get? b = some o → h'.get? b = some o) → Q (.ref s.heap.objs.size) { s with heap := h', toks := tk }) :
    wpAny (model prog w) A (call (.type "set") [.ref l]) Q E s := by
  obtain ⟨c, tl, m1⟩ := F.called_set.mro
  have m2 := F.called_set.made
  have m3 := F.called_set.sub
  refine wpAny_call (codeAny_of_tree (show wpAny _ _ (callAny (.type "set") _) _ _ _ from wpAny_pure ⟨Code.quiet_builtin _ (by decide +kernel), codeAny_builtin F.entry_type_call ?_⟩))
  rw [Around.under_plain (weight_type_call_type "set" [.ref l] []) rfl]
  have m4 := F.called_set.notType
  have m5 := F.called_set.canCreate
  have m6 := F.typeCall_set_1 (.ref l)
  repeat (any_goals (first | assumption | wp_step))
  refine codeAny_mono (code_set_led1 (.ref l) (E := E) (Q₁ := fun u s1 => u = .ref s.heap.objs.size ∧ s1 = { s with heap := s.heap.push (setOb w) }) ⟨rfl, rfl⟩) fun r s1 q => ?_
  match r, q with
  | .error e, q => exact q
  | .ok (.ret u), q =>
    obtain ⟨rfl, rfl⟩ := q
    have g0 : (s.heap.push (setOb w)).get? s.heap.objs.size = some (setOb w) := Heap.get?_push_size _ rfl
    have ty : Shared.TypeIs { s with heap := s.heap.push (setOb w) } (.ref s.heap.objs.size) "set" := ⟨_, g0, rfl⟩
    have m7 := F.called_set.init.lookup
    have m8 := F.called_set.init.bind (.ref s.heap.objs.size)
    repeat (any_goals (first | assumption | wp_step))
    refine set_filled ns calm gl hin few fun h' tk c hr hc hk => ?_
    repeat (any_goals (first | assumption | wp_step))
    exact h h' tk c hr hc hk
end
/-- a set has as many things as any list of just these, each once -/
theorem set_size {w : World} {h : Heap} {a : Addr} {ns : List Int} {c : Nat} (r : SetR w h a (fun j => decide (j ∈ ns)) c) {ms : List Int} (nd : ms.Nodup) (hm : ∀ k, k ∈ ms ↔ k ∈ ns) : c = ms.length := by
  obtain ⟨o, es, ep, t, _, _, _, _, hn, hk, _, _, hs, _⟩ := r
  have pm : (es.toList.map keyOf).Perm ms := (List.perm_ext_iff_of_nodup hn nd).mpr fun k => by
    rw [hm k, ← hk k]
    exact decide_eq_true_iff
  have := pm.length_eq
  rw [List.length_map, Array.length_toList] at this
  omega
/-- as a rule: the argument a list or a tuple of whole numbers -/
def rSetN (K : PySem.W.Frag) (w : World) : List V → Hp → VK → Prop := fun xs H Q => ∃ (a : Addr) (ns : List Int), xs = [.ref a] ∧ (SqT K H a (ns.map V.int) ∨ LsX K H a (ns.map V.int)) ∧ ns.length < 4000 ∧
  ∀ p c, H p = none → (∀ ms : List Int, ms.Nodup → (∀ k, k ∈ ms ↔ k ∈ ns) → c = ms.length) → Q (.ref p) (upd H p (SetO w p (fun j => decide (j ∈ ns)) c))
theorem cr_setX {X : Cx} (hc : X.calm = true) : CallR X (.type "set") (rSetN X.K X.w) := by
  rintro pins s σ H xs us Q I r ⟨a, ns, rfl, ha, few, q⟩
  rw [Vals.ref1 r]
  have fin : ∀ (h' : Heap) (tk c : Nat), SetR X.w h' s.heap.objs.size (fun j => decide (j ∈ ns)) c → c ≤ ns.length → (∀ b o, s.heap.get? b = some o → h'.get? b = some o) → EP X pins σ Q (.ref s.heap.objs.size) { s with heap := h', toks := tk } := fun h' tk c hr hc2 k =>
    ⟨.ref _, _, I.laid (t' := tk) k (Nat.le_refl _) (setO_new hr), rfl, q _ c (I.hok.fresh (Nat.le_refl _)) fun ms nd hm => set_size hr nd hm⟩
  rcases ha with ha | ha
  · obtain ⟨its, rv, pt, hz⟩ := I.tuple ha
    exact call_set_tupI ns (I.ok.hd hc) (show s.heap.IsTuple a its.toArray from pt) (intsAre_of rv) (by unfold scanBound; omega) fin
  · obtain ⟨its, n, rv, hg, hz⟩ := ha.at I
    exact set_of_list (its := its.toArray) ns (I.ok.hd hc) ⟨_, hg, rfl, n, rfl⟩ (intsAre_of rv) (by unfold scanBound; omega) fin
end TB
set_option maxRecDepth 100000
/-! TBSnd2: expressions. -/
namespace TB
open PySem PySem.Spec PyProof.Rows L2
section
variable {K : PySem.W.Frag} {Φ : Nat → List W → Sto → Res W} {G : List D}
theorem evD_len : ∀ {es : Es} {σ : Ev} {st : Sto} {xs : List D} {st' : Sto}, evD Φ G es σ st = .ok xs st' → ∀ {c : Cxt} {sc : Scope} {pys : List Expr}, matchEs c es sc pys = true → xs.length = pys.length
  | .nil, σ, st, xs, st', h, c, sc, pys, hm => by
    rw [evD] at h
    cases h
    simp only [matchEs] at hm
    split at hm
    · rfl
    · cases hm
  | .cons e es, σ, st, xs, st', h, c, sc, pys, hm => by
    rw [evD] at h
    simp only [matchEs] at hm
    split at hm
    · rw [Bool.and_eq_true] at hm
      cases h1 : ev Φ G e σ st with
      | ok w st1 =>
        rw [h1, Res.bind_ok] at h
        cases h2 : val w st1 with
        | ok d st2 =>
          rw [h2, Res.bind_ok] at h
          cases h3 : evD Φ G es σ st2 with
          | ok ys st3 =>
            rw [h3, Res.bind_ok] at h
            cases h
            rw [List.length_cons, List.length_cons, evD_len h3 hm.2]
          | exc _ _ _ => rw [h3] at h; cases h
          | bad => rw [h3] at h; cases h
        | exc _ _ _ => rw [h2] at h; cases h
        | bad => rw [h2] at h; cases h
      | exc _ _ _ => rw [h1] at h; cases h
      | bad => rw [h1] at h; cases h
    · cases hm
theorem wp_ok {α : Type} {r : Res α} {P : α → Sto → Prop} (h : r.wp P) : ∃ a st, r = .ok a st ∧ P a st := by
  cases r with
  | ok a st => exact ⟨a, st, rfl, h⟩
  | exc _ _ _ => exact h.elim
  | bad => exact h.elim
end
section
variable {X : Cx} {c : Cxt} {Φ : Nat → List W → Sto → Res W} {G : List D}
theorem bt (ok : XOk X c Φ G) {x : Str} (h : x ∈ bNames := by decide +kernel) : X.mg x = none := ok.blt x h
theorem tru_of {K : PySem.W.Frag} {H : Hp} {Z : Addr → Prop} {d : D} {v : V} {k : Bool} (p : Pk K H Z d v) (h : truthD d = some k) : TruV K v H k := by
  cases d with
  | none => cases h; rw [p.non]; rfl
  | bool b => cases h; rw [p.bool]; rfl
  | int i => cases h; rw [p.int]; rfl
  | str x => cases h
  | dict es => cases h
  | list ds =>
    cases h
    obtain ⟨a, vs, rfl, s1, r⟩ := p.list
    refine .inl ⟨vs, s1.sq, ?_⟩
    cases r <;> rfl
  | tuple ds =>
    cases h
    obtain ⟨a, vs, rfl, s1, r⟩ := p.tup
    refine .inr (.inl ⟨vs, s1.sq, ?_⟩)
    cases r <;> rfl
/-- a test by the value's truth -/
theorem pt_dflt {e : E} {py : Expr} (hE : PE X py (tE X.K Φ G e)) (he : ∀ whole, isTrue py X.env whole = (do let v ← whole; standAt py.pos; holding [v] (truthy v))) : PT X py (tT X.K Φ G e) := by
  refine PT.imp (pt_truth hE he) ?_
  rintro σV H Q ⟨R, σ, st, as, hl, hw, h⟩
  refine rd_step hl hw (wp_bind h) fun w st1 v H1 as1 p po l r => ?_
  obtain ⟨k, hk, q⟩ := wp_ofO p
  rw [Option.bind_eq_some_iff] at hk
  obtain ⟨d, hd, ht⟩ := hk
  exact ⟨k, tru_of (pk_of po.wld r hd) ht, q k H1 as1 po rfl⟩
/-- two things, an operation -/
theorem op_read {K : PySem.W.Frag} {e a b : E} {g : D → D → Option D} (hev : ∀ σ st, ev Φ G e σ st = (ev Φ G a σ st).bind fun x st1 => (ev Φ G b σ st1).bind fun y st2 => ofO ((peek x st2).bind fun d => (peek y st2).bind fun e => (g d e).map .d) st2)
    (σV : L2.St) (H : Hp) (Q : VK) (h : tE K Φ G e σV H Q) : tOp (rD K g) (tE K Φ G a) (tE K Φ G b) σV H Q := by
  obtain ⟨R, σ, st, as, hl, hw, h⟩ := h
  rw [hev] at h
  refine rd_step hl hw (wp_bind h) fun x st1 v H1 as1 p po l r => ?_
  refine rd_step l po.wld (wp_bind p) fun y st2 u H2 as2 p2 po2 l2 r2 => ?_
  obtain ⟨w, hw2, q⟩ := wp_ofO p2
  rw [Option.bind_eq_some_iff] at hw2
  obtain ⟨d, hd, hw2⟩ := hw2
  rw [Option.bind_eq_some_iff] at hw2
  obtain ⟨e', he, hw2⟩ := hw2
  rw [Option.map_eq_some_iff] at hw2
  obtain ⟨z, hz, rfl⟩ := hw2
  exact ⟨R, st2, as2, d, e', z, po2.wld, pk_of po2.wld (r.grow po2.grow po2.ext) hd, pk_of po2.wld r2 he, hz, ans_of (po.trans po2) q⟩
theorem pks_of {K : PySem.W.Frag} {H : Hp} {R : Addr → Prop} {st : Sto} {as : As} (w : Wld K H R st as) : ∀ {ws : List W} {vs : List V} {ds : List D}, RelWs K H (Zof st as R) as ws vs → (ws.mapM fun x => peek x st) = some ds → PkAll K H (Zof st as R) ds vs
  | [], [], ds, _, h => by
    rw [List.mapM_nil] at h
    cases h
    exact .nil
  | x :: ws, v :: vs, ds, r, h => by
    rw [List.mapM_cons] at h
    simp only [Option.bind_eq_bind, Option.bind_eq_some_iff, Option.pure_def, Option.some.injEq] at h
    obtain ⟨d, hd, es, he, rfl⟩ := h
    exact .cons (pk_of w r.1 hd) (pks_of w r.2 he)
  | [], _ :: _, _, r, _ => r.elim
  | _ :: _, [], _, r, _ => r.elim
theorem bi_read {K : PySem.W.Frag} {b : Bi} {es : Es} (σV : L2.St) (H : Hp) (Q : VK) (h : tE K Φ G (.bi b es) σV H Q) : tCB (rDs K (biD b)) (tA K Φ G es) σV H Q := by
  obtain ⟨R, σ, st, as, hl, hw, h⟩ := h
  rw [ev] at h
  refine rd_step hl hw (wp_bind h) fun ws st1 vs H1 as1 p po l r => ?_
  obtain ⟨w, hw2, q⟩ := wp_ofO p
  rw [Option.bind_eq_some_iff] at hw2
  obtain ⟨ds, hd, hw2⟩ := hw2
  rw [Option.map_eq_some_iff] at hw2
  obtain ⟨z, hz, rfl⟩ := hw2
  exact ⟨R, st1, as1, ds, z, po.wld, pks_of po.wld r hd, hz, ans_of po q⟩
theorem pe_biX (ok : XOk X c Φ G) (hot : c.hot = false) {b : Bi} {e : Expr} {es : List Expr} {t : TA} {p pos : Pos} (h1 : b ≠ .sortedset) (h2 : b ≠ .lenset) (hg : Gl X (biX b)) (ha : PA X (e :: es) t)
    (s1 : starEach (e :: es) X.env = (false, eval e X.env) :: starEach es X.env) (s2 : (starEach es X.env).any (·.1) = false) : PE X (.Call (.Name (biX b) p) (e :: es) [] pos) (tCB (rDs X.K (biD b)) t) := by
  have hc := cr_biD (ok.calm hot) ok.hu ok.gd b h1 h2
  cases b with
  | sortedset => exact absurd rfl h1
  | lenset => exact absurd rfl h2
  | len => exact pe_callB hc hg (bt ok) (by decide +kernel) ha (by decide) (by decide) s1 (any_back s2)
  | all => exact pe_callB hc hg (bt ok) (by decide +kernel) ha (by decide) (by decide) s1 (any_back s2)
  | any => exact pe_callB hc hg (bt ok) (by decide +kernel) ha (by decide) (by decide) s1 (any_back s2)
  | tuple => exact pe_callTy hc hg (bt ok) (by decide +kernel) ha (by decide) (by decide) s1 (any_back s2)
  | list => exact pe_callTy hc hg (bt ok) (by decide +kernel) ha (by decide) (by decide) s1 (any_back s2)
  | sorted => exact pe_callB hc hg (bt ok) (by decide +kernel) ha (by decide) (by decide) s1 (any_back s2)
  | max => exact pe_callB hc hg (bt ok) (by decide +kernel) ha (by decide) (by decide) s1 (any_back s2)
  | min => exact pe_callB hc hg (bt ok) (by decide +kernel) ha (by decide) (by decide) s1 (any_back s2)
  | sum => exact pe_callB hc hg (bt ok) (by decide +kernel) ha (by decide) (by decide) s1 (any_back s2)
  | abs => exact pe_callB hc hg (bt ok) (by decide +kernel) ha (by decide) (by decide) s1 (any_back s2)
  | divmod => exact pe_callB hc hg (bt ok) (by decide +kernel) ha (by decide) (by decide) s1 (any_back s2)
  | int => exact pe_callTy hc hg (bt ok) (by decide +kernel) ha (by decide) (by decide) s1 (any_back s2)
  | str => exact pe_callTy hc hg (bt ok) (by decide +kernel) ha (by decide) (by decide) s1 (any_back s2)
  | repr => exact pe_callB hc hg (bt ok) (by decide +kernel) ha (by decide) (by decide) s1 (any_back s2)
  | dict => exact pe_callTy hc hg (bt ok) (by decide +kernel) ha (by decide) (by decide) s1 (any_back s2)
  | bool => exact pe_callTy hc hg (bt ok) (by decide +kernel) ha (by decide) (by decide) s1 (any_back s2)
theorem pe_tyN (ok : XOk X c Φ G) {t : Ty} {p : Pos} (hg : Gl X (tyX t)) : PE X (.Name (tyX t) p) (tC (.ty (tyN t))) := by
  cases t <;> exact pe_bltn (v := .ty _) hg (bt ok) (by decide +kernel) rfl (by decide) (by decide)
theorem bi_star {b : Bi} {sc : Scope} {x : Str} {xs : List Expr} {es : Es} (h1 : b ≠ .sortedset) (h2 : b ≠ .lenset)
    (h : (match b with
      | .sortedset => (match xs with
        | [.Call (.Name y _) ys [] _] => decide (y = ("set" : Str)) && glB sc y && matchEs c es sc ys && !ys.isEmpty
        | _ => false)
      | .lenset => false
      | _ => matchEs c es sc xs && !xs.isEmpty) = true) : matchEs c es sc xs = true ∧ xs.isEmpty = false := by
  cases b <;> first | exact absurd rfl h1 | exact absurd rfl h2 | (rw [Bool.and_eq_true, Bool.not_eq_true'] at h; exact h)
theorem stars {sc : Scope} {es : Es} {x : Expr} {xs : List Expr} {env : Env} (h : matchEs c es sc (x :: xs) = true) : starEach (x :: xs) env = (false, eval x env) :: starEach xs env ∧ (starEach xs env).any (·.1) = false := by
  cases es with
  | nil => simp only [matchEs] at h; cases h
  | cons e es =>
    simp only [matchEs, Bool.and_eq_true] at h
    exact ⟨star_cons h.1.2, any_star h.2⟩
theorem all_star {sc : Scope} {env : Env} : ∀ {es : Es} {xs : List Expr}, matchEs c es sc xs = true → (starEach xs env).all (fun x => !x.1) = true
  | .nil, xs, h => by
    simp only [matchEs] at h
    split at h
    · rfl
    · cases h
  | .cons e es, xs, h => by
    simp only [matchEs] at h
    split at h
    · simp only [Bool.and_eq_true] at h
      rw [star_cons h.1.2, List.all_cons, all_star h.2]
      rfl
    · cases h
theorem few_of {sc : Scope} {env : Env} {es : Es} {x : Expr} {xs : List Expr} {cp : Pos} (h : matchEs c es sc (x :: xs) = true) (hn : (x :: xs).length < 20) :
    ((backTo cp (starEach (x :: xs) env)).all (fun x => !x.1) && (backToKw cp (keywordEach [] env)).all (fun x => x.1.isSome) && decide ((x :: xs).length + ([] : List Keyword).length + (if ([] : List Keyword).isEmpty then 0 else 1) < 30)) = true := by
  have h1 : (backTo cp (starEach (x :: xs) env)).all (fun x => !x.1) = true := by
    unfold backTo
    rw [List.all_map]
    exact all_star h
  rw [h1]
  simp only [Bool.true_and, Bool.and_eq_true, decide_eq_true_eq]
  refine ⟨rfl, ?_⟩
  rw [List.length_cons] at hn ⊢
  simp
  omega
end
/-! sorted(set(t)), t a tuple of whole numbers -/
theorem insU_mem (x : Int) : ∀ (l : List Int) (k : Int), k ∈ insU x l ↔ k = x ∨ k ∈ l
  | [], k => by simp [insU]
  | y :: ys, k => by
    unfold insU
    split
    · simp
    · split
      · rename_i h; subst h; simp
      · rw [List.mem_cons, insU_mem x ys k, List.mem_cons]
        constructor
        · rintro (h | h | h)
          · exact .inr (.inl h)
          · exact .inl h
          · exact .inr (.inr h)
        · rintro (h | h | h)
          · exact .inr (.inl h)
          · exact .inl h
          · exact .inr (.inr h)
theorem insU_rise (x : Int) : ∀ (l : List Int), l.Pairwise (· < ·) → (insU x l).Pairwise (· < ·)
  | [], _ => by simp [insU]
  | y :: ys, h => by
    obtain ⟨h1, h2⟩ := List.pairwise_cons.mp h
    unfold insU
    split
    · rename_i hx
      refine List.pairwise_cons.mpr ⟨fun z hz => ?_, h⟩
      rcases List.mem_cons.mp hz with rfl | hz
      · exact hx
      · exact Int.lt_trans hx (h1 z hz)
    · split
      · exact h
      · rename_i n1 n2
        refine List.pairwise_cons.mpr ⟨fun z hz => ?_, insU_rise x ys h2⟩
        rcases (insU_mem x ys z).mp hz with rfl | hz
        · omega
        · exact h1 z hz
theorem setSort_mem : ∀ (l : List Int) (k : Int), k ∈ setSort l ↔ k ∈ l
  | [], k => by simp [setSort]
  | x :: xs, k => by
    have ih := setSort_mem xs k
    show k ∈ insU x (setSort xs) ↔ _
    rw [insU_mem, ih, List.mem_cons]
theorem insU_le (x : Int) : ∀ l : List Int, (insU x l).length ≤ l.length + 1
  | [] => Nat.le_refl _
  | y :: ys => by
    unfold insU
    split
    · simp
    · split
      · simp
      · have := insU_le x ys
        simp only [List.length_cons]
        omega
theorem setSort_le : ∀ l : List Int, (setSort l).length ≤ l.length
  | [] => Nat.le_refl _
  | x :: xs => by
    have h1 := insU_le x (setSort xs)
    have h2 := setSort_le xs
    show (insU x (setSort xs)).length ≤ _
    simp only [List.length_cons]
    omega
theorem setSort_rise : ∀ (l : List Int), (setSort l).Pairwise (· < ·)
  | [] => by simp [setSort]
  | x :: xs => insU_rise x _ (setSort_rise xs)
theorem rise_one : ∀ {a b : List Int}, a.Pairwise (· < ·) → b.Pairwise (· < ·) → (∀ k, k ∈ a ↔ k ∈ b) → a = b
  | [], [], _, _, _ => rfl
  | [], y :: ys, _, _, h => absurd ((h y).mpr (List.mem_cons_self ..)) (by simp)
  | x :: xs, [], _, _, h => absurd ((h x).mp (List.mem_cons_self ..)) (by simp)
  | x :: xs, y :: ys, ha, hb, h => by
    obtain ⟨a1, a2⟩ := List.pairwise_cons.mp ha
    obtain ⟨b1, b2⟩ := List.pairwise_cons.mp hb
    have e : x = y := by
      rcases List.mem_cons.mp ((h x).mp (List.mem_cons_self ..)) with e | e
      · exact e
      · rcases List.mem_cons.mp ((h y).mpr (List.mem_cons_self ..)) with e' | e'
        · exact e'.symm
        · have := a1 y e'
          have := b1 x e
          omega
    subst e
    rw [rise_one a2 b2 fun k => ?_]
    constructor
    · intro hk
      rcases List.mem_cons.mp ((h k).mp (List.mem_cons_of_mem _ hk)) with e | e
      · have := a1 k hk; omega
      · exact e
    · intro hk
      rcases List.mem_cons.mp ((h k).mpr (List.mem_cons_of_mem _ hk)) with e | e
      · have := b1 k hk; omega
      · exact e
section
variable {X : Cx} {c : Cxt} {Φ : Nat → List W → Sto → Res W} {G : List D}
theorem biD_sset {ds : List D} {z : D} (h : biD .sortedset ds = some z) : ∃ ns : List Int, (ds = [.tuple (ns.map .int)] ∨ ds = [.list (ns.map .int)]) ∧ (ns.length < 4000 ∧ (setSort ns).length < 64) ∧ z = .list ((setSort ns).map .int) := by
  have key : ∀ {xs : List D}, sortedsetD xs = some z → ∃ ns : List Int, xs = ns.map .int ∧ (ns.length < 4000 ∧ (setSort ns).length < 64) ∧ z = .list ((setSort ns).map .int) := by
    intro xs h
    unfold sortedsetD at h
    split at h
    · rename_i ns hn
      split at h
      · rename_i hl
        cases h
        have e := ints_of hn
        subst e
        rw [List.length_map] at hl
        refine ⟨ns, rfl, ?_, rfl⟩
        rcases hl with hl | hl
        · have := setSort_le ns
          omega
        · exact hl
      · cases h
    · cases h
  rcases ds with _ | ⟨d, _ | ⟨e, ds⟩⟩
  · simp [biD] at h
  · cases d <;> simp only [biD] at h <;> try (cases h; done)
    · obtain ⟨ns, rfl, h2⟩ := key h
      exact ⟨ns, .inr rfl, h2⟩
    · obtain ⟨ns, rfl, h2⟩ := key h
      exact ⟨ns, .inl rfl, h2⟩
  · cases d <;> cases e <;> simp [biD] at h
theorem sset_read {K : PySem.W.Frag} {w : World} {es : Es} (σV : L2.St) (H : Hp) (Q : VK) (h : tE K Φ G (.bi .sortedset es) σV H Q) : tCB (rSortedSet w) (tCons (tCB (rSetN K w) (tA K Φ G es)) tNil) σV H Q := by
  obtain ⟨R, σ, st, as, hl, hw, h⟩ := h
  rw [ev] at h
  refine rd_step hl hw (wp_bind h) fun ws st1 vs H1 as1 p po l r => ?_
  obtain ⟨x, hx, q⟩ := wp_ofO p
  rw [Option.bind_eq_some_iff] at hx
  obtain ⟨ds, hd, hx⟩ := hx
  rw [Option.map_eq_some_iff] at hx
  obtain ⟨z, hz, rfl⟩ := hx
  have pk := pks_of po.wld r hd
  obtain ⟨ns, hds, hlen, rfl⟩ := biD_sset hz
  have src : ∃ a, vs = [.ref a] ∧ (SqT K H1 a (ns.map V.int) ∨ LsX K H1 a (ns.map V.int)) := by
    rcases hds with rfl | rfl
    · obtain ⟨v, rfl, pv⟩ := pk.one
      obtain ⟨a, us, rfl, s1, r1⟩ := pv.tup
      obtain rfl := r1.ints
      exact ⟨a, rfl, .inl s1.sq⟩
    · obtain ⟨v, rfl, pv⟩ := pk.one
      obtain ⟨a, us, rfl, s1, r1⟩ := pv.list
      obtain rfl := r1.ints
      exact ⟨a, rfl, .inr s1⟩
  obtain ⟨a, rfl, sq⟩ := src
  refine ⟨a, ns, rfl, sq, hlen.1, fun p c hp hc => ⟨p, _, c, rfl, upd_same, by rw [hc (setSort ns) ((setSort_rise ns).imp fun h => Int.ne_of_lt h) (setSort_mem ns)]; exact hlen.2, fun ms p2 hs hm hl2 hp2 => ?_⟩⟩
  have e3 : ms = setSort ns := rise_one hs (setSort_rise ns) fun k => by
    rw [hm k, setSort_mem]
    exact decide_eq_true_iff
  subst e3
  have po1 := po.trans (Post.alloc (o := SetO w p (fun j => decide (j ∈ ns)) c) po.wld hp)
  exact (ans_of po1 q).lst po1.wld (RelAll.ofInts _) p2 hp2
theorem pe_sset (ok : XOk X c Φ G) (hot : c.hot = false) {e : Expr} {es : List Expr} {es' : Es} {p p' pos pos' : Pos} (hg : Gl X "sorted") (hg' : Gl X "set") (ha : PA X (e :: es) (tA X.K Φ G es'))
    (s1 : starEach (e :: es) X.env = (false, eval e X.env) :: starEach es X.env) (s2 : (starEach es X.env).any (·.1) = false) :
    PE X (.Call (.Name "sorted" p) [.Call (.Name "set" p') (e :: es) [] pos'] [] pos) (tE X.K Φ G (.bi .sortedset es')) :=
  PE.imp (pe_callB (cr_sortedSet (ok.calm hot)) hg (bt ok) (by decide +kernel) (pa_cons (pe_callTy (cr_setX (ok.calm hot)) hg' (bt ok) (by decide +kernel) ha (by decide) (by decide) s1 (any_back s2)) pa_nil rfl) (by decide) (by decide) rfl rfl) sset_read
theorem pe_back (ok : XOk X c Φ G) {o : E} {py : Expr} {k : Nat} {p1 p2 p3 pos : Pos} (h : PE X py (tE X.K Φ G o)) :
    PE X (.Subscript py (.Slice none none (some (.UnaryOp .USub (.Constant (.int 1) k p1) p2)) p3) pos) (tE X.K Φ G (.back o)) := by
  refine PE.imp (pe_revX h) fun σV H Q ⟨R, σ, st, as, hl, hw, h⟩ => ?_
  rw [ev] at h
  refine rd_step hl hw (wp_bind h) fun w st1 v H1 as1 p po l r => ?_
  obtain ⟨x, hx, q⟩ := wp_ofO p
  rw [Option.bind_eq_some_iff] at hx
  obtain ⟨d, hd, hx⟩ := hx
  have pk := pk_of po.wld r hd
  cases d <;> simp only at hx <;> try (cases hx; done)
  · cases hx
    obtain ⟨a, us, rfl, s1, r1⟩ := pk.list
    exact ⟨a, us, rfl, .inl ⟨s1.sq, (ans_of po q).lst po.wld r1.rev⟩⟩
  · cases hx
    obtain ⟨a, us, rfl, s1, r1⟩ := pk.tup
    exact ⟨a, us, rfl, .inr ⟨s1.sq, (ans_of po q).tup po.wld r1.rev⟩⟩
end
end TB
set_option maxRecDepth 100000
set_option maxHeartbeats 2000000
/-! TBLam: lambdas without parameters, made and called. -/
namespace TB
open PySem PySem.Spec PyProof.Rows L2 LamX
/-- the name of a lambda within the def x -/
def lamQ (x : Str) : Str := x ++ ".<locals>." ++ "<lambda>"
/-- the tables in the store -/
def tabsOf : Sto → As → List (Addr × Str)
  | .tb x :: st, (a, _) :: as => (a, lamQ x) :: tabsOf st as
  | _ :: st, _ :: as => tabsOf st as
  | _, _ => []
theorem tabsOf_of : ∀ {st : Sto} {as : As} {p : Addr × Str}, p ∈ tabsOf st as → ∃ (i : Nat) (x : Str) (qs : List Addr), st[i]? = some (.tb x) ∧ as[i]? = some (p.1, qs) ∧ p.2 = lamQ x
  | [], as, p, h => by
    cases as <;> exact absurd h (by simp [tabsOf])
  | ob :: st, [], p, h => by
    cases ob <;> exact absurd h (by simp [tabsOf])
  | ob :: st, (a, qs) :: as, p, h => by
    have go : p ∈ tabsOf st as → ∃ (i : Nat) (x : Str) (qs' : List Addr), (ob :: st)[i]? = some (.tb x) ∧ ((a, qs) :: as)[i]? = some (p.1, qs') ∧ p.2 = lamQ x := fun h => by
      obtain ⟨i, x, qs', h1, h2, h3⟩ := tabsOf_of h
      exact ⟨i + 1, x, qs', by simpa using h1, by simpa using h2, h3⟩
    cases ob with
    | tb x =>
      rcases List.mem_cons.mp (show p ∈ (a, lamQ x) :: tabsOf st as from h) with e | e
      · subst e
        exact ⟨0, x, qs, rfl, rfl, rfl⟩
      · exact go e
    | lst _ => exact go h
    | dct _ => exact go h
    | dl _ => exact go h
    | frz _ => exact go h
theorem of_tabs : ∀ {st : Sto} {as : As} {i : Nat} {x : Str} {a : Addr} {qs : List Addr}, st[i]? = some (.tb x) → as[i]? = some (a, qs) → (a, lamQ x) ∈ tabsOf st as
  | [], as, i, x, a, qs, h, _ => by simp at h
  | ob :: st, [], i, x, a, qs, _, h => by simp at h
  | ob :: st, (b, rs) :: as, 0, x, a, qs, h1, h2 => by
    simp at h1 h2
    obtain ⟨rfl, rfl⟩ := h2
    subst h1
    exact List.mem_cons_self ..
  | ob :: st, (b, rs) :: as, i + 1, x, a, qs, h1, h2 => by
    have h := of_tabs (st := st) (as := as) (i := i) (by simpa using h1) (by simpa using h2)
    cases ob with
    | tb y => exact List.mem_cons_of_mem _ h
    | lst _ => exact h
    | dct _ => exact h
    | dl _ => exact h
    | frz _ => exact h
section
variable {K : PySem.W.Frag} {R : Addr → Prop} {H H1 : Hp} {st : Sto} {as : As}
theorem Slot.tbI {Z : Addr → Prop} {a : Addr} {qs : List Addr} {x : Str} (h : Slot K H Z (.tb x) a qs) : TabZ K H Z a x := by
  cases h with
  | tb t => exact t
theorem Wld.tabs (w : Wld K H R st as) : Tabs (tabsOf st as) H := fun p hp => by
  obtain ⟨i, x, qs, h1, h2, h3⟩ := tabsOf_of hp
  obtain ⟨_, ps, e1, e2, e3⟩ := (w.slot i _ _ _ h1 h2).tbI
  refine ⟨ps, e1, e2, fun pos cv hc => ?_⟩
  obtain ⟨c, q1, q2, _⟩ := e3 pos cv hc
  exact ⟨c, q1, by rw [h3]; exact q2⟩
/-- one table, one name -/
theorem Wld.tab_one (w : Wld K H R st as) {i : Nat} {x : Str} {a : Addr} {qs : List Addr} (h1 : st[i]? = some (.tb x)) (h2 : as[i]? = some (a, qs)) : ∀ p ∈ tabsOf st as, p.1 = a → p.2 = lamQ x := fun p hp e => by
  obtain ⟨j, y, rs, g1, g2, g3⟩ := tabsOf_of hp
  rw [e] at g2
  have ij := w.inj i j _ _ a qs a rs a h1 g1 rfl rfl h2 g2 (.inl rfl) (.inl rfl)
  subst ij
  rw [h1] at g1
  cases g1
  exact g3
/-- tables may have grown -/
theorem Wld.retab (w : Wld K H R st as) (e : ExtN H H1) (t : Tabs (tabsOf st as) H1) : Post K R H st as st H1 as := by
  have g : Grows H (Zof st as R) H1 (Zof st as R) := fun b o h n nt => ⟨e b o h nt, n⟩
  have keep : ∀ {i : Nat} {ob : Ob} {a : Addr} {qs : List Addr}, st[i]? = some ob → as[i]? = some (a, qs) → ob.isTb = false → ob.live = true → ∀ p o, (p = a ∨ p ∈ qs) → H p = some o → H1 p = some o := fun {i ob a qs} h1 h2 nt l p o hp ho => by
    have s := w.slot i ob a qs h1 h2
    refine e p o ho fun ps z => ?_
    cases s with
    | lst q _ =>
      rcases hp with rfl | hp
      · rw [q] at ho; cases ho; cases z
      · cases hp
    | dK q _ =>
      rcases hp with rfl | hp
      · rw [q] at ho; cases ho; cases z
      · cases hp
    | dT q _ =>
      rcases hp with rfl | hp
      · rw [q] at ho; cases ho; cases z
      · cases hp
    | dl q r _ =>
      rcases hp with rfl | hp
      · rw [q] at ho; cases ho; cases z
      · obtain ⟨vs, q2⟩ := r.there hp
        rw [q2] at ho; cases ho; cases z
    | frz _ => cases l
    | tb _ => cases nt
  -- a code object is no thing that changes
  have off : ∀ {c : Addr} {q : Str}, H1 c = some (CodeO c q) → ¬ Zof st as R c := fun {c q} hc z => by
    rcases z with ⟨i, ob, a, qs, h1, l, h2, hp⟩ | z
    · cases ht : ob.isTb with
      | true =>
        cases ob <;> try (cases ht; done)
        rename_i x
        have s := w.slot i _ a qs h1 h2
        cases s with
        | tb tz =>
          rcases hp with rfl | hp
          · obtain ⟨ps, e1, _⟩ := t _ (of_tabs h1 h2)
            rw [e1] at hc
            exact codeO_ne ps (Option.some.inj hc).symm
          · cases hp
      | false =>
        obtain ⟨o, ho⟩ := (w.slot i ob a qs h1 h2).there l hp
        have h3 := keep h1 h2 ht l c o hp ho
        rw [h3] at hc
        have s := w.slot i ob a qs h1 h2
        have ho : H c = some (CodeO c q) := by rw [ho]; exact hc
        unfold CodeO at ho
        cases s with
        | lst q _ => rcases hp with rfl | hp <;> first | (rw [q] at ho; cases ho; done) | cases hp
        | dK q _ => rcases hp with rfl | hp <;> first | (rw [q] at ho; cases ho; done) | cases hp
        | dT q _ => rcases hp with rfl | hp <;> first | (rw [q] at ho; cases ho; done) | cases hp
        | dl q r _ =>
          rcases hp with rfl | hp
          · rw [q] at ho; cases ho
          · obtain ⟨vs, q2⟩ := r.there hp
            rw [q2] at ho; cases ho
        | frz _ => cases l
        | tb _ => cases ht
    · obtain ⟨⟨o, ho⟩, _⟩ := w.res c z
      obtain ⟨r1, r2, r3⟩ := w.rt c o z ho
      rw [e c o ho r2] at hc
      exact r3 _ (Option.some.inj hc)
  refine ⟨⟨w.len, fun i ob a qs h1 h2 => ?_, w.inj, fun p hp => ?_, fun p o hp ho => ?_⟩, g, ⟨[], by simp⟩, fun p hp => ?_⟩
  · cases ht : ob.isTb with
    | false => exact (w.slot i ob a qs h1 h2).grow g fun l p o hp ho => keep h1 h2 ht l p o hp ho
    | true =>
      cases ob <;> try (cases ht; done)
      rename_i x
      have s := w.slot i _ a qs h1 h2
      cases s with
      | tb tz =>
        obtain ⟨ps, e1, e2, e3⟩ := t _ (of_tabs h1 h2)
        refine .tb ⟨tz.1, ps, e1, e2, fun pos cv hc => ?_⟩
        obtain ⟨c, q1, q2⟩ := e3 pos cv hc
        exact ⟨c, q1, q2, off q2⟩
  · obtain ⟨⟨o, ho⟩, n⟩ := w.res p hp
    exact ⟨⟨o, e p o ho (w.rt p o hp ho).2.1⟩, n⟩
  · obtain ⟨⟨u, hu⟩, n⟩ := w.res p hp
    have r := w.rt p u hp hu
    rw [e p u hu r.2.1] at ho
    cases ho
    exact r
  · obtain ⟨⟨o, ho⟩, n⟩ := w.res p hp
    rw [ho]
    exact e p o ho (w.rt p o hp ho).2.1
end
/-! ### the lambda's body -/
/-- the context of a lambda's body that may raise -/
abbrev lamXN (X : Cx) (A : Around) (outer : List Env) (s : Shared) (H : Hp) (E : XK) (scope : Scope) (f c' : Addr) : Cx :=
  (lamCx X A outer s H E scope f c').tr [] fun e s' => wpAny (model X.prog X.w) (A.deeper (lamEnv X scope s.heap.objs.size f c')) (leaving (lamEnv X scope s.heap.objs.size f c') e) (fun _ t => L2N.CX X.prog X.w outer H s E e t) (fun e2 t => L2N.CX X.prog X.w outer H s E e2 t) s'
section
variable {X : Cx} {c : Cxt} {Φ : Nat → List W → Sto → Res W} {G : List D}
theorem lam_at {pins : List (Addr × Obj)} {σ : L2.St} {H : Hp} {s : Shared} {f c' : Addr} {pm ctv : Value} {params : Arguments} {body : Expr} {scope : Scope} {k : Nat} {tb : XK → TE} {T : VK → XK → Prop}
    (I : Inv X pins σ H s) (L : LamS X.env.scope scope) (at_ : s.heap.get? f = some (PySem.W.kla_obj "<lambda>" (X.env.qual ++ "<lambda>") params body scope (cloFrom X.env.cells scope.names []) pm c' ctv)) (nf : H f = none) (off : f ∉ frs X.stack) (co : H c' = some (CodeO c' (X.env.qual ++ "<lambda>")))
    (no : bindArgs (PySem.W.kla_fn "<lambda>" (X.env.qual ++ "<lambda>") params body scope (cloFrom X.env.cells scope.names []) pm (.ref c') ctv) ⟨[], []⟩ = pure [])
    (hb : ∀ (A : Around) (outer : List Env) (s2 : Shared) (E : XK), Room k (A.deeper (lamEnv X scope s2.heap.objs.size f c')) → A.guards = some [] → PE (lamXN X A outer s2 H E scope f c') body (tb E)) (ht : ∀ Q E, T Q E → tb E σ H Q) :
    LamAt X.prog X.w X.K X.mg X.base (k + 1) (frs X.stack) s H f T := by
  refine ⟨fun s2 un => ⟨_, _, _, _, un.keep f _ at_ nf off (by simp)⟩, ?_⟩
  intro A outer s2 Q E room gd e0 un hT
  have here := un.keep f _ at_ nf off (by simp)
  obtain ⟨⟨oc, us, t, q1, q2, q3⟩, _, _⟩ := e0.hok c' _ co
  refine PySem.W.kla_callFunE room.depth here rfl L.co L.gen rfl ⟨c', oc, us, t, rfl, q1, q2, q3⟩ ?_
  rw [no]
  refine wpAny_pure (wpAny_newFunctionEnv (fun y m => (L.own y m).2) (fun y m => by cases m) (fun h1 n1 sb => ⟨(e0.mod.nolimit.keeps fun b o e => (e0.bs b o e).1).fresh _ sb, ?_⟩) L.kind)
  show codeAny _ A (.expr body (lamEnv X scope s2.heap.objs.size f c')) _ _
  have kp : ∀ b o, s2.heap.get? b = some o → h1.get? b = some o := fun b o e => sb.extBut b o (Nat.ne_of_lt (Heap.lt_size e)) (Heap.get?_push_of_some _ e)
  have J := lam_start2 (E := E) (f := f) (c' := c') (scope := scope) (tk := s2.toks + ([] : List (Str × Value)).length) I L e0 room.hd un n1 kp
  have J2 : Inv (lamXN X A outer s2 H E scope f c') [] σ H _ := J.toTry _
  refine PySem.W.kla_codeExpr (wpAny_mono ((hb A outer s2 E (room.deeper _) gd).run [] _ σ H Q J2 (ht Q E hT)) (fun v t hv => ?_) fun _ _ z => z)
  obtain ⟨y, H2, K2, rv, q⟩ := hv
  exact ⟨y, H2, K2.os, K2.bare, K2.base, K2.hok, rv, q⟩
/-- a call that may raise -/
theorem pe_fnT {cl : Nat → Option Addr} {E : XK} (hx : L2N.Takes X fun cls d _ H => E cls d H) {f : Nat} {x : Str} {p pos : Pos} {e : Expr} {es : List Expr} {t : TA}
    (hf : ∃ fa, X.mg x = some (.ref fa) ∧ PySem.W.keepIn X.K (.ref fa) = true ∧ CallsX X.prog X.w X.K X.mg X.base X.A fa cl (Φ f)) (hg : Gl X x) (hd : (x == ("__debug__" : Str)) = false) (ha : PA X (e :: es) t)
    (s1 : starEach (e :: es) X.env = (false, eval e X.env) :: starEach es X.env) (s2 : (starEach es X.env).any (·.1) = false) :
    PE X (.Call (.Name x p) (e :: es) [] pos) (fun σ H Q => t σ H fun vs H1 => spX X.K cl (Φ f) vs H1 Q E) := by
  obtain ⟨fa, hm, hk, hf⟩ := hf
  refine ⟨fun pins s σ H Q I h => ?_⟩
  refine wpAny_Call_Name_kw (ld_glob I hg hm ?_ hd)
  refine PySem.W.callWith_K (h₀ := X.base) I.ok.mod.kin hk (thn (ha.run pos pins s σ H _ I h) fun us t1 ⟨vs, H1, I1, r, q⟩ => ⟨I1.kIn, ?_⟩) s1 (any_back s2)
  refine wpAny_call <| codeAny_mono (hf X.stack t1 H1 us vs Q _ I1.env0 r q) fun res s' hq => ?_
  match res, hq with
  | .ok (.ret u), hq => exact I1.after hq
  | .ok .next, hq => exact False.elim hq
  | .ok .brk, hq => exact False.elim hq
  | .ok .cont, hq => exact False.elim hq
  | .error e, hq => exact hx e s' (L2N.XE.of_call I1 (fun _ _ _ z => z) hq)
/-- what is known within a lambda's body -/
theorem xok_lam (ok : XOk X c Φ G) (hot : c.hot = false) {k : Nat} {cl : Nat → Option Addr} (calls : ∀ (f : Nat) y, c.fn f = some y → ∃ fa, X.mg y = some (.ref fa) ∧ PySem.W.keepIn X.K (.ref fa) = true ∧ ∀ A, Room k A → A.guards = some [] → CallsX X.prog X.w X.K X.mg X.base A fa cl (Φ f))
    {A : Around} {outer : List Env} {s : Shared} {H : Hp} {E : XK} {scope : Scope} {f c' : Addr} (hr : Room k (A.deeper (lamEnv X scope s.heap.objs.size f c'))) (hg : A.guards = some []) : XOk (lamXN X A outer s H E scope f c') { c with me := none } Φ G := by
  refine ⟨fun _ => rfl, ok.N, ok.nd, ?_, hg, ok.blt, ok.glob, fun _ _ _ q _ => absurd (hot.symm.trans q) (by decide), fun q => absurd (hot.symm.trans q) (by decide), fun x hx => (by cases hx), fun j y hy => ?_⟩
  · have := hr.un
    show (A.deeper _).units + 200 < cLine
    omega
  · obtain ⟨fa, h1, h2, h3⟩ := calls j y hy
    exact ⟨fa, h1, h2, fun outer' s' H' us' vs' Q' e0 hv hsp => codeAny_mono (h3 _ hr hg outer' s' H' us' vs' Q' (fun _ _ _ => False) e0 hv (spX_of hsp)) fun res s2 q => cr_none q⟩
theorem tbAt_of {x : Str} {j : Nat} {st : Sto} {u : Unit} (h : tbAt x j st = some u) : st[j]? = some (.tb x) := by
  unfold tbAt at h
  split at h
  · rename_i y e
    split at h
    · rename_i e2; rw [e, e2]
    · cases h
  · cases h
/-- def(lambda: f(..)) -/
theorem pe_saidX (ok : XOk X c Φ G) (hot : c.hot = false) {x g y : Str} {j : Nat} {wd : Bool} (hwd : wd = true → c.wd = true) {f : Nat} {es : Es} {p p2 p3 lp pos : Pos} {scope : Scope} {e0 : Expr} {xs : List Expr} (hm : c.me = some x) (eg : g = saidX wd) (hg : Gl X g) (hL : lamSB X.env.scope scope = true) (hy : c.fn f = some y) (hgy : glB scope y = true) (hpl : plainN y = true)
    (hA : ∀ X' : Cx, XOk X' { c with me := none } Φ G → X'.env.scope = scope → X'.K = X.K → PA X' (e0 :: xs) (tA X'.K Φ G es)) (s1 : ∀ env, starEach (e0 :: xs) env = (false, eval e0 env) :: starEach xs env) (s2 : ∀ env, (starEach xs env).any (·.1) = false) :
    PE X (.Call (.Name g p) [.Lambda ⟨[], [], none, [], [], none, []⟩ (.Call (.Name y p2) (e0 :: xs) [] p3) scope lp] [] pos) (tE X.K Φ G (.said x j wd f es)) := by
  have so := ok.said x hm
  obtain ⟨k, cl, room, calls, give⟩ := so.ex
  obtain ⟨ga, m1, m2, m3⟩ := give wd hwd
  have L := lamS_by hL
  refine ⟨fun pins s σV H Q I ⟨R, σ, st, as, hl, hw, q⟩ => ?_⟩
  rw [ev] at q
  obtain ⟨u, hu, q⟩ := wp_ofO (wp_bind q)
  have hj := tbAt_of hu
  have q := wp_bind q
  cases e : evs Φ G es σ st with
  | exc n ds t => rw [e] at q; exact q.elim
  | bad => rw [e] at q; exact q.elim
  | ok ws t =>
    rw [e] at q
    have q : (saidR st.length wd (Φ f ws t)).wp _ := q
    have lj : j < as.length := by rw [← hw.len]; exact (List.getElem?_eq_some_iff.mp hj).1
    obtain ⟨a, qs, ha⟩ : ∃ a qs, as[j]? = some (a, qs) := ⟨_, _, List.getElem?_eq_getElem lj⟩
    have tz := (hw.slot j _ a qs hj ha).tbI
    have ea := tz.1
    subst ea
    have eq_ : X.env.qual ++ "<lambda>" = lamQ x := by rw [so.qual]; rfl
    have hd : (g == ("__debug__" : Str)) = false := by rw [eg]; cases wd <;> decide
    refine wpAny_Call_Name_kw (ld_glob I hg (by rw [eg]; exact m1) ?_ hd)
    refine PySem.W.callWith_K (h₀ := X.base) I.ok.mod.kin m2 ?_ (by rfl) (by rfl)
    show wpAny _ X.A (spliced ((false, eval _ X.env) :: backTo pos (starEach [] X.env))) _ _ s
    have mem := of_tabs hj ha
    rw [← eq_] at mem
    refine Calls.spliced_cons (lam_make2 (T := tabsOf st as) I so.tab so.code mem (fun r hr e2 => by rw [eq_]; exact hw.tab_one hj ha r hr e2) hw.tabs rfl (L.has I.ok) fun fl c' pm ctv H1 t1 I1 eN T1 h1 h2 h3 h4 => ?_)
    refine Calls.spliced_nil ⟨I1.kIn, ?_⟩
    have po := hw.retab eN T1
    have hl1 : Loc X.K H1 (Zof st as R) as σ σV := hl.grow po.grow ⟨[], by simp⟩
    have lam : LamAt X.prog X.w X.K X.mg X.base (k + 1) (frs X.stack) t1 H1 fl (ansR X.K cl R H1 st as (Φ f ws t)) := by
      refine lam_at (tb := fun E σ H Q => tA X.K Φ G es σ H fun vs H1 => spX X.K cl (Φ f) vs H1 Q E) I1 L h1 h2 h3 h4 rfl (fun A outer s3 E hr hgd => ?_) fun Q' E' hT => ?_
      · have ok' := xok_lam (A := A) (outer := outer) (s := s3) (H := H1) (E := E) (scope := scope) (f := fl) (c' := c') ok hot calls hr hgd
        obtain ⟨fa, n1, n2, n3⟩ := calls f y hy
        exact pe_fnT (L2N.takes_of rfl rfl rfl rfl) ⟨fa, n1, n2, n3 _ hr hgd⟩ (gl_of hgy) (plain1 hpl).1 (hA _ ok' rfl rfl) (s1 _) (s2 _)
      · refine ⟨R, σ, st, as, hl1, po.wld, ?_⟩
        rw [e]
        refine fun vs H2 as2 po2 r2 => ⟨R, ws, t, as2, r2, po2.wld, ?_⟩
        revert hT
        unfold ansR
        cases Φ f ws t with
        | ok w st' => exact fun hT v H' as' po3 r3 => hT v H' as' (po2.trans po3) r3
        | exc n ds st' => exact fun hT cls d H' as' po3 r3 => hT cls d H' as' (po2.trans po3) r3
        | bad => exact fun hT => hT
    refine wpAny_call (codeAny_mono (m3 X.A X.stack t1 H1 fl R st as (Φ f ws t) Q (room.mono (by split <;> omega)) ok.gd I1.env0 lam po.wld (wp_mono q fun y' st' z v H' as' po2 r2 => z v H' as' (po.trans po2) r2)) fun res t2 hq => ?_)
    match res, hq with
    | .ok (.ret u), hq => exact I1.after hq
    | .ok .next, hq => exact False.elim hq
    | .ok .brk, hq => exact False.elim hq
    | .ok .cont, hq => exact False.elim hq
    | .error e, hq => exact False.elim hq
end
end TB
set_option maxRecDepth 100000
/-! TBStep: xs[lo::2] of a list. -/
namespace TB
open PySem PySem.Spec PyProof.Rows L2
theorem evens_fm {α : Type} : ∀ L : List α, (List.range ((L.length + 1) / 2)).filterMap (fun k => L[2 * k]?) = evens L
  | [] => by simp [evens]
  | [x] => by simp [evens]
  | x :: y :: r => by
    have e : ((x :: y :: r).length + 1) / 2 = (r.length + 1) / 2 + 1 := by simp only [List.length_cons]; omega
    rw [e, List.range_succ_eq_map, List.filterMap_cons]
    have h0 : (x :: y :: r)[2 * 0]? = some x := rfl
    rw [h0]
    show x :: _ = x :: evens r
    rw [List.filterMap_map, ← evens_fm r]
    congr 1
theorem pick_step (items : Array Value) (lo : Nat) (o : Option Int) (ho : o = some (lo : Int) ∨ (o = none ∧ lo = 0)) : slicePick items o none (some 2) = (evens (items.toList.drop lo)).toArray := by
  have e : sliceBounds o none (some 2) items.size = (((min lo items.size : Nat) : Int), (items.size : Int), 2) := by
    unfold sliceBounds
    rcases ho with rfl | ⟨rfl, rfl⟩
    · have h : ¬ ((lo : Int) < 0) := by omega
      simp [h]
      omega
    · simp
  unfold slicePick
  rw [e]
  congr 1
  have ed : items.toList.drop lo = items.toList.drop (min lo items.size) := by
    by_cases h : lo ≤ items.size
    · rw [Nat.min_eq_left h]
    · rw [Nat.min_eq_right (by omega), List.drop_eq_nil_of_le (by simp; omega), List.drop_eq_nil_of_le (by simp)]
  rw [ed, ← evens_fm]
  have hm : min lo items.size ≤ items.size := Nat.min_le_right _ _
  generalize min lo items.size = m at hm
  unfold sliceRange
  have hc : ((if (2 : Int) > 0 then if (m : Int) < (items.size : Int) then ((items.size : Int) - (m : Int) + 2 - 1) / 2 else 0 else if (m : Int) > (items.size : Int) then ((m : Int) - (items.size : Int) - 2 - 1) / -2 else 0) : Int).toNat = ((items.toList.drop m).length + 1) / 2 := by
    rw [if_pos (by decide), List.length_drop, Array.length_toList]
    by_cases h : (m : Int) < (items.size : Int)
    · rw [if_pos h]; omega
    · rw [if_neg h]; omega
  simp only []
  rw [hc, List.filterMap_map]
  congr 1
  funext k
  simp only [Function.comp]
  rw [List.getElem?_drop, Array.getElem?_toList]
  congr 1
theorem RelAll.evens {K : PySem.W.Frag} {H : Hp} {Z : Addr → Prop} : ∀ {ds : List D} {vs : List V}, RelAll K H Z ds vs → RelAll K H Z (TB.evens ds) (TB.evens vs)
  | _, _, .nil => .nil
  | _, _, .cons h .nil => .cons h .nil
  | _, _, .cons h (.cons _ r) => .cons h r.evens
theorem vals_evens : ∀ {vs : List V} {us : List Value}, Vals vs us → Vals (TB.evens vs) (TB.evens us)
  | _, _, .nil => .nil
  | _, _, .cons h .nil => .cons h .nil
  | _, _, .cons h (.cons _ r) => .cons h (vals_evens r)
theorem vals_drop : ∀ {vs : List V} {us : List Value} (k : Nat), Vals vs us → Vals (vs.drop k) (us.drop k)
  | _, _, 0, h => h
  | _, _, k + 1, .nil => .nil
  | _, _, k + 1, .cons _ r => vals_drop k r
theorem evens_len {α : Type} : ∀ L : List α, (TB.evens L).length ≤ L.length
  | [] => Nat.le_refl _
  | [x] => Nat.le_refl _
  | x :: y :: r => by
    have := evens_len r
    show (TB.evens r).length + 1 ≤ r.length + 2
    omega
theorem lo_po {X : Cx} {lo : Nat} {a : Option Expr} (h : matchLo lo a = true) : ∃ o : Option Int, (o = some (lo : Int) ∨ (o = none ∧ lo = 0)) ∧ ∃ t : TO, PO X a t ∧ ∀ σ H Q, Q o H → t σ H Q := by
  unfold matchLo at h
  split at h
  · exact ⟨none, .inr ⟨rfl, by simpa using h⟩, _, po_none, fun σ H Q q => q⟩
  · rename_i k j p
    have e : k = (lo : Int) := by simpa using h
    subst e
    exact ⟨some lo, .inl rfl, _, po_some pe_int, fun σ H Q q => ⟨_, rfl, q⟩⟩
  · cases h
/-- x[lo::2], a list -/
def tStepX (K : PySem.W.Frag) (lo : Nat) (te : TE) : TE := fun σ H Q => te σ H fun x H1 => ∃ a xs, x = .ref a ∧ SqL K H1 a xs ∧ ∀ p, H1 p = none → Q (.ref p) (upd H1 p (.lst (TB.evens (xs.drop lo))))
theorem pe_stepX {X : Cx} {e : Expr} {a : Option Expr} {te : TE} {lo k : Nat} {p1 p3 pos : Pos} (hlo : matchLo lo a = true) (he : PE X e te) : PE X (.Subscript e (.Slice a none (some (.Constant (.int 2) k p1)) p3) pos) (tStepX X.K lo te) := by
  obtain ⟨o, ho, t, pt, ht⟩ := lo_po (X := X) hlo
  refine ⟨fun pins s σ H Q I h => Subscript_ (thn (he.run pins s σ H _ I h) fun v s1 ⟨x, H1, I1, r1, b, xs, ex, hx, q⟩ => ?_)⟩
  subst ex
  cases r1
  have st : PO X (some (.Constant (.int 2) k p1)) (tPart (tC (.int 2))) := po_some pe_int
  refine wpAny_Slice (thn (pt.run pins s1 σ H1 (fun o' H2 => o' = o ∧ H2 = H1) I1 (ht _ _ _ ⟨rfl, rfl⟩)) fun va s2 ⟨o1, H2, I2, pa, z1, z2⟩ => ?_)
  subst z1 z2
  refine thn (po_none.run pins s2 σ H2 (fun o H3 => o = none ∧ H3 = H2) I2 ⟨rfl, rfl⟩) fun vb s3 ⟨o2, H3, I3, pb, z3, z4⟩ => ?_
  subst z3 z4
  refine thn (st.run pins s3 σ H3 (fun o H4 => o = some 2 ∧ H4 = H3) I3 ⟨2, rfl, rfl, rfl⟩) fun vc s4 ⟨o3, H4, I4, pc, z5, z6⟩ => ?_
  subst z5 z6
  have I5 : Inv X pins σ H4 { s4 with heap := s4.heap.push { cls := .type "slice", data := .fields #[va, vb, vc] } } := I4.kept (t' := s4.toks) fun b ob q => Heap.get?_push_of_some _ q
  show wpAny (model X.prog X.w) X.A (subscriptTail e (.Slice a none (some (.Constant (.int 2) k p1)) p3) (.ref b) (.ref s4.heap.objs.size)) (EP X pins σ Q) X.xe { s4 with heap := s4.heap.push { cls := .type "slice", data := .fields #[va, vb, vc] } }
  obtain ⟨its, r, hT, hz⟩ := I5.list hx
  have ln := r.length
  refine tail_any (ops := [.ref b, .ref s4.heap.objs.size]) hT.isList.typeIs (PySem.slot_list_getitem.lookup) ?_ (by with_unfolding_all rfl)
  refine wpAny_getItem_list_slice hT.isList (Heap.IsSliceOf.new _ va vb vc) pa pb pc (by decide) ?_ (by rw [List.size_toArray]; omega)
  rw [pick_step _ lo _ ho]
  have r2 := vals_evens (vals_drop lo r)
  have l2 : (TB.evens (xs.drop lo)).length ≤ sizeLine := by
    have h1 := evens_len (xs.drop lo)
    rw [List.length_drop] at h1
    omega
  exact ⟨.ref _, _, I5.laid (t' := s4.toks) (o := .lst (TB.evens (xs.drop lo))) (fun b ob q => Heap.get?_push_of_some _ q) (Nat.le_refl _) ⟨l2, _, 0, r2, Heap.get?_push_size _ rfl⟩, rfl, q _ (I5.hok.fresh (Nat.le_refl _))⟩
section
variable {X : Cx} {c : Cxt} {Φ : Nat → List W → Sto → Res W} {G : List D}
theorem pe_step (ok : XOk X c Φ G) {o : E} {lo : Nat} {py : Expr} {a : Option Expr} {k : Nat} {p1 p3 pos : Pos} (hlo : matchLo lo a = true) (h : PE X py (tE X.K Φ G o)) :
    PE X (.Subscript py (.Slice a none (some (.Constant (.int 2) k p1)) p3) pos) (tE X.K Φ G (.step2 o lo)) := by
  refine PE.imp (pe_stepX hlo h) fun σV H Q ⟨R, σ, st, as, hl, hw, h⟩ => ?_
  rw [ev] at h
  refine rd_step hl hw (wp_bind h) fun w st1 v H1 as1 p po l r => ?_
  obtain ⟨x, hx, q⟩ := wp_ofO p
  rw [Option.bind_eq_some_iff] at hx
  obtain ⟨d, hd, hx⟩ := hx
  have pk := pk_of po.wld r hd
  cases d <;> simp only [step2D] at hx <;> try (cases hx; done)
  cases hx
  obtain ⟨a, us, rfl, s1, r1⟩ := pk.list
  exact ⟨a, us, rfl, s1.sq, (ans_of po q).lst po.wld (r1.drop lo).evens⟩
theorem sum2_read {K : PySem.W.Frag} {a : E} (σV : L2.St) (H : Hp) (Q : VK) (h : tE K Φ G (.sum2 a) σV H Q) : tCB (rSumL K) (tCons (tE K Φ G a) (tCons (tLst tNil) tNil)) σV H Q := by
  obtain ⟨R, σ, st, as, hl, hw, h⟩ := h
  rw [ev] at h
  unfold tCB tCons
  refine rd_step hl hw (wp_bind h) fun w st1 v H1 as1 p po l r => ?_
  obtain ⟨x, hx, q⟩ := wp_ofO p
  rw [Option.bind_eq_some_iff] at hx
  obtain ⟨d, hd, hx⟩ := hx
  rw [Option.map_eq_some_iff] at hx
  obtain ⟨y, hy, rfl⟩ := hx
  cases d <;> simp only [sum2D] at hy <;> try (cases hy; done)
  rename_i es
  rw [Option.bind_eq_some_iff] at hy
  obtain ⟨ys, hys, hy⟩ := hy
  split at hy
  · rename_i hlim
    cases hy
    unfold tLst tNil
    refine ⟨Nat.zero_le _, fun b hb => ?_⟩
    have g := grows_new (Z := Zof st1 as1 R) (o := .lst []) hb
    have w2 : Wld K (upd H1 b (.lst [])) R st1 as1 := po.wld.alloc hb
    have po2 := po.trans (Post.alloc (o := .lst []) po.wld hb)
    obtain ⟨a', vs, rfl, s1, r1⟩ := (pk_of w2 (r.grow g ⟨[], by simp⟩) hd).list
    obtain ⟨vss, e1, e2⟩ := each_lists r1 hys
    refine ⟨a', b, vs, vss, rfl, s1, e1, upd_same, ?_, fun hv => ?_, fun t ht => ?_⟩
    · rw [← e2.length]
      exact lim_line hlim
    · subst hv
      cases r1
      cases hys
      exact (ans_of po q).lst po.wld .nil b hb
    · exact (ans_of po2 q).lst w2 e2 t ht
  · cases hy
theorem pe_sum2 (ok : XOk X c Φ G) (hot : c.hot = false) {a : E} {y : Expr} {p p2 pos : Pos} (hg : Gl X "sum") (hs : notStar y = true) (h : PE X y (tE X.K Φ G a)) : PE X (.Call (.Name "sum" p) [y, .List [] p2] [] pos) (tE X.K Φ G (.sum2 a)) :=
  PE.imp (pe_callB (cr_sumL (ok.calm hot)) hg (bt ok) (by decide +kernel) (pa_cons h (pa_cons (pe_lst pa_nil) pa_nil rfl) (star_cons hs)) (by decide) (by decide) (star_cons hs)) sum2_read
end
end TB
set_option maxRecDepth 100000
/-! TBSnd4: readings of the forms of expressions. -/
namespace TB
open PySem PySem.Spec PyProof.Rows L2
section
variable {K : PySem.W.Frag} {R : Addr → Prop} {st : Sto} {as : As} {H : Hp}
/-- some of the objects -/
theorem Wld.sub (w : Wld K H R st as) {st2 : Sto} {as2 : As} (hl : st2.length = as2.length) (f : Nat → Nat) (inj : ∀ i j, i < st2.length → j < st2.length → f i = f j → i = j) (hs : ∀ i ob, st2[i]? = some ob → st[f i]? = some ob) (ha : ∀ i x, as2[i]? = some x → as[f i]? = some x) :
    Wld K H R st2 as2 ∧ ∀ p, Zof st2 as2 R p → Zof st as R p := by
  have hm : ∀ p, Mof st2 as2 p → Mof st as p := fun p ⟨i, ob, a, qs, e1, e2, e3, e4⟩ => ⟨f i, ob, a, qs, hs i ob e1, e2, ha i _ e3, e4⟩
  have hz : ∀ p, Zof st2 as2 R p → Zof st as R p := fun p z => z.imp (hm p) id
  refine ⟨⟨hl, fun i ob a qs e1 e2 => (w.slot (f i) ob a qs (hs i ob e1) (ha i _ e2)).grow (grows_less hz) fun _ _ _ _ e => e, fun i j ob ob' a qs a' qs' p e1 e2 l1 l2 f1 f2 p1 p2 => ?_, fun p hp => ⟨(w.res p hp).1, fun z => (w.res p hp).2 (hm p z)⟩, w.rt⟩, hz⟩
  exact inj i j (List.getElem?_eq_some_iff.mp e1).1 (List.getElem?_eq_some_iff.mp e2).1 (w.inj (f i) (f j) ob ob' a qs a' qs' p (hs i ob e1) (hs j ob' e2) l1 l2 (ha i _ f1) (ha j _ f2) p1 p2)
end
section
variable {K : PySem.W.Frag} {R : Addr → Prop} {st : Sto} {as : As} {H : Hp}
/-- the callee's objects are let go -/
theorem Post.cut (hw : Wld K H R st as) {st' : Sto} {H' : Hp} {as' : As} (po : Post K R H st as st' H' as') (hlen : st.length ≤ st'.length) :
    Post K R H st as (st'.take st.length) H' (as'.take st.length) ∧ ∀ p, Zof (st'.take st.length) (as'.take st.length) R p → Zof st' as' R p := by
  have e1 := po.wld.len
  obtain ⟨w, z⟩ := po.wld.sub (st2 := st'.take st.length) (as2 := as'.take st.length) (by rw [List.length_take, List.length_take, e1]) id (fun _ _ _ _ e => e)
    (fun i ob e => by
      have hi := (List.getElem?_eq_some_iff.mp e).1
      rw [List.length_take] at hi
      rw [List.getElem?_take_of_lt (by omega)] at e
      exact e)
    (fun i x e => by
      have hi := (List.getElem?_eq_some_iff.mp e).1
      rw [List.length_take] at hi
      rw [List.getElem?_take_of_lt (by omega)] at e
      exact e)
  refine ⟨⟨w, po.grow.trans (grows_less z), ⟨[], ?_⟩, po.res⟩, z⟩
  obtain ⟨m, em⟩ := po.ext
  rw [em, List.append_nil, hw.len, List.take_left]
theorem Post.longer (hw : Wld K H R st as) {st' : Sto} {H' : Hp} {as' : As} (po : Post K R H st as st' H' as') : st.length ≤ st'.length := by
  obtain ⟨m, em⟩ := po.ext
  have := po.wld.len
  rw [em, List.length_append, ← hw.len] at this
  omega
end
theorem relW_int {K : PySem.W.Frag} {H : Hp} {Z : Addr → Prop} {as : As} {i : Int} {v : V} (h : RelW K H Z as (.d (.int i)) v) : v = .int i := by
  have h : Rel K H Z (.int i) v := h
  cases h; rfl
theorem relW_bool {K : PySem.W.Frag} {H : Hp} {Z : Addr → Prop} {as : As} {i : Bool} {v : V} (h : RelW K H Z as (.d (.bool i)) v) : v = .bl i := by
  have h : Rel K H Z (.bool i) v := h
  cases h; rfl
theorem wp_self {α : Type} {r : Res α} {P : α → Sto → Prop} (h : r.wp P) : r.wp fun a st => r = .ok a st ∧ P a st := by
  cases r with
  | ok a st => exact ⟨rfl, h⟩
  | exc _ _ _ => exact h.elim
  | bad => exact h.elim
theorem isTrue_whole {op : BoolOp} {xs : List Expr} {pos : Pos} {env : Env} (w w' : Sem Value) : isTrue (.BoolOp op xs pos) env w = isTrue (.BoolOp op xs pos) env w' := by rfl
theorem pw_of {X : Cx} {op : BoolOp} {xs : List Expr} {pos : Pos} {t : TT} (h : PT X (.BoolOp op xs pos) t) : PW X (.BoolOp op xs pos) t := ⟨fun wh pins s σ H Q I q => h.run pins s σ H Q I q⟩
theorem pt_ite {X : Cx} {c a b : Expr} {pos : Pos} {tc ta tb : TT} (hc : PT X c tc) (ha : PT X a ta) (hb : PT X b tb) : PT X (.IfExp c a b pos) (fun σ H Q => tc σ H fun k H1 => if k = true then ta σ H1 Q else tb σ H1 Q) := by
  refine ⟨fun pins s σ H Q I h => ?_⟩
  refine isTrue_IfExp (thn (hc.run pins s σ H _ I h) fun k s1 ⟨H1, I1, q⟩ => ?_)
  cases k with
  | true => exact ha.run pins s1 σ H1 Q I1 q
  | false => exact hb.run pins s1 σ H1 Q I1 q
theorem wp_mk {α : Type} {a : α} {st : Sto} {P : α → Sto → Prop} (h : P a st) : (Res.ok a st).wp P := h
theorem truthW_bool {k : Bool} {st : Sto} : truthW (.d (.bool k)) st = .ok k st := rfl
section
variable {K : PySem.W.Frag} {Φ : Nat → List W → Sto → Res W} {G : List D}
theorem lst_read {es : Es} {c : Cxt} {sc : Scope} {pys : List Expr} (hm : matchEs c es sc pys = true) (hn : pys.length ≤ 1000) (σV : L2.St) (H : Hp) (Q : VK) (h : tE K Φ G (.lst es) σV H Q) : tLst (tAD K Φ G es) σV H Q := by
  obtain ⟨R, σ, st, as, hl, hw, q⟩ := h
  rw [ev] at q
  unfold tLst tAD
  refine rd_step hl hw (wp_self (wp_bind q)) fun ds st1 vs H1 as1 p po l r => ⟨?_, fun a ha => (ans_of po p.2).lst po.wld r a ha⟩
  rw [← r.length, evD_len p.1 hm]
  exact lim_line (Nat.le_trans hn (by decide))
theorem dnew_read (σV : L2.St) (H : Hp) (Q : VK) (h : tE K Φ G .dnew σV H Q) : tDNewK σV H Q := by
  obtain ⟨R, σ, st, as, hl, hw, q⟩ := h
  rw [ev] at q
  intro p hp
  exact q _ _ _ (.alloc hw hp) (Rel.dK ⟨upd_same, hw.notZ hp⟩ .nil)
theorem neg_read {a : E} (σV : L2.St) (H : Hp) (Q : VK) (h : tE K Φ G (.neg a) σV H Q) : tUn (rU fun i => .int (-i)) (tE K Φ G a) σV H Q := by
  obtain ⟨R, σ, st, as, hl, hw, q⟩ := h
  rw [ev] at q
  refine rd_step hl hw (wp_bind q) fun w st1 v H1 as1 p po l r => ?_
  split at p
  · rename_i i
    obtain rfl := relW_int r
    exact ⟨i, rfl, p _ H1 as1 po (Rel.int _)⟩
  · exact p.elim
theorem not_read {a : E} (σV : L2.St) (H : Hp) (Q : VK) (h : tE K Φ G (.not a) σV H Q) : tNotT K (tE K Φ G a) σV H Q := by
  obtain ⟨R, σ, st, as, hl, hw, q⟩ := h
  rw [ev] at q
  refine rd_step hl hw (wp_bind q) fun w st1 v H1 as1 p po l r => ?_
  obtain ⟨k, hk, q⟩ := wp_ofO (wp_bind p)
  rw [Option.bind_eq_some_iff] at hk
  obtain ⟨d, hd, ht⟩ := hk
  exact ⟨k, tru_of (pk_of po.wld r hd) ht, q _ H1 as1 po (Rel.bl _)⟩
theorem notT_read {a : E} (σV : L2.St) (H : Hp) (Q : Bool → Hp → Prop) (h : tT K Φ G (.not a) σV H Q) : tNot (tT K Φ G a) σV H Q := by
  obtain ⟨R, σ, st, as, hl, hw, q⟩ := h
  unfold evT at q
  rw [ev] at q
  unfold tNot tT
  have q1 : (evT Φ G a σ st).wp fun k st1 => ∀ b H' as', Post K R H st as st1 H' as' → b = (!k) → Q b H' := by
    unfold evT
    cases e : ev Φ G a σ st with
    | ok w st1 =>
      rw [e, Res.bind_ok] at q
      rw [Res.bind_ok]
      cases e2 : truthW w st1 with
      | ok k st2 =>
        rw [e2, Res.bind_ok, Res.bind_ok, truthW_bool] at q
        exact q
      | exc _ _ _ => rw [e2] at q; exact q.elim
      | bad => rw [e2] at q; exact q.elim
    | exc _ _ _ => rw [e] at q; exact q.elim
    | bad => rw [e] at q; exact q.elim
  refine rd_step hl hw q1 fun k st1 v H1 as1 p po l r => ?_
  subst r
  exact p _ H1 as1 po rfl
theorem and_read {a b : E} (σV : L2.St) (H : Hp) (Q : VK) (h : tE K Φ G (.and a b) σV H Q) : tAndV (tE K Φ G a) (tE K Φ G b) σV H Q := by
  obtain ⟨R, σ, st, as, hl, hw, q⟩ := h
  rw [ev] at q
  refine rd_step hl hw (wp_bind q) fun w st1 v H1 as1 p po l r => ?_
  split at p
  · obtain rfl := relW_bool r
    refine ⟨true, rfl, ?_⟩
    rw [if_pos rfl]
    exact rd_step l po.wld p fun w st2 v H2 as2 p2 po2 l2 r2 => p2 v H2 as2 (po.trans po2) r2
  · obtain rfl := relW_bool r
    refine ⟨false, rfl, ?_⟩
    rw [if_neg Bool.false_ne_true]
    exact p _ H1 as1 po (Rel.bl _)
  · exact p.elim
theorem or_read {a b : E} (σV : L2.St) (H : Hp) (Q : VK) (h : tE K Φ G (.or a b) σV H Q) : tOrV (tE K Φ G a) (tE K Φ G b) σV H Q := by
  obtain ⟨R, σ, st, as, hl, hw, q⟩ := h
  rw [ev] at q
  refine rd_step hl hw (wp_bind q) fun w st1 v H1 as1 p po l r => ?_
  split at p
  · obtain rfl := relW_bool r
    refine ⟨false, rfl, ?_⟩
    rw [if_neg Bool.false_ne_true]
    exact rd_step l po.wld p fun w st2 v H2 as2 p2 po2 l2 r2 => p2 v H2 as2 (po.trans po2) r2
  · obtain rfl := relW_bool r
    refine ⟨true, rfl, ?_⟩
    rw [if_pos rfl]
    exact p _ H1 as1 po (Rel.bl _)
  · exact p.elim
theorem evT_ev {a : E} {σ : Ev} {st : Sto} {k : Bool} {st1 : Sto} (h : ev Φ G a σ st = .ok (.d (.bool k)) st1) : evT Φ G a σ st = .ok k st1 := by
  unfold evT
  rw [h, Res.bind_ok, truthW_bool]
theorem andT_read {a b : E} (σV : L2.St) (H : Hp) (Q : Bool → Hp → Prop) (h : tT K Φ G (.and a b) σV H Q) : tAnd (tT K Φ G a) (tT K Φ G b) σV H Q := by
  obtain ⟨R, σ, st, as, hl, hw, q⟩ := h
  unfold evT at q
  rw [ev] at q
  unfold tAnd tT
  have q1 : (evT Φ G a σ st).wp fun k st1 => if k = true then (evT Φ G b σ st1).wp (fun k2 st2 => ∀ b H' as', Post K R H st as st2 H' as' → b = k2 → Q b H') else (∀ b H' as', Post K R H st as st1 H' as' → b = false → Q b H') := by
    cases e : ev Φ G a σ st with
    | ok w st1 =>
      rw [e, Res.bind_ok] at q
      split at q
      · rw [evT_ev e]
        refine wp_mk ?_
        simp only [if_true]
        exact q
      · rw [evT_ev e]
        refine wp_mk ?_
        simp only [Bool.false_eq_true, if_false]
        exact q
      · exact q.elim
    | exc _ _ _ => rw [e] at q; exact q.elim
    | bad => rw [e] at q; exact q.elim
  refine rd_step hl hw q1 fun k st1 v H1 as1 p po l r => ?_
  subst r
  cases v with
  | true =>
    rw [if_pos rfl] at p ⊢
    exact rd_step l po.wld p fun w st2 v H2 as2 p2 po2 l2 r2 => p2 v H2 as2 (po.trans po2) r2
  | false =>
    rw [if_neg Bool.false_ne_true] at p ⊢
    exact p _ H1 as1 po rfl
theorem orT_read {a b : E} (σV : L2.St) (H : Hp) (Q : Bool → Hp → Prop) (h : tT K Φ G (.or a b) σV H Q) : tOr (tT K Φ G a) (tT K Φ G b) σV H Q := by
  obtain ⟨R, σ, st, as, hl, hw, q⟩ := h
  unfold evT at q
  rw [ev] at q
  unfold tOr tT
  have q1 : (evT Φ G a σ st).wp fun k st1 => if k = true then (∀ b H' as', Post K R H st as st1 H' as' → b = true → Q b H') else (evT Φ G b σ st1).wp (fun k2 st2 => ∀ b H' as', Post K R H st as st2 H' as' → b = k2 → Q b H') := by
    cases e : ev Φ G a σ st with
    | ok w st1 =>
      rw [e, Res.bind_ok] at q
      split at q
      · rw [evT_ev e]
        refine wp_mk ?_
        simp only [Bool.false_eq_true, if_false]
        exact q
      · rw [evT_ev e]
        refine wp_mk ?_
        simp only [if_true]
        exact q
      · exact q.elim
    | exc _ _ _ => rw [e] at q; exact q.elim
    | bad => rw [e] at q; exact q.elim
  refine rd_step hl hw q1 fun k st1 v H1 as1 p po l r => ?_
  subst r
  cases v with
  | false =>
    rw [if_neg Bool.false_ne_true] at p ⊢
    exact rd_step l po.wld p fun w st2 v H2 as2 p2 po2 l2 r2 => p2 v H2 as2 (po.trans po2) r2
  | true =>
    rw [if_pos rfl] at p ⊢
    exact p _ H1 as1 po rfl
/-- a test of what is a bool in any case -/
theorem test_read {e : E} (hb : ∀ σ st w st', ev Φ G e σ st = .ok w st' → ∃ k, w = .d (.bool k)) (σV : L2.St) (H : Hp) (Q : Bool → Hp → Prop) (h : tT K Φ G e σV H Q) : tTest (tE K Φ G e) σV H Q := by
  obtain ⟨R, σ, st, as, hl, hw, q⟩ := h
  unfold evT at q
  refine rd_step hl hw (wp_self (wp_bind q)) fun w st1 v H1 as1 p po l r => ?_
  obtain ⟨k, rfl⟩ := hb _ _ _ _ p.1
  obtain rfl := relW_bool r
  exact ⟨k, rfl, p.2 _ H1 as1 po rfl⟩
theorem tTest_imp {t t' : TE} (m : ∀ σ H Q, t' σ H Q → t σ H Q) (σV : L2.St) (H : Hp) (Q : Bool → Hp → Prop) (h : tTest t' σV H Q) : tTest t σV H Q := m _ _ _ h
theorem cmp_bool {op : CmpOp} {a b : E} {σ : Ev} {st : Sto} {w : W} {st' : Sto} (h : ev Φ G (.cmp op a b) σ st = .ok w st') : ∃ k, w = .d (.bool k) := by
  rw [ev] at h
  cases h1 : ev Φ G a σ st with
  | ok x st1 =>
    rw [h1, Res.bind_ok] at h
    cases h2 : ev Φ G b σ st1 with
    | ok y st2 =>
      rw [h2, Res.bind_ok] at h
      cases h3 : ((peek x st2).bind fun d => (peek y st2).bind fun e => (cmpD op d e).map fun k => W.d (.bool k)) with
      | none => rw [h3] at h; cases h
      | some w' =>
        rw [h3] at h
        cases h
        rw [Option.bind_eq_some_iff] at h3
        obtain ⟨d, _, h3⟩ := h3
        rw [Option.bind_eq_some_iff] at h3
        obtain ⟨e, _, h3⟩ := h3
        rw [Option.map_eq_some_iff] at h3
        obtain ⟨k, _, rfl⟩ := h3
        exact ⟨k, rfl⟩
    | exc _ _ _ => rw [h2] at h; cases h
    | bad => rw [h2] at h; cases h
  | exc _ _ _ => rw [h1] at h; cases h
  | bad => rw [h1] at h; cases h
theorem chain_bool {op op' : CmpOp} {a b c : E} {σ : Ev} {st : Sto} {w : W} {st' : Sto} (h : ev Φ G (.chain op op' a b c) σ st = .ok w st') : ∃ k, w = .d (.bool k) := by
  rw [ev] at h
  cases h1 : ev Φ G a σ st with
  | ok x st1 =>
    rw [h1, Res.bind_ok] at h
    cases h2 : ev Φ G b σ st1 with
    | ok y st2 =>
      rw [h2, Res.bind_ok] at h
      cases h3 : ((peek x st2).bind fun d => (peek y st2).bind fun e => cmpD op d e) with
      | none => rw [h3] at h; cases h
      | some k =>
        rw [h3, ofO_some, Res.bind_ok] at h
        cases k with
        | false =>
          rw [if_neg Bool.false_ne_true] at h
          cases h
          exact ⟨_, rfl⟩
        | true =>
          rw [if_pos rfl] at h
          cases h4 : ev Φ G c σ st2 with
          | ok z st4 =>
            rw [h4, Res.bind_ok] at h
            cases h5 : ((peek y st4).bind fun d => (peek z st4).bind fun e => (cmpD op' d e).map fun k => W.d (.bool k)) with
            | none => rw [h5] at h; cases h
            | some w' =>
              rw [h5] at h
              cases h
              rw [Option.bind_eq_some_iff] at h5
              obtain ⟨d, _, h5⟩ := h5
              rw [Option.bind_eq_some_iff] at h5
              obtain ⟨e, _, h5⟩ := h5
              rw [Option.map_eq_some_iff] at h5
              obtain ⟨k, _, rfl⟩ := h5
              exact ⟨k, rfl⟩
          | exc _ _ _ => rw [h4] at h; cases h
          | bad => rw [h4] at h; cases h
    | exc _ _ _ => rw [h2] at h; cases h
    | bad => rw [h2] at h; cases h
  | exc _ _ _ => rw [h1] at h; cases h
  | bad => rw [h1] at h; cases h
theorem cmp_read {op : CmpOp} {a b : E} (σV : L2.St) (H : Hp) (Q : VK) (h : tE K Φ G (.cmp op a b) σV H Q) : tOp (rD K fun x y => (cmpD op x y).map .bool) (tE K Φ G a) (tE K Φ G b) σV H Q := by
  refine op_read (e := .cmp op a b) (fun σ st => ?_) σV H Q h
  rw [ev]
  simp only [Option.map_map]
  rfl
theorem chain_read {op op' : CmpOp} {a b c : E} (σV : L2.St) (H : Hp) (Q : VK) (h : tE K Φ G (.chain op op' a b c) σV H Q) :
    tChain (rD K fun x y => (cmpD op x y).map .bool) (rD K fun x y => (cmpD op' x y).map .bool) (tE K Φ G a) (tE K Φ G b) (tE K Φ G c) σV H Q := by
  obtain ⟨R, σ, st, as, hl, hw, h⟩ := h
  rw [ev] at h
  refine rd_step hl hw (wp_bind h) fun x st1 v H1 as1 p po l r => ?_
  refine rd_step l po.wld (wp_bind p) fun y st2 u H2 as2 p2 po2 l2 r2 => ?_
  obtain ⟨k, hk, q⟩ := wp_ofO (wp_bind p2)
  rw [Option.bind_eq_some_iff] at hk
  obtain ⟨d, hd, hk⟩ := hk
  rw [Option.bind_eq_some_iff] at hk
  obtain ⟨e', he, hk⟩ := hk
  refine ⟨R, st2, as2, d, e', .bool k, po2.wld, pk_of po2.wld (r.grow po2.grow po2.ext) hd, pk_of po2.wld r2 he, by simp only [hk]; rfl, fun z H3 po3 rz => ?_⟩
  have rz : Rel K H3 _ (.bool k) z := rz
  cases rz
  refine ⟨k, rfl, ?_⟩
  cases k with
  | false =>
    rw [if_neg Bool.false_ne_true] at q ⊢
    exact q _ H3 as2 ((po.trans po2).trans po3) (Rel.bl _)
  | true =>
    rw [if_pos rfl] at q ⊢
    refine rd_step (l2.grow po3.grow po3.ext) po3.wld (wp_bind q) fun z st4 w H4 as4 p4 po4 l4 r4 => ?_
    obtain ⟨w2, hw2, q⟩ := wp_ofO p4
    rw [Option.bind_eq_some_iff] at hw2
    obtain ⟨d2, hd2, hw2⟩ := hw2
    rw [Option.bind_eq_some_iff] at hw2
    obtain ⟨e2, he2, hw2⟩ := hw2
    rw [Option.map_eq_some_iff] at hw2
    obtain ⟨k2, hk2, rfl⟩ := hw2
    have r2' := r2.grow (po3.grow.trans po4.grow) (Post.ext (po3.trans po4))
    exact ⟨R, st4, as4, d2, e2, .bool k2, po4.wld, pk_of po4.wld r2' hd2, pk_of po4.wld r4 he2, by simp only [hk2]; rfl, ans_of (((po.trans po2).trans po3).trans po4) q⟩
theorem ite_evT {c : E} {P : Bool → Sto → Prop} {σ : Ev} {st : Sto} {α : Type} {f : Bool → Sto → Res α} {Q : α → Sto → Prop} (h : ((ev Φ G c σ st).bind fun x st1 => (truthW x st1).bind f).wp Q) : (evT Φ G c σ st).wp fun k st1 => (f k st1).wp Q := by
  unfold evT
  cases e : ev Φ G c σ st with
  | ok w st1 =>
    rw [e, Res.bind_ok] at h
    rw [Res.bind_ok]
    exact wp_bind h
  | exc _ _ _ => rw [e] at h; exact h.elim
  | bad => rw [e] at h; exact h.elim
theorem ite_read {c a b : E} (σV : L2.St) (H : Hp) (Q : VK) (h : tE K Φ G (.ite c a b) σV H Q) : L2.tIf (tT K Φ G c) (tE K Φ G a) (tE K Φ G b) σV H Q := by
  obtain ⟨R, σ, st, as, hl, hw, h⟩ := h
  rw [ev] at h
  unfold L2.tIf tT
  refine rd_step hl hw (ite_evT (P := fun _ _ => True) h) fun k st1 v H1 as1 p po l r => ?_
  subst r
  cases v with
  | true =>
    rw [if_pos rfl] at p ⊢
    exact rd_step l po.wld p fun w st2 v H2 as2 p2 po2 l2 r2 => p2 v H2 as2 (po.trans po2) r2
  | false =>
    rw [if_neg Bool.false_ne_true] at p ⊢
    exact rd_step l po.wld p fun w st2 v H2 as2 p2 po2 l2 r2 => p2 v H2 as2 (po.trans po2) r2
theorem iteT_read {c a b : E} (σV : L2.St) (H : Hp) (Q : Bool → Hp → Prop) (h : tT K Φ G (.ite c a b) σV H Q) : tT K Φ G c σV H fun k H1 => if k = true then tT K Φ G a σV H1 Q else tT K Φ G b σV H1 Q := by
  obtain ⟨R, σ, st, as, hl, hw, h⟩ := h
  unfold evT at h
  rw [ev] at h
  have h' := ite_evT (P := fun _ _ => True) (wp_bind h)
  refine rd_step hl hw h' fun k st1 v H1 as1 p po l r => ?_
  subst r
  have key : ∀ (e : E), ((ev Φ G e σ st1).wp fun a_1 st_1 => (truthW a_1 st_1).wp fun a st' => ∀ (b : Bool) (H' : Hp) (as' : As), Post K R H st as st' H' as' → b = a → Q b H') → tT K Φ G e σV H1 Q := fun e p => by
    refine rd_step (f := evT Φ G e) l po.wld (P := fun a st' => ∀ (b : Bool) (H' : Hp) (as' : As), Post K R H st as st' H' as' → b = a → Q b H') ?_ fun w st2 v H2 as2 p2 po2 l2 r2 => p2 v H2 as2 (po.trans po2) r2
    unfold evT
    cases e' : ev Φ G e σ st1 with
    | ok w st2 => rw [e'] at p; exact p
    | exc _ _ _ => rw [e'] at p; exact p.elim
    | bad => rw [e'] at p; exact p.elim
  cases v with
  | true =>
    rw [if_pos rfl] at p ⊢
    exact key a p
  | false =>
    rw [if_neg Bool.false_ne_true] at p ⊢
    exact key b p
theorem call_read {f : Nat} {es : Es} (σV : L2.St) (H : Hp) (Q : VK) (h : tE K Φ G (.call f es) σV H Q) : tA K Φ G es σV H fun vs H1 => spF K (Φ f) vs H1 Q := by
  obtain ⟨R, σ, st, as, hl, hw, h⟩ := h
  rw [ev] at h
  refine rd_step hl hw (wp_bind h) fun ws st1 vs H1 as1 p po l r => ?_
  exact ⟨R, ws, st1, as1, r, po.wld, wp_mono p fun w st2 q v H2 as2 po2 r2 => q v H2 as2 (po.trans po2) r2⟩
theorem isin_read {a : E} {t : Ty} (σV : L2.St) (H : Hp) (Q : VK) (h : tE K Φ G (.isin a t) σV H Q) : tE K Φ G a σV H fun v H1 => rIsD K t [v, .ty (tyN t)] H1 Q := by
  obtain ⟨R, σ, st, as, hl, hw, h⟩ := h
  rw [ev] at h
  refine rd_step hl hw (wp_bind h) fun w st1 v H1 as1 p po l r => ?_
  obtain ⟨w', hk, q⟩ := wp_ofO p
  rw [Option.map_eq_some_iff] at hk
  obtain ⟨d, hd, rfl⟩ := hk
  exact ⟨R, st1, as1, d, v, rfl, po.wld, pk_of po.wld r hd, ans_of po q⟩
theorem idx_read {o i : E} (σV : L2.St) (H : Hp) (Q : VK) (h : tE K Φ G (.idx o i) σV H Q) : tOp (rD K getD) (tE K Φ G o) (tE K Φ G i) σV H Q := op_read (e := .idx o i) (fun σ st => by rw [ev]) σV H Q h
theorem bin_read {op : Operator} {a b : E} (σV : L2.St) (H : Hp) (Q : VK) (h : tE K Φ G (.bin op a b) σV H Q) : tOp (rD K (binD op)) (tE K Φ G a) (tE K Φ G b) σV H Q := op_read (e := .bin op a b) (fun σ st => by rw [ev]) σV H Q h
theorem slc_read {o : E} {a b : Oe} (σV : L2.St) (H : Hp) (Q : VK) (h : tE K Φ G (.slc o a b) σV H Q) : tSl (rSlD K) (tE K Φ G o) (tO K Φ G a) (tO K Φ G b) σV H Q := by
  obtain ⟨R, σ, st, as, hl, hw, h⟩ := h
  rw [ev] at h
  refine rd_step hl hw (wp_bind h) fun w st1 v H1 as1 p po l r => ?_
  refine rd_step l po.wld (wp_bind p) fun lo st2 lo' H2 as2 p2 po2 l2 r2 => ?_
  refine rd_step l2 po2.wld (wp_bind p2) fun hi st3 hi' H3 as3 p3 po3 l3 r3 => ?_
  subst r2 r3
  obtain ⟨w', hk, q⟩ := wp_ofO p3
  rw [Option.bind_eq_some_iff] at hk
  obtain ⟨d, hd, hk⟩ := hk
  rw [Option.map_eq_some_iff] at hk
  obtain ⟨d', hd', rfl⟩ := hk
  exact ⟨R, st3, as3, d, d', po3.wld, pk_of po3.wld (r.grow (po2.grow.trans po3.grow) (Post.ext (po2.trans po3))) hd, hd', ans_of ((po.trans po2).trans po3) q⟩
theorem rep_read {es : Es} {k : E} {c : Cxt} {sc : Scope} {pys : List Expr} (hm : matchEs c es sc pys = true) (hn : pys.length ≤ 1000) (σV : L2.St) (H : Hp) (Q : VK) (h : tE K Φ G (.rep es k) σV H Q) : tOp rRep (tLst (tAD K Φ G es)) (tE K Φ G k) σV H Q := by
  obtain ⟨R, σ, st, as, hl, hw, q⟩ := h
  rw [ev] at q
  unfold tOp tLst tAD
  refine rd_step (f := evD Φ G es) hl hw (wp_self (wp_bind q)) fun ds st1 vs H1 as1 p po l r => ⟨?_, fun a ha => ?_⟩
  · rw [← r.length, evD_len p.1 hm]
    exact lim_line (Nat.le_trans hn (by decide))
  · have po1 := po.trans (Post.alloc (o := .lst vs) po.wld ha)
    have l1 : Loc K (upd H1 a (.lst vs)) (Zof st1 as1 R) as1 σ σV := l.grow (grows_new ha) ⟨[], by simp⟩
    refine rd_step l1 po1.wld (wp_bind p.2) fun w st2 v H2 as2 p2 po2 l2 r2 => ?_
    split at p2
    · rename_i n
      obtain rfl := relW_int r2
      split at p2
      · rename_i hb
        have e1 := (po2.grow a (.lst vs) upd_same (po.wld.notZ ha) (fun _ z => by cases z)).1
        refine ⟨a, n, vs, rfl, rfl, e1, hb.2.1, hb.2.2, by rw [← r.length]; exact lim_line hb.1, ?_⟩
        exact (ans_of (po1.trans po2) p2).lst po2.wld ((r.grow ((grows_new ha).trans po2.grow)).rep n.toNat)
      · exact p2.elim
    · exact p2.elim
/-- text.split(text) -/
def rSplitX : V → List V → Hp → VK → Prop := fun x xs H Q => ∃ a b, x = .str a ∧ xs = [.str b] ∧ (b.length == 0) = false ∧ a.length + 2 ≤ sizeLine ∧ rNewStrs (Txt.split a b) H Q
theorem strs_rel {H : Hp} {Z : Addr → Prop} : ∀ ys : List Str, RelAll K H Z (ys.map .str) (ys.map V.str)
  | [] => .nil
  | y :: ys => .cons (.str y) (strs_rel ys)
theorem relW_str {H : Hp} {Z : Addr → Prop} {as : As} {i : Str} {v : V} (h : RelW K H Z as (.d (.str i)) v) : v = .str i := by
  have h : Rel K H Z (.str i) v := h
  cases h; rfl
theorem fz_step {K : PySem.W.Frag} {R : Addr → Prop} {st st1 : Sto} {as as1 : As} {H H1 : Hp} {w : W} {v : V} {P : W → Sto → Prop} (hw : Wld K H R st as) (po : Post K R H st as st1 H1 as1) (r : RelW K H1 (Zof st1 as1 R) as1 w v)
    (h : ((val w st1).bind fun d st2 => Res.ok (W.d d) (st2.take st.length)).wp P) : ∃ d st2 as2, P (.d d) st2 ∧ Post K R H st as st2 H1 as2 ∧ Rel K H1 (Zof st2 as2 R) d v := by
  obtain ⟨d, st2, p2, po2, r2⟩ := val_of po.wld r (wp_bind h)
  obtain ⟨p3, z⟩ := (po.trans po2).cut hw ((po.trans po2).longer hw)
  exact ⟨d, _, _, p2, p3, r2.grow (grows_less z)⟩
theorem fz_read {e : E} (σV : L2.St) (H : Hp) (Q : VK) (h : tE K Φ G (.fz e) σV H Q) : tE K Φ G e σV H Q := by
  obtain ⟨R, σ, st, as, hl, hw, q⟩ := h
  rw [ev] at q
  refine rd_step hl hw (wp_bind q) fun w st1 v H1 as1 p po l r => ?_
  obtain ⟨d, st2, as2, q2, po2, r2⟩ := fz_step hw po r p
  exact q2 v H1 as2 po2 r2
def rCntD (K : PySem.W.Frag) : V → List V → Hp → VK → Prop := fun x xs H Q => ∃ (a : Addr) (y : V) (d : PyData) (ds : List PyData), x = V.ref a ∧ xs = [y] ∧ Dp K H (V.ref a) (.list ds) ∧ Dp K H y d ∧
  SeqAt.shaped (.list ds) = true ∧ SeqAt.shaped d = true ∧ Q (.int ((ds.countP fun z => PyData.eqv z d) : Nat)) H
theorem mt_cntD {X : Cx} (hu : X.A.units + 65 < cLine) : MtR X "list.count" (rCntD X.K) := by
  intro pins s σ H x xs v us Q I rx rxs h
  obtain ⟨a, y, d, ds, rfl, rfl, hl, hy, sl, sd, q⟩ := h
  cases rx
  cases rxs with
  | cons ry rt =>
    rename_i uy ut
    cases rt
    obtain ⟨bs, r1⟩ := Dp.reads I d y uy hy ry
    have hxs : PyData.canLayAll0 ds = true := SeqAt.canLay_of_shaped sl
    have hroom : X.A.units + 1 + min (PyData.depthAll ds) d.depth < cLine := room_in_shaped sd hu
    cases hl with
    | lst hs ha =>
      obtain ⟨its, rv, ⟨⟨cls, dd, data, sls⟩, n, ho, hc, hdn, hdt⟩, hlen⟩ := I.list hs
      simp only at hc hdt
      subst hc hdt
      obtain ⟨as, h4⟩ := Dp.readsAll I ds _ its ha rv
      have hmap : its.map (SeqAt.readOf s.heap) = ds := SeqAt.readsAll_map ds its as hxs h4
      refine call_meets PySem.F.slot_list_count ⟨_, ho, rfl⟩ PySem.F.entry_list_count (PySem.F.args_list_count_2 _ _)
        (SeqAt.list_countAt a its.toArray n dd sls uy (fun u => PyData.eqv (SeqAt.readOf s.heap u) d)) ⟨ho, SeqAt.items_eqAt (vs := its.toArray) (show ReadsAll s.heap its.toArray.toList ds as from h4) r1 hxs (SeqAt.canLay_of_shaped sd) hroom, ?_⟩
      have ec : its.toArray.toList.countP (fun u => PyData.eqv (SeqAt.readOf s.heap u) d) = ds.countP fun z => PyData.eqv z d := by
        rw [← hmap, List.countP_map]
        rfl
      refine ⟨.int ((ds.countP fun z => PyData.eqv z d : Nat) : Int), H, I.tok _, ⟨s.toks, ?_⟩, q⟩
      show Value.int ((its.toArray.toList.countP (fun u => PyData.eqv (SeqAt.readOf s.heap u) d) : Nat) : Int) s.toks = _
      rw [ec]
def rCnt (K : PySem.W.Frag) : V → List V → Hp → VK → Prop := fun x xs H Q => rCntI K x xs H Q ∨ rCntD K x xs H Q
theorem mt_cnt {X : Cx} (hu : X.A.units + 65 < cLine) : MtR X "list.count" (rCnt X.K) := by
  intro pins s σ H x xs v us Q I rx rxs h
  rcases h with h | h
  · exact mt_lcount pins s σ H x xs v us Q I rx rxs h
  · exact mt_cntD hu pins s σ H x xs v us Q I rx rxs h
theorem findIdx_hit {p : D → Bool} {xs : List D} {j : Nat} (h : xs.findIdx? p = some j) : ∃ z, xs[j]? = some z ∧ p z = true ∧ ∀ (m : Nat) (z' : D), m < j → xs[m]? = some z' → p z' = false := by
  obtain ⟨h1, h2, h3⟩ := List.findIdx?_eq_some_iff_getElem.mp h
  refine ⟨xs[j], List.getElem?_eq_getElem h1, h2, fun m z' hm hz => ?_⟩
  have hl : m < xs.length := by omega
  rw [List.getElem?_eq_getElem hl] at hz
  cases hz
  have := h3 m hm
  simpa using this
theorem shaped_lay {d : D} (h : shapedB d = true) : d.canLay0 = true := SeqAt.canLay_of_shaped h
theorem idx_readM {o : E} {es : Es} (σV : L2.St) (H : Hp) (Q : VK) (h : tE K Φ G (.me .index o es) σV H Q) : tBM K "list" (rIndexD K) (tE K Φ G o) (tA K Φ G es) σV H Q := by
  obtain ⟨R, σ, st, as, hl, hw, q⟩ := h
  rw [ev] at q
  refine rd_step hl hw (wp_bind q) fun w st1 v H1 as1 p po l r => ?_
  obtain ⟨_, hty, p⟩ := wp_ofO (wp_bind p)
  rw [Option.bind_eq_some_iff] at hty
  obtain ⟨d0, hd0, ht⟩ := hty
  have pk0 := pk_of po.wld r hd0
  cases d0 <;> simp only [meTy] at ht <;> try (cases ht; done)
  obtain ⟨a, us, rfl, s1, r1⟩ := pk0.list
  refine ⟨.inl ⟨rfl, us, s1.sq⟩, ?_⟩
  refine rd_step l po.wld (wp_bind p) fun ws st2 vs H2 as2 p2 po2 l2 r2 => ?_
  obtain ⟨x, hx, q⟩ := wp_ofO p2
  rw [Option.bind_eq_some_iff] at hx
  obtain ⟨d, hd, hx⟩ := hx
  rw [Option.bind_eq_some_iff] at hx
  obtain ⟨ds, hds, hx⟩ := hx
  rw [Option.map_eq_some_iff] at hx
  obtain ⟨z, hz, rfl⟩ := hx
  have pk := pk_of po2.wld (r.grow po2.grow po2.ext) hd
  have pks := pks_of po2.wld r2 hds
  match d, ds, hz, pk, pks with
  | .list xs, [k], hz, pk, pks =>
    simp only [meD] at hz
    split at hz
    · rename_i c
      rw [Bool.and_eq_true] at c
      rw [Option.map_eq_some_iff] at hz
      obtain ⟨j, hj, rfl⟩ := hz
      obtain ⟨z, hz1, hz2, hz3⟩ := findIdx_hit hj
      obtain ⟨u, rfl, pu⟩ := pks.one
      exact ⟨a, u, k, xs, j, z, rfl, rfl, pk.dp (shaped_lay c.1), pu.dp (shaped_lay c.2), c.1, c.2, hz1, hz2, hz3, q _ H2 as2 (po.trans po2) (Rel.int _)⟩
    · cases hz
theorem cnt_read {o : E} {es : Es} (σV : L2.St) (H : Hp) (Q : VK) (h : tE K Φ G (.me .count o es) σV H Q) : tBM K "list" (rCnt K) (tE K Φ G o) (tA K Φ G es) σV H Q := by
  obtain ⟨R, σ, st, as, hl, hw, q⟩ := h
  rw [ev] at q
  refine rd_step hl hw (wp_bind q) fun w st1 v H1 as1 p po l r => ?_
  obtain ⟨_, hty, p⟩ := wp_ofO (wp_bind p)
  rw [Option.bind_eq_some_iff] at hty
  obtain ⟨d0, hd0, ht⟩ := hty
  have pk0 := pk_of po.wld r hd0
  cases d0 <;> simp only [meTy] at ht <;> try (cases ht; done)
  obtain ⟨a, us, rfl, s1, r1⟩ := pk0.list
  refine ⟨.inl ⟨rfl, us, s1.sq⟩, ?_⟩
  refine rd_step l po.wld (wp_bind p) fun ws st2 vs H2 as2 p2 po2 l2 r2 => ?_
  obtain ⟨x, hx, q⟩ := wp_ofO p2
  rw [Option.bind_eq_some_iff] at hx
  obtain ⟨d, hd, hx⟩ := hx
  rw [Option.bind_eq_some_iff] at hx
  obtain ⟨ds, hds, hx⟩ := hx
  rw [Option.map_eq_some_iff] at hx
  obtain ⟨z, hz, rfl⟩ := hx
  have pk := pk_of po2.wld (r.grow po2.grow po2.ext) hd
  have pks := pks_of po2.wld r2 hds
  match d, ds, hz, pk, pks with
  | .list xs, [.int k], hz, pk, pks =>
    simp only [meD, Option.map_eq_some_iff] at hz
    obtain ⟨ns, hn, rfl⟩ := hz
    have e := ints_of hn
    subst e
    obtain ⟨b, us2, e2, s2, r3⟩ := pk.list
    cases e2
    obtain rfl := r3.ints
    obtain ⟨u, rfl, pu⟩ := pks.one
    rw [pu.int]
    exact .inl ⟨a, ns, k, rfl, rfl, s2.sq, q _ H2 as2 (po.trans po2) (Rel.int _)⟩
  | .list xs, [.bool k], hz, pk, pks =>
    simp only [meD] at hz
    split at hz
    · rename_i c
      cases hz
      obtain ⟨u, rfl, pu⟩ := pks.one
      exact .inr ⟨a, u, .bool k, xs, rfl, rfl, pk.dp (shaped_lay c), pu.dp rfl, c, (by cases k <;> decide), q _ H2 as2 (po.trans po2) (Rel.int _)⟩
    · cases hz
theorem split_read {o e : E} (σV : L2.St) (H : Hp) (Q : VK) (h : tE K Φ G (.split o e) σV H Q) : tBM K "str" rSplitX (tE K Φ G o) (tCons (tE K Φ G e) tNil) σV H Q := by
  obtain ⟨R, σ, st, as, hl, hw, q⟩ := h
  rw [ev] at q
  refine rd_step hl hw (wp_bind q) fun w st1 v H1 as1 p po l r => ?_
  split at p
  · rename_i a
    obtain rfl := relW_str r
    refine ⟨rfl, ?_⟩
    refine rd_step l po.wld (wp_bind p) fun w2 st2 v2 H2 as2 p2 po2 l2 r2 => ?_
    split at p2
    · rename_i b
      obtain rfl := relW_str r2
      split at p2
      · rename_i hb
        exact ⟨a, b, rfl, rfl, hb.1, lim_line hb.2, (ans_of (po.trans po2) p2).lst po2.wld (strs_rel _)⟩
      · exact p2.elim
    · exact p2.elim
  · exact p.elim
theorem orv_read {a b : E} (σV : L2.St) (H : Hp) (Q : VK) (h : tE K Φ G (.orv a b) σV H Q) : tOrT K (tE K Φ G a) (tE K Φ G b) σV H Q := by
  obtain ⟨R, σ, st, as, hl, hw, q⟩ := h
  rw [ev] at q
  refine rd_step hl hw (wp_bind q) fun x st1 v H1 as1 p po l r => ?_
  obtain ⟨k, hk, p⟩ := wp_ofO (wp_bind p)
  rw [Option.bind_eq_some_iff] at hk
  obtain ⟨d, hd, ht⟩ := hk
  refine ⟨k, tru_of (pk_of po.wld r hd) ht, ?_⟩
  cases k with
  | true => exact p v H1 as1 po r
  | false => exact rd_step l po.wld p fun w st2 v H2 as2 p2 po2 l2 r2 => p2 v H2 as2 (po.trans po2) r2
theorem orvT_read {a b : E} (σV : L2.St) (H : Hp) (Q : Bool → Hp → Prop) (h : tT K Φ G (.orv a b) σV H Q) : tOr (tT K Φ G a) (tT K Φ G b) σV H Q := by
  obtain ⟨R, σ, st, as, hl, hw, q⟩ := h
  unfold evT at q
  rw [ev] at q
  unfold tOr tT
  have q1 : (evT Φ G a σ st).wp fun k st1 => if k = true then (∀ b H' as', Post K R H st as st1 H' as' → b = true → Q b H') else (evT Φ G b σ st1).wp (fun k2 st2 => ∀ b H' as', Post K R H st as st2 H' as' → b = k2 → Q b H') := by
    unfold evT
    cases e : ev Φ G a σ st with
    | ok w st1 =>
      rw [e] at q
      simp only [Res.bind_ok] at q ⊢
      cases e2 : truthW w st1 with
      | ok k st2 =>
        rw [e2] at q
        simp only [Res.bind_ok] at q
        have es : st2 = st1 := by
          unfold truthW at e2
          cases o : (peek w st1).bind truthD with
          | none => rw [o] at e2; cases e2
          | some k' => rw [o] at e2; cases e2; rfl
        subst es
        cases k with
        | true =>
          simp only [if_true, Res.bind_ok, e2] at q
          refine wp_mk ?_
          simp only [if_true]
          exact q
        | false =>
          simp only [Bool.false_eq_true, if_false] at q
          refine wp_mk ?_
          simp only [Bool.false_eq_true, if_false]
          exact q
      | exc _ _ _ => rw [e2] at q; exact q.elim
      | bad => rw [e2] at q; exact q.elim
    | exc _ _ _ => rw [e] at q; exact q.elim
    | bad => rw [e] at q; exact q.elim
  refine rd_step hl hw q1 fun k st1 v H1 as1 p po l r => ?_
  subst r
  cases v with
  | false =>
    rw [if_neg Bool.false_ne_true] at p ⊢
    exact rd_step l po.wld p fun w st2 v H2 as2 p2 po2 l2 r2 => p2 v H2 as2 (po.trans po2) r2
  | true =>
    rw [if_pos rfl] at p ⊢
    exact p _ H1 as1 po rfl
/-- list(range(..)) -/
theorem rg_rel {H : Hp} {Z : Addr → Prop} (a : Int) : ∀ n : Nat, RelAll K H Z (rangeL a 1 n) ((List.range n).map fun i => V.int (a + (i : Nat)))
  | 0 => .nil
  | n + 1 => by
    rw [List.range_succ_eq_map, List.map_cons, List.map_map]
    have h := rg_rel (H := H) (Z := Z) (a + 1) n
    have e : (fun i : Nat => V.int (a + 1 + (i : Nat))) = ((fun i : Nat => V.int (a + (i : Nat))) ∘ Nat.succ) := by
      funext i
      show V.int _ = V.int _
      congr 1
      push_cast
      omega
    rw [e] at h
    exact .cons (by simpa using Rel.int a) h
theorem small_rg {i j : Int} (hi : smallB i = true) (hj : smallB j = true) : RgOk i j := by
  simp only [smallB, Bool.and_eq_true, decide_eq_true_eq] at hi hj
  exact ⟨by omega, by omega, by omega, by omega, by omega⟩
theorem lof1_read {a : E} (σV : L2.St) (H : Hp) (Q : VK) (h : tE K Φ G (.lof (.r1 a)) σV H Q) : tLstRg (tRg1 (tE K Φ G a)) σV H Q := by
  obtain ⟨R, σ, st, as, hl, hw, q⟩ := h
  rw [ev, evI] at q
  unfold tLstRg tRg1
  refine rd_step hl hw (wp_bind (wp_bind q)) fun x st1 v H1 as1 p po l r => ?_
  split at p
  · rename_i j
    obtain rfl := relW_int r
    split at p
    · rename_i hj
      refine ⟨j, rfl, small_rg (by decide +kernel) hj, fun q hq => ?_⟩
      have hr := rg_rel (K := K) (H := H1) (Z := Zof st1 as1 R) 0 j.toNat
      have e : rgV 0 j = (List.range j.toNat).map fun i => V.int (0 + (i : Nat)) := by unfold rgV; rw [Int.sub_zero]
      rw [e]
      exact (ans_of po p).lst po.wld hr q hq
    · exact p.elim
  · exact p.elim
theorem lof2_read {a b : E} (σV : L2.St) (H : Hp) (Q : VK) (h : tE K Φ G (.lof (.r2 a b)) σV H Q) : tLstRg (tRg2 (tE K Φ G a) (tE K Φ G b)) σV H Q := by
  obtain ⟨R, σ, st, as, hl, hw, q⟩ := h
  rw [ev, evI] at q
  unfold tLstRg tRg2
  refine rd_step hl hw (wp_bind (wp_bind q)) fun x st1 v H1 as1 p po l r => ?_
  refine rd_step l po.wld (wp_bind p) fun y st2 u H2 as2 p2 po2 l2 r2 => ?_
  split at p2
  · rename_i i j
    obtain rfl := relW_int r
    obtain rfl := relW_int r2
    split at p2
    · rename_i hij
      rw [Bool.and_eq_true] at hij
      refine ⟨i, j, rfl, rfl, small_rg hij.1 hij.2, fun q hq => ?_⟩
      exact (ans_of (po.trans po2) p2).lst po2.wld (rg_rel i _) q hq
    · exact p2.elim
  · exact p2.elim
theorem oYes_read {e : E} (σV : L2.St) (H : Hp) (Q : Option Int → Hp → Prop) (h : tO K Φ G (.yes e) σV H Q) : tPart (tE K Φ G e) σV H Q := by
  obtain ⟨R, σ, st, as, hl, hw, q⟩ := h
  rw [evO] at q
  refine rd_step hl hw (wp_bind q) fun w st1 v H1 as1 p po l r => ?_
  split at p
  · rename_i i
    obtain rfl := relW_int r
    exact ⟨i, rfl, p _ H1 as1 po rfl⟩
  · exact p.elim
theorem oNo_read (σV : L2.St) (H : Hp) (Q : Option Int → Hp → Prop) (h : tO K Φ G .no σV H Q) : tNoPart σV H Q := by
  obtain ⟨R, σ, st, as, hl, hw, q⟩ := h
  rw [evO] at q
  exact q _ H as (.refl hw) rfl
theorem ifYes_read {e : E} (σV : L2.St) (H : Hp) (Q : Bool → Hp → Prop) (h : TB.tIf K Φ G (.yes e) σV H Q) : tT K Φ G e σV H Q := by
  obtain ⟨R, σ, st, as, hl, hw, q⟩ := h
  rw [evC] at q
  exact ⟨R, σ, st, as, hl, hw, q⟩
theorem ifNo_read (σV : L2.St) (H : Hp) (Q : Bool → Hp → Prop) (h : TB.tIf K Φ G .no σV H Q) : tYes σV H Q := by
  obtain ⟨R, σ, st, as, hl, hw, q⟩ := h
  rw [evC] at q
  exact q _ H as (.refl hw) rfl
/-! what is walked -/
theorem seq_read {e : E} (σV : L2.St) (H : Hp) (RR : It → Hp → Prop) (h : tI K Φ G (.e e) σV H RR) : iSeq K (fun σ H Q => tE K Φ G e σ H fun v H1 => Bnd K H1 v → Q v H1) σV H RR := by
  obtain ⟨R, σ, st, as, hl, hw, q⟩ := h
  rw [evI] at q
  refine rd_step hl hw (wp_bind q) fun w st1 v H1 as1 p po l r => fun hb => ?_
  obtain ⟨d, st2, p2, po2, r2⟩ := val_of po.wld r (wp_bind p)
  obtain ⟨xs, hx, q⟩ := wp_ofO p2
  cases d <;> simp only [seqD] at hx <;> try (cases hx; done)
  · split at hx
    · rename_i z hl
      cases hx
      cases r2
      exact .inr ⟨_, rfl, q _ H1 as1 (po.trans po2) (yl_str (lim_line hl))⟩
    · cases hx
  · cases hx
    cases r2 with
    | lst h1 h2 =>
      exact .inl ⟨_, rfl, .inl ⟨⟨_, h1.sq.sq⟩, q _ H1 as1 (po.trans po2) (yl_list h1 h2 (hb _ _ rfl (.inl h1.sq.sq)))⟩⟩
  · cases hx
    cases r2 with
    | tup h1 h2 =>
      exact .inl ⟨_, rfl, .inr ⟨⟨_, h1.sq⟩, q _ H1 as1 (po.trans po2) (yl_tup h1 h2 (hb _ _ rfl (.inr h1.sq)))⟩⟩
theorem small_of {i : Int} (h : smallB i = true) : -(2 ^ 62) ≤ i ∧ i < 2 ^ 62 := by
  simp only [smallB, Bool.and_eq_true, decide_eq_true_eq] at h
  omega
theorem sizeL : (10000000 : Nat) ≤ sizeLine := by rw [sizeLine_eq]; decide
theorem r1_read {a : E} (σV : L2.St) (H : Hp) (RR : It → Hp → Prop) (h : tI K Φ G (.r1 a) σV H RR) : tE K Φ G a σV H fun v H1 => ∃ j : Int, [v] = [V.int j] ∧ -(2 ^ 62) ≤ j ∧ j < 2 ^ 62 ∧ RR (Itr 0 j.toNat) H1 := by
  obtain ⟨R, σ, st, as, hl, hw, q⟩ := h
  rw [evI] at q
  refine rd_step hl hw (wp_bind q) fun w st1 v H1 as1 p po l r => ?_
  split at p
  · rename_i j
    obtain rfl := relW_int r
    split at p
    · rename_i hj
      have hs := small_of hj
      simp only [smallB, Bool.and_eq_true, decide_eq_true_eq] at hj
      exact ⟨j, rfl, hs.1, hs.2, p _ H1 as1 po (yl_range (Nat.le_trans (by omega) sizeL))⟩
    · exact p.elim
  · exact p.elim
theorem r2_read {a b : E} (σV : L2.St) (H : Hp) (RR : It → Hp → Prop) (h : tI K Φ G (.r2 a b) σV H RR) : tE K Φ G a σV H fun v H1 => tE K Φ G b σV H1 fun u H2 => ∃ i j : Int, [v, u] = [V.int i, V.int j] ∧ (-(2 ^ 62) ≤ i ∧ i < 2 ^ 62 ∧ -(2 ^ 62) ≤ j ∧ j < 2 ^ 62) ∧ RR (Itr i (j - i).toNat) H2 := by
  obtain ⟨R, σ, st, as, hl, hw, q⟩ := h
  rw [evI] at q
  refine rd_step hl hw (wp_bind q) fun w st1 v H1 as1 p po l r => ?_
  refine rd_step l po.wld (wp_bind p) fun w2 st2 v2 H2 as2 p2 po2 l2 r2 => ?_
  split at p2
  · rename_i i j
    obtain rfl := relW_int r
    obtain rfl := relW_int r2
    split at p2
    · rename_i hj
      rw [Bool.and_eq_true] at hj
      have hs := small_of hj.1
      have hs2 := small_of hj.2
      simp only [smallB, Bool.and_eq_true, decide_eq_true_eq] at hj
      exact ⟨i, j, rfl, ⟨hs.1, hs.2, hs2.1, hs2.2⟩, p2 _ H2 as2 (po.trans po2) (yl_range (Nat.le_trans (by omega) sizeL))⟩
    · exact p2.elim
  · exact p2.elim
theorem r3_read {a b c : E} (σV : L2.St) (H : Hp) (RR : It → Hp → Prop) (h : tI K Φ G (.r3 a b c) σV H RR) : tE K Φ G a σV H fun v H1 => tE K Φ G b σV H1 fun u H2 => tE K Φ G c σV H2 fun t H3 => ∃ (i j c : Int) (n : Nat), [v, u, t] = [V.int i, V.int j, V.int c] ∧ RgC i j c n ∧ RR (Itc i c n) H3 := by
  obtain ⟨R, σ, st, as, hl, hw, q⟩ := h
  rw [evI] at q
  refine rd_step hl hw (wp_bind q) fun w st1 v H1 as1 p po l r => ?_
  refine rd_step l po.wld (wp_bind p) fun w2 st2 v2 H2 as2 p2 po2 l2 r2 => ?_
  refine rd_step l2 po2.wld (wp_bind p2) fun w3 st3 v3 H3 as3 p3 po3 l3 r3 => ?_
  split at p3
  · rename_i i j k
    obtain rfl := relW_int r
    obtain rfl := relW_int r2
    obtain rfl := relW_int r3
    split at p3
    · rename_i hj
      rw [Bool.and_eq_true, Bool.and_eq_true, decide_eq_true_eq] at hj
      obtain ⟨⟨hi, hj⟩, rfl⟩ := hj
      have hs := small_of hi
      have hs2 := small_of hj
      simp only [smallB, Bool.and_eq_true, decide_eq_true_eq] at hi hj
      exact ⟨i, j, -1, _, rfl, .neg hs.1 hs.2 hs2.1 hs2.2, p3 _ H3 as3 ((po.trans po2).trans po3) (yl_rangeC (Nat.le_trans (by omega) sizeL))⟩
    · exact p3.elim
  · exact p3.elim
theorem z2_read {a b : E} (σV : L2.St) (H : Hp) (RR : It → Hp → Prop) (h : tI K Φ G (.z2 a b) σV H RR) : tE K Φ G a σV H fun v H1 => Bnd K H1 v → tE K Φ G b σV H1 fun u H2 =>
    ∃ p p' xs ys, [v, u] = [V.ref p, V.ref p'] ∧ ((SqL K H2 p xs ∧ SqL K H2 p' ys ∧ RR (Itz K p p') H2) ∨ (SqT K H2 p xs ∧ SqT K H2 p' ys ∧ RR (RZ.ItzT K p p') H2)) := by
  obtain ⟨R, σ, st, as, hl, hw, q⟩ := h
  rw [evI] at q
  refine rd_step hl hw (wp_bind q) fun w st1 v H1 as1 p po l r => fun hb => ?_
  obtain ⟨d, st2, p2, po2, r2⟩ := val_of po.wld r (wp_bind p)
  refine rd_step (l.grow po2.grow po2.ext) po2.wld (wp_bind p2) fun w3 st3 v3 H3 as3 p3 po3 l3 r3 => ?_
  obtain ⟨e, st4, p4, po4, r4⟩ := val_of po3.wld r3 (wp_bind p3)
  obtain ⟨xs, hx, q⟩ := wp_ofO p4
  have pp := ((po.trans po2).trans po3).trans po4
  have r2' := r2.grow (po3.grow.trans po4.grow)
  cases d <;> cases e <;> simp only [zipD] at hx <;> try (cases hx; done)
  all_goals cases hx
  · cases r2 with
    | lst s1 s2 =>
      have hz := hb _ _ rfl (.inl s1.sq.sq)
      cases r4 with
      | lst h1' h2' =>
        have g := po3.grow.trans po4.grow
        exact ⟨_, _, _, _, rfl, .inl ⟨(s1.grow g).sq.sq, h1'.sq.sq, q _ H3 as3 pp (yl_zip (s1.grow g) (s2.grow g) h1' h2' hz)⟩⟩
  · cases r2 with
    | tup s1 s2 =>
      have hz := hb _ _ rfl (.inr s1.sq)
      cases r4 with
      | tup h1' h2' =>
        have g := po3.grow.trans po4.grow
        exact ⟨_, _, _, _, rfl, .inr ⟨(s1.grow g).sq, h1'.sq, q _ H3 as3 pp (yl_zipT (s1.grow g) (s2.grow g) h1' h2' hz)⟩⟩
end
end TB
set_option maxRecDepth 100000
set_option maxHeartbeats 1000000
/-! TBEnum: enumerate(v), v a tuple. -/
namespace TB
open PySem PySem.Spec PyProof.Rows L2
/-- the iterator of a tuple, as it begins -/
abbrev tupIt (t : Addr) : Obj := { cls := .type "tuple_iterator", data := .fields #[.ref t, .int 0 0] }
abbrev enumOb (h : Heap) : Obj := { cls := .type "enumerate", data := .fields #[.none, .bool false, .ref h.objs.size, rawInt 0, .none, .none] }
theorem meets_enumT (t : Addr) (items : Array Value) :
    Meets (Builtin.«enumerate.__new__» ⟨[.type "enumerate", .ref t], []⟩) (fun _ R s => s.heap.IsTuple t items ∧ R (.ok (.ret (.ref (s.heap.push (tupIt t)).objs.size))) { s with heap := (s.heap.push (tupIt t)).push (enumOb s.heap) }) :=
  .of_wp fun prog w A R s h => by
    obtain ⟨hp, g, d, tk, os⟩ := s
    obtain ⟨ht, h⟩ := h
    have sb := sub_enumerate
    have pit : ∀ {A' : Around} {E : Value → Shared → Prop} {Q : Value → Shared → Prop}, Q (.ref hp.objs.size) ⟨hp.push (tupIt t), g, d, tk, os⟩ → wpAny (model prog w) A' (pyIter (.ref t)) Q E ⟨hp, g, d, tk, os⟩ := fun q => wpAny_pyIter_tuple ht q
    wp_walk using pit
    refine wpAny_stack_any fun sk => wpAny_pure ?_
    split
    case h_1 c _ _ _ _ _ =>
      cases (c == Value.type "enumerate") <;> (wp_walk using pit; exact ⟨_, rfl, h⟩)
    all_goals (wp_walk using pit; exact ⟨_, rfl, h⟩)
section
variable {prog : Program} {w : World} {A : Around} {E : Value → Shared → Prop} {s : Shared}
theorem call_enumT {t : Addr} {items : Array Value} {Q : Value → Shared → Prop} (ht : s.heap.IsTuple t items)
    (h : ∀ h', IsEnum h' (s.heap.objs.size + 1) s.heap.objs.size 0 .none → h'.IsTupleIter s.heap.objs.size t 0 → (∀ b o, s.heap.get? b = some o → h'.get? b = some o) → Q (.ref (s.heap.objs.size + 1)) { s with heap := h' }) :
    wpAny (model prog w) A (call (.type "enumerate") [.ref t]) Q E s := by
  have z : (s.heap.push (tupIt t)).objs.size = s.heap.objs.size + 1 := Heap.size_push ..
  have en : ((s.heap.push (tupIt t)).push (enumOb s.heap)).get? (s.heap.objs.size + 1) = some (enumOb s.heap) := z ▸ Heap.get?_push_size (s.heap.push (tupIt t)) (o := enumOb s.heap) rfl
  refine callType_new F.called_enumerate (by decide) (F.typeCall_enumerate_1 _) (F.newCall_enumerate_1 _) (fun obj => F.args_object_init_2 obj _) F.entry_enumerate_new (meets_enumT t items) ⟨ht, ?_⟩
  show _ ∧ _
  rw [z]
  exact ⟨⟨_, en, rfl⟩, h _ en ⟨_, Heap.get?_push_of_some _ (Heap.get?_push_size _ rfl), rfl, rfl⟩ fun b o x => Heap.get?_push_of_some _ (Heap.get?_push_of_some _ x)⟩
end
/-- the tuple at a, each item in a new pair -/
def IteT (K : PySem.W.Frag) (a : Addr) : It where
  go i H := ∃ (xs : List V) (x : V), SqT K H a xs ∧ xs[i]? = some x
  yld i H v H' := ∃ T x, v = .ref T ∧ H T = none ∧ H' = upd H T (.tup [.int (i : Nat), x]) ∧ ∀ xs, SqT K H a xs → xs[i]? = some x
  stop i H := ∃ xs : List V, SqT K H a xs ∧ xs.length = i
/-- an enumerate object e over an iterator it of a tuple a, at the place i -/
structure EnT (a e it : Addr) (i : Nat) (h : Heap) : Prop where
  en : ∃ old, IsEnum h e it ((i : Nat) : Int) old
  at_ : h.IsTupleIter it a i
  ei : e ≠ it
  ai : a ≠ it
  ea : e ≠ a
theorem two_of {b e it : Addr} (h : b ∈ [e, it]) : b = e ∨ b = it := by simpa using h
theorem turn_enumT {P : Program} {w : World} {K : PySem.W.Frag} {elts : List Expr} {kk : Nat} {tpos : Pos} (a e it : Addr) : Turn P w K (.Tuple elts kk tpos) (IteT K a) [e, it] e (EnT a e it) where
  mem := List.mem_cons_self ..
  obj i h n b hb := by
    rcases two_of hb with rfl | rfl
    · obtain ⟨_, q⟩ := n.en
      exact ⟨_, q, fun _ z => nomatch z⟩
    · obtain ⟨o, q, _, d⟩ := n.at_
      exact ⟨o, q, fun _ z => by rw [d] at z; cases z⟩
  keep i h h' n k := ⟨n.en.imp fun _ q => k e (by simp) _ q, n.at_.at fun o q => k it (by simp) o q, n.ei, n.ai, n.ea⟩
  item := by
    intro X hP hw hK hc i pins s σ H E I fp n hg
    subst hP hw hK
    obtain ⟨xs, x, hq, hx⟩ := hg
    obtain ⟨its, rv, p, _⟩ := I.tuple hq
    obtain ⟨old, en⟩ := n.en
    have ld : X.A.in1.handled = none := I.ok.hd hc
    have D := Draws.tuple (prog := X.prog) (w := X.w) ld it a n.ai its.toArray
    obtain ⟨u0, hu0, ru0⟩ := rv.get hx
    have lt : i < its.toArray.size := by
      rw [List.size_toArray]
      exact (List.getElem?_eq_some_iff.mp hu0).1
    have le : e < s.heap.objs.size := Heap.lt_size en
    have li : it < s.heap.objs.size := by
      obtain ⟨_, q, _⟩ := n.at_
      exact Heap.lt_size q
    refine wpAny_pyNext_enum_itemD D en ⟨n.at_, p⟩ lt n.ei (by simp [n.ei, n.ea]) fun u h1 tk hu out st hT hz hk => ?_
    have ru : RelV x u := by
      have : its[i]? = some u := by simpa using hu
      rw [hu0] at this
      cases this
      exact ru0
    refine ⟨_, rfl, wpAny_letOwnedTupleGo_enum (s := { s with heap := h1, toks := tk + 1 }) out fun h2 en2 sb => ?_⟩
    have hT2 : h2.get? s.heap.objs.size = some { cls := .type "tuple", data := .seq #[.int i tk, u] } := (sb.2 _ (Nat.ne_of_gt le)).trans hT
    have I2 : Inv X pins σ (upd H s.heap.objs.size (.tup [.int (i : Nat), x])) { s with heap := h2, toks := tk + 1 } := by
      refine I.turnedNew (ch := [e, it]) (fun b ob hb q => ?_) fp (Nat.le_refl _) ⟨by show 2 ≤ sizeLine; decide, [.int i tk, u], .cons ⟨_, rfl⟩ (.cons ru .nil), ⟨_, hT2, rfl, _, rfl⟩⟩
      have b1 : b ≠ e := fun z => hb (by simp [z])
      have b2 : b ≠ it := fun z => hb (by simp [z])
      exact (sb.2 b b1).trans (hk b ob b1 b2 q)
    refine ⟨.ref s.heap.objs.size, _, I2, rfl, ⟨_, x, rfl, I.hok.fresh (Nat.le_refl _), rfl, fun ys hy => by rw [I.tuple_inj hy hq]; exact hx⟩, ⟨⟨u, ?_⟩, st.1.at fun o q => (sb.2 it (Ne.symm n.ei)).trans q, n.ei, n.ai, n.ea⟩, fun b hb => ?_⟩
    · rw [show ((i + 1 : Nat) : Int) = (i : Int) + 1 from by omega]
      exact en2
    · have lb : b < s.heap.objs.size := by
        rcases two_of hb with rfl | rfl
        · exact le
        · exact li
      rw [upd_ne (Nat.ne_of_lt lb)]
      exact (fp b hb).1
  done := by
    intro X hP hw hK hc i pins s σ H E I fp n hg
    subst hP hw hK
    obtain ⟨xs, hq, rfl⟩ := hg
    obtain ⟨its, rv, p, _⟩ := I.tuple hq
    obtain ⟨old, en⟩ := n.en
    have ld : X.A.in1.handled = none := I.ok.hd hc
    have D := Draws.tuple (prog := X.prog) (w := X.w) ld it a n.ai its.toArray
    have sz : its.toArray.size = xs.length := by rw [List.size_toArray, rv.length]
    obtain ⟨f0, f1, f2, f3, f4, f5⟩ := fp it (by simp)
    refine wpAny_pyNext_enum_endD D en (sz ▸ ⟨n.at_, p⟩) fun h1 eb => ⟨rfl, ?_⟩
    exact I.turned (t' := s.toks) (fun b o hb q => eb b o hb q) f0 f1 f3 f4 f5
  self A i s Q E n h := by
    obtain ⟨_, q⟩ := n.en
    exact wpAny_pyIter_enum q h
/-- enumerate of a list or of a tuple -/
def iEnumX (K : PySem.W.Frag) (ta : TA) : TI := fun σ H R => ta σ H fun vs H1 => ∃ a xs, vs = [.ref a] ∧ ((SqL K H1 a xs ∧ R (Ite K a) H1) ∨ (SqT K H1 a xs ∧ R (IteT K a) H1))
theorem pi_enumX {X : Cx} {e : Expr} {ta : TA} {p pos tpos : Pos} {elts : List Expr} {kk : Nat} (hg : Gl X "enumerate") (hm : X.mg "enumerate" = none) (ha : PA X [e] ta) (hs : starEach [e] X.env = [(false, eval e X.env)] := by rfl) :
    PI X (.Tuple elts kk tpos) (.Call (.Name "enumerate" p) [e] [] pos) (iEnumX X.K ta) := by
  refine ⟨fun pins s σ H R I h => Call_ (ld_blt I hg hm boot_enumerate (PyProof.Rows.callWith_type1 (thn (ha.run pos pins s σ H _ I h) fun us s1 ⟨vs, H1, I1, r1, q1⟩ => ?_) hs rfl))⟩
  obtain ⟨a, xs, rfl, q⟩ := q1
  rw [Vals.ref1 r1]
  have two : ∀ b ∈ [s1.heap.objs.size + 1, s1.heap.objs.size], s1.heap.objs.size ≤ b := fun b hb => by
    rcases two_of hb with rfl | rfl
    · exact Nat.le_succ _
    · exact Nat.le_refl _
  have fre : ∀ b ∈ [s1.heap.objs.size + 1, s1.heap.objs.size], FpOk X pins H1 b := fun b hb => I1.fpOk (two b hb) (I1.hok.fresh (two b hb))
  rcases q with ⟨hq, q⟩ | ⟨hq, q⟩
  · obtain ⟨its, rv, p', _⟩ := I1.list hq
    exact call_enumerate_list p'.isList fun h' en at_ hz hk => wpAny_pyIter_enum en ⟨_, _, _, _, H1, rfl, I1.kept (t' := s1.toks) hk, turn_enum a _ _, ⟨⟨.none, en⟩, at_, Nat.succ_ne_self _⟩, fre, q⟩
  · obtain ⟨its, rv, p', _⟩ := I1.tuple hq
    have la : a < s1.heap.objs.size := by
      obtain ⟨_, z, _⟩ := p'
      exact Heap.lt_size z
    exact call_enumT p' fun h' en at_ hk => wpAny_pyIter_enum en ⟨_, _, _, _, H1, rfl, I1.kept (t' := s1.toks) hk, turn_enumT a _ _, ⟨⟨.none, en⟩, at_, Nat.succ_ne_self _, Nat.ne_of_lt la, Nat.ne_of_gt (Nat.lt_succ_of_lt la)⟩, fre, q⟩
section
variable {K : PySem.W.Frag} {H : Hp} {Z : Addr → Prop}
theorem yl_enumT {a : Addr} {vs : List V} {ds : List D} (h : StT H Z a vs) (r : RelAll K H Z ds vs) (hb : vs.length ≤ sizeLine) : Yl K (IteT K a) (enumL 0 ds) H Z := by
  have el : (enumL 0 ds).length = vs.length := by rw [enumL_len, r.length]
  refine ⟨el ▸ hb, fun H2 Z2 g i hi => ?_, fun H2 Z2 g => ⟨vs, (h.grow g).sq, el.symm⟩, fun H2 Z2 g hz i x H3 hi hy => ?_⟩
  · exact ⟨vs, vs[i]'(by omega), (h.grow g).sq, List.getElem?_eq_getElem _⟩
  · obtain ⟨T, z, rfl, hT, rfl, hy⟩ := hy
    rw [enumL_len] at hi
    have at_ := List.getElem?_eq_getElem (l := ds) hi
    obtain ⟨v, hv, rv⟩ := (r.grow g).get at_
    obtain rfl : v = z := Option.some.inj (hv.symm.trans (hy vs (h.grow g).sq))
    have en := enumL_get ds 0 i _ at_
    rw [Nat.zero_add] at en
    exact ⟨.inr ⟨T, _, hT, rfl⟩, _, en, grows_pair hz hT (.int _) rv⟩
end
section
variable {K : PySem.W.Frag} {Φ : Nat → List W → Sto → Res W} {G : List D}
theorem en_read {a : E} (σV : L2.St) (H : Hp) (RR : It → Hp → Prop) (h : tI K Φ G (.en a) σV H RR) : tE K Φ G a σV H fun v H1 => Bnd K H1 v → ∃ p xs, [v] = [V.ref p] ∧ ((SqL K H1 p xs ∧ RR (Ite K p) H1) ∨ (SqT K H1 p xs ∧ RR (IteT K p) H1)) := by
  obtain ⟨R, σ, st, as, hl, hw, q⟩ := h
  rw [evI] at q
  refine rd_step hl hw (wp_bind q) fun w st1 v H1 as1 p po l r => fun hb => ?_
  obtain ⟨d, st2, p2, po2, r2⟩ := val_of po.wld r (wp_bind p)
  obtain ⟨xs, hx, q⟩ := wp_ofO p2
  cases d <;> simp only [listD] at hx <;> try (cases hx; done)
  all_goals cases hx
  · cases r2 with
    | lst h1 h2 => exact ⟨_, _, rfl, .inl ⟨h1.sq.sq, q _ H1 as1 (po.trans po2) (yl_enum h1 h2 (hb _ _ rfl (.inl h1.sq.sq)))⟩⟩
  · cases r2 with
    | tup h1 h2 => exact ⟨_, _, rfl, .inr ⟨h1.sq, q _ H1 as1 (po.trans po2) (yl_enumT h1 h2 (hb _ _ rfl (.inr h1.sq)))⟩⟩
end
end TB
set_option maxRecDepth 100000
set_option maxHeartbeats 1000000
/-! TBNew: more methods: get of dicts, pop and remove of lists; walks over constants. -/
namespace TB
open PySem PySem.Spec PyProof.Rows L2
section
variable {K : PySem.W.Frag} {R : Addr → Prop} {st : Sto} {as : As} {H : Hp} {Z : Addr → Prop}
theorem post_write (w : Wld K H R st as) {i : Nat} {ob ob' : Ob} {a : Addr} {qs : List Addr} {o : HO} (h1 : st[i]? = some ob) (h2 : as[i]? = some (a, qs)) (l : ob.live = true) (l' : ob'.live = true)
    (new : Slot K (upd H a o) (Zof st as R) ob' a qs) : Post K R H st as (st.set i ob') (upd H a o) as := by
  obtain ⟨w', g⟩ := w.write h1 h2 l l' new
  refine ⟨w', g, ⟨[], by simp⟩, fun q hq => upd_ne fun z => ?_⟩
  subst z
  exact (w.res _ hq).2 ⟨i, ob, _, qs, h1, l, h2, .inl rfl⟩
theorem atVar_of {σ : Ev} {i a : Nat} (h : atVar σ i = some a) : σ[i]? = some (some (.r a)) := by
  unfold atVar at h
  split at h
  · rename_i b e
    cases h
    exact e
  · cases h
theorem lstAt_of {σ : Ev} {i a : Nat} {st : Sto} (h : lstAt σ i st = some a) : σ[i]? = some (some (.r a)) ∧ ∃ xs, st[a]? = some (.lst xs) := by
  unfold lstAt at h
  rw [Option.bind_eq_some_iff] at h
  obtain ⟨b, hb, h⟩ := h
  split at h
  · rename_i xs e
    cases h
    exact ⟨atVar_of hb, xs, e⟩
  · cases h
end
/-! ### get -/
def rGetD (K : PySem.W.Frag) : V → List V → Hp → VK → Prop := fun x xs H Q => ∃ R st as es k y, Wld K H R st as ∧ Pk K H (Zof st as R) (.dict es) x ∧ Pk K H (Zof st as R) k y ∧ keysOk es k = true ∧
  ((xs = [y] ∧ Ans K R st as H ((lookD es k).getD .none) Q) ∨ ∃ z e, xs = [y, z] ∧ Rel K H (Zof st as R) e z ∧ Ans K R st as H ((lookD es k).getD e) Q)
theorem Found.dflt {K : PySem.W.Frag} {H : Hp} {Z : Addr → Prop} {a : Option D} {b : Option V} {e : D} {z : V} (f : Found K H Z a b) (r : Rel K H Z e z) : Rel K H Z (a.getD e) (b.getD z) := by
  cases a <;> cases b
  · exact r
  · exact f.elim
  · exact f.elim
  · exact f
theorem mt_getD {X : Cx} (hu : X.A.units + 65 < cLine) : MtR X "dict.get" (rGetD X.K) := by
  rintro pins s σ H x xs v us Q I rx rxs ⟨R, st, as, es, k, y, w, p1, p2, c, h⟩
  obtain ⟨a, o, H2, rfl, J, back, g, f⟩ := look_of I p1 p2 c
  cases rx
  rcases h with ⟨rfl, q⟩ | ⟨z, e, rfl, rz, q⟩
  · obtain ⟨u, rfl, ru⟩ := Vals.one rxs
    exact d_get1 (by omega) J g ru fun w' s' J' rw' => ⟨_, H, back s' J', rw', q.is w (f.dflt .non)⟩
  · obtain ⟨u, u2, rfl, ru, ru2⟩ := Vals.two rxs
    exact d_get2 (by omega) J g ru ru2 fun w' s' J' rw' => ⟨_, H, back s' J', rw', q.is w (f.dflt rz)⟩
theorem Pk.tyD {K : PySem.W.Frag} {H : Hp} {Z : Addr → Prop} {es : List (D × D)} {v : V} (h : Pk K H Z (.dict es) v) : tyV K "dict" v H := by
  obtain ⟨a, rfl, ⟨kvs, e, _⟩ | ⟨kvs, e, _⟩⟩ := h.dict
  · exact .inr (.inr (.inl ⟨rfl, .inl ⟨kvs, e⟩⟩))
  · exact .inr (.inr (.inl ⟨rfl, .inr ⟨kvs, e⟩⟩))
theorem isDict_of {d : D} (h : meTy .get d = some ()) : ∃ es, d = .dict es := by
  cases d <;> simp only [meTy] at h <;> try (cases h; done)
  exact ⟨_, rfl⟩
section
variable {K : PySem.W.Frag} {Φ : Nat → List W → Sto → Res W} {G : List D}
theorem meD_get {d : D} {k r : D} (h : meD .get d [k] = some r) : ∃ es, d = .dict es ∧ keysOk es k = true ∧ r = (lookD es k).getD .none := by
  cases d <;> simp only [meD] at h <;> try (cases h; done)
  split at h
  · rename_i c
    cases h
    exact ⟨_, rfl, c, rfl⟩
  · cases h
theorem meD_get2 {d : D} {k e r : D} (h : meD .get d [k, e] = some r) : ∃ es, d = .dict es ∧ keysOk es k = true ∧ r = (lookD es k).getD e := by
  cases d <;> simp only [meD] at h <;> try (cases h; done)
  split at h
  · rename_i c
    cases h
    exact ⟨_, rfl, c, rfl⟩
  · cases h
theorem get1_read {o k : E} (σV : L2.St) (H : Hp) (Q : VK) (h : tE K Φ G (.get1 o k) σV H Q) : tBM K "dict" (rGetD K) (tE K Φ G o) (tCons (tE K Φ G k) tNil) σV H Q := by
  obtain ⟨R, σ, st, as, hl, hw, q⟩ := h
  rw [ev] at q
  refine rd_step hl hw (wp_bind q) fun w st1 v H1 as1 p po l r => ?_
  obtain ⟨_, hty, p⟩ := wp_ofO (wp_bind p)
  rw [Option.bind_eq_some_iff] at hty
  obtain ⟨d0, hd0, ht⟩ := hty
  obtain ⟨es0, rfl⟩ := isDict_of ht
  refine ⟨(pk_of po.wld r hd0).tyD, ?_⟩
  refine rd_step l po.wld (wp_bind p) fun w2 st2 v2 H2 as2 p2 po2 l2 r2 => ?_
  obtain ⟨x, hx, q⟩ := wp_ofO p2
  rw [Option.bind_eq_some_iff] at hx
  obtain ⟨d, hd, hx⟩ := hx
  rw [Option.bind_eq_some_iff] at hx
  obtain ⟨e, he, hx⟩ := hx
  rw [Option.map_eq_some_iff] at hx
  obtain ⟨z, hz, rfl⟩ := hx
  obtain ⟨es, rfl, c, rfl⟩ := meD_get hz
  exact ⟨R, st2, as2, es, e, v2, po2.wld, pk_of po2.wld (r.grow po2.grow po2.ext) hd, pk_of po2.wld r2 he, c, .inl ⟨rfl, ans_of (po.trans po2) q⟩⟩
theorem get2_read {o k e : E} (σV : L2.St) (H : Hp) (Q : VK) (h : tE K Φ G (.get2 o k e) σV H Q) : tBM K "dict" (rGetD K) (tE K Φ G o) (tCons (tE K Φ G k) (tCons (tE K Φ G e) tNil)) σV H Q := by
  obtain ⟨R, σ, st, as, hl, hw, q⟩ := h
  rw [ev] at q
  refine rd_step hl hw (wp_bind q) fun w st1 v H1 as1 p po l r => ?_
  obtain ⟨_, hty, p⟩ := wp_ofO (wp_bind p)
  rw [Option.bind_eq_some_iff] at hty
  obtain ⟨d0, hd0, ht⟩ := hty
  obtain ⟨es0, rfl⟩ := isDict_of ht
  refine ⟨(pk_of po.wld r hd0).tyD, ?_⟩
  refine rd_step l po.wld (wp_bind p) fun w2 st2 v2 H2 as2 p2 po2 l2 r2 => ?_
  refine rd_step l2 po2.wld (wp_bind p2) fun w3 st3 v3 H3 as3 p3 po3 l3 r3 => ?_
  split at p3
  · rename_i e0
    obtain ⟨x, hx, q⟩ := wp_ofO p3
    rw [Option.bind_eq_some_iff] at hx
    obtain ⟨d, hd, hx⟩ := hx
    rw [Option.bind_eq_some_iff] at hx
    obtain ⟨k0, hk, hx⟩ := hx
    rw [Option.map_eq_some_iff] at hx
    obtain ⟨z, hz, rfl⟩ := hx
    obtain ⟨es, rfl, c, rfl⟩ := meD_get2 hz
    have po23 := po2.trans po3
    exact ⟨R, st3, as3, es, k0, v2, po3.wld, pk_of po3.wld (r.grow po23.grow po23.ext) hd, pk_of po3.wld (r2.grow po3.grow po3.ext) hk, c, .inr ⟨v3, e0, rfl, r3, ans_of (po.trans po23) q⟩⟩
  · exact p3.elim
/-! ### pop -/
theorem RelAll.dropL {H : Hp} {Z : Addr → Prop} {ds : List D} {vs : List V} (r : RelAll K H Z ds vs) : RelAll K H Z ds.dropLast vs.dropLast := by
  have e := r.length
  have := r.take (ds.length - 1)
  rw [List.dropLast_eq_take, List.dropLast_eq_take, ← e]
  exact this
theorem RelAll.erase {H : Hp} {Z : Addr → Prop} : ∀ {ds : List D} {vs : List V} (n : Nat), RelAll K H Z ds vs → RelAll K H Z (ds.eraseIdx n) (vs.eraseIdx n)
  | _, _, _, .nil => .nil
  | _, _, 0, .cons _ r => r
  | _, _, n + 1, .cons h r => .cons h (r.erase n)
theorem popSt_of {a : Nat} {i : Option Int} {st : Sto} {p : D × Sto} (h : popSt a i st = some p) : ∃ xs d ys, st[a]? = some (.lst xs) ∧ popAt xs i = some (d, ys) ∧ p = (d, st.set a (.lst ys)) := by
  unfold popSt at h
  split at h
  · rename_i xs e
    rw [Option.map_eq_some_iff] at h
    obtain ⟨⟨d, ys⟩, h1, h2⟩ := h
    exact ⟨xs, d, ys, e, h1, h2.symm⟩
  · cases h
theorem pop_read {j : Nat} (σV : L2.St) (H : Hp) (Q : VK) (h : tE K Φ G (.popv j .no) σV H Q) : tBM0 K "list" rPop (tE K Φ G (.var j)) σV H Q := by
  obtain ⟨R, σ, st, as, hl, hw, h⟩ := h
  rw [ev] at h
  obtain ⟨a, ha, h⟩ := wp_ofO (wp_bind h)
  obtain ⟨e1, xs, e2⟩ := lstAt_of ha
  refine ⟨R, σ, st, as, hl, hw, ?_⟩
  rw [ev, e1]
  rintro x H1 as1 po ⟨p, qs, ep, rfl⟩
  rw [evO, Res.bind_ok] at h
  obtain ⟨⟨d, st2⟩, h2, q⟩ := wp_ofO (wp_bind h)
  obtain ⟨xs', d', ys, e3, h3, h4⟩ := popSt_of h2
  cases h4
  rw [e2] at e3
  cases e3
  have sl := po.wld.slot a _ p qs e2 ep
  cases sl with
  | @lst _ vs _ e4 r4 =>
    simp only [popAt, Option.map_eq_some_iff] at h3
    obtain ⟨y, hy, h5⟩ := h3
    cases h5
    obtain ⟨v, hv, rv⟩ := r4.get hy
    rw [r4.length] at hv
    refine ⟨.inl ⟨rfl, vs, LsX.sq (.inl (.inl e4))⟩, p, vs, v, rfl, rfl, e4, hv, ?_⟩
    have hz : Zof st as1 R p := .inl ⟨a, _, p, _, e2, rfl, ep, .inl rfl⟩
    have po2 := post_write (o := .lst vs.dropLast) po.wld e2 ep rfl (ob' := .lst xs.dropLast) rfl (.lst upd_same (r4.dropL.grow (grows_mut hz)))
    exact q v _ as1 (po.trans po2) (rv.grow po2.grow)
theorem popi_read {j : Nat} {e : E} (σV : L2.St) (H : Hp) (Q : VK) (h : tE K Φ G (.popi j e) σV H Q) : tBM K "list" rPopAt (tE K Φ G (.var j)) (tCons (tE K Φ G e) tNil) σV H Q := by
  obtain ⟨R, σ, st, as, hl, hw, h⟩ := h
  rw [ev] at h
  obtain ⟨a, ha, h⟩ := wp_ofO (wp_bind h)
  obtain ⟨e1, xs, e2⟩ := lstAt_of ha
  refine ⟨R, σ, st, as, hl, hw, ?_⟩
  rw [ev, e1]
  rintro x H1 as1 po ⟨p, qs, ep, rfl⟩
  have sl := po.wld.slot a _ p qs e2 ep
  cases sl with
  | @lst _ vs _ e4 r4 =>
    refine ⟨.inl ⟨rfl, vs, LsX.sq (.inl (.inl e4))⟩, ?_⟩
    refine rd_step (hl.grow po.grow po.ext) po.wld (wp_bind h) fun w st2 y H2 as2 p2 po2 l2 r2 => ?_
    split at p2
    · rename_i i
      obtain rfl := relW_int r2
      obtain ⟨⟨d, st3⟩, h2, q⟩ := wp_ofO (wp_bind p2)
      obtain ⟨xs', d', ys, e3, h3, h4⟩ := popSt_of h2
      cases h4
      have ep2 : as2[a]? = some (p, []) := by
        obtain ⟨m, em⟩ := po2.ext
        rw [em, List.getElem?_append_left (List.getElem?_eq_some_iff.mp ep).1]; exact ep
      have sl := po2.wld.slot a _ p [] e3 ep2
      cases sl with
      | @lst _ vs' _ e5 r5 =>
        simp only [popAt] at h3
        split at h3
        · rename_i hn
          rw [Option.bind_eq_some_iff] at h3
          obtain ⟨k, hk, h3⟩ := h3
          rw [Option.map_eq_some_iff] at h3
          obtain ⟨y, hy, h5⟩ := h3
          cases h5
          obtain ⟨v, hv, rv⟩ := r5.get hy
          have hb : -(2 ^ 63) ≤ i ∧ i < 2 ^ 63 := by
            unfold placeOf at hk
            have hL : xs'.length ≤ 1000000 := hn
            split at hk
            · split at hk
              · omega
              · cases hk
            · split at hk
              · omega
              · cases hk
          rw [r5.length] at hk
          refine ⟨p, vs', i, k, v, rfl, rfl, e5, hb.1, hb.2, (L2.ixN_seq hk).1, hv, ?_⟩
          have hz : Zof st2 as2 R p := .inl ⟨a, _, p, _, e3, rfl, ep2, .inl rfl⟩
          have po3 := post_write (o := .lst (vs'.eraseIdx k)) po2.wld e3 ep2 rfl (ob' := .lst (xs'.eraseIdx k)) rfl (.lst upd_same ((r5.erase k).grow (grows_mut hz)))
          exact q v _ as2 ((po.trans po2).trans po3) (rv.grow po3.grow)
        · cases h3
    · exact p2.elim
/-- a new dict as an argument that the called one changes -/
theorem pld_read (σV : L2.St) (H : Hp) (Q : VK) (h : tE K Φ G .pld σV H Q) : tDNewK σV H Q := by
  obtain ⟨R, σ, st, as, hl, hw, q⟩ := h
  rw [ev] at q
  intro p hp
  have np : ¬ R p := fun z => by
    obtain ⟨⟨o, e⟩, _⟩ := hw.res p z
    rw [hp] at e; cases e
  have w1 := hw.allocR (o := .dK []) hp
  obtain ⟨w2, zE⟩ := w1.push np (ob := .dct []) rfl (.dK upd_same .nil)
  have g : Grows H (Zof st as R) (upd H p (.dK [])) (Zof (st ++ [Ob.dct []]) (as ++ [(p, [])]) R) := by
    rw [zE]
    exact grows_keep hp fun q z => by
      rcases z with z | z | z
      · exact .inl (.inl z)
      · exact .inl (.inr z)
      · exact .inr z
  refine q _ _ (as ++ [(p, [])]) ⟨w2, g, ⟨_, rfl⟩, fun q hq => upd_ne fun z => np (by rw [← z]; exact hq)⟩ ⟨p, [], ?_, rfl⟩
  rw [hw.len, List.getElem?_append_right (Nat.le_refl _)]
  simp
end
/-! ### remove, of data -/
def rRemD (K : PySem.W.Frag) : V → List V → Hp → VK → Prop := fun x xs H Q => ∃ (l : Addr) (vs : List V) (y : V) (d : D) (ds : List D) (j : Nat), x = .ref l ∧ xs = [y] ∧ H l = some (.lst vs) ∧ DpAll K H vs ds ∧ Dp K H y d ∧ SeqAt.shaped (.list ds) = true ∧ SeqAt.shaped d = true ∧
  indexD d ds 0 = some j ∧ Q .non (upd H l (.lst (vs.eraseIdx j)))
theorem indexD_at (d : D) : ∀ (ds : List D) (n j : Nat), indexD d ds n = some j → ∃ i z, j = n + i ∧ ds[i]? = some z ∧ PyData.eqv z d = true ∧ ∀ m z', m < i → ds[m]? = some z' → PyData.eqv z' d = false
  | [], n, j, h => by cases h
  | y :: ys, n, j, h => by
    rw [indexD] at h
    split at h
    · rename_i e
      cases h
      exact ⟨0, y, rfl, rfl, e, fun m z' hm => absurd hm (Nat.not_lt_zero m)⟩
    · rename_i e
      obtain ⟨i, z, rfl, h1, h2, h3⟩ := indexD_at d ys (n + 1) j h
      refine ⟨i + 1, z, by omega, by simpa using h1, h2, fun m z' hm hz => ?_⟩
      cases m with
      | zero =>
        simp at hz
        subst hz
        simpa using e
      | succ m => exact h3 m z' (by omega) (by simpa using hz)
theorem mt_remD {X : Cx} (hu : X.A.units + 65 < cLine) : MtR X "list.remove" (rRemD X.K) := by
  rintro pins s σ H x xs v us Q I rx rxs ⟨l, vs, y, d, ds, j, rfl, rfl, hH, ha, hy, sl, sd, hj, q⟩
  cases rx
  obtain ⟨u, rfl, ru⟩ := Vals.one rxs
  obtain ⟨bs, r1⟩ := Dp.reads I d y u hy ru
  have hxs : PyData.canLayAll0 ds = true := SeqAt.canLay_of_shaped sl
  have hroom : X.A.units + 1 + min (PyData.depthAll ds) d.depth < cLine := room_in_shaped sd hu
  obtain ⟨z, its, n, r, hl, e⟩ := I.lstM hH
  obtain ⟨as, h4⟩ := Dp.readsAll I ds _ its ha r
  have hmap : its.map (SeqAt.readOf s.heap) = ds := SeqAt.readsAll_map ds its as hxs h4
  obtain ⟨i, w, hi, h1, h2, h3⟩ := indexD_at d ds 0 j hj
  obtain rfl : j = i := by omega
  have hlen : its.length = ds.length := by rw [← hmap, List.length_map]
  have hjd : j < ds.length := (List.getElem?_eq_some_iff.mp h1).1
  have hjs : j < its.toArray.size := by rw [List.size_toArray]; omega
  have at_ : ∀ (m : Nat) (hm : m < its.toArray.size), ds[m]? = some (SeqAt.readOf s.heap its.toArray[m]) := fun m hm => by
    rw [← hmap, List.getElem?_map]
    have : its[m]? = some its.toArray[m] := by simp
    rw [this]
    rfl
  have hz2 : its.toArray.size ≤ sizeLine := by rw [List.size_toArray]; omega
  refine call_meets PySem.F.slot_list_remove ⟨_, e, rfl⟩ PySem.F.entry_list_remove (PySem.F.args_list_remove_2 _ _)
    (SeqAt.list_removeAt l its.toArray n none #[] u (fun z => PyData.eqv (SeqAt.readOf s.heap z) d) j hjs ?_ ?_ hz2) ⟨e, SeqAt.items_eqAt (vs := its.toArray) (show ReadsAll s.heap its.toArray.toList ds as from h4) r1 hxs (SeqAt.canLay_of_shaped sd) hroom, ?_⟩
  · have := at_ j hjs
    rw [h1] at this
    cases this
    exact h2
  · intro m hm hmj
    exact h3 m _ hmj (at_ m hm)
  · refine ⟨.non, _, I.lset (its' := its.eraseIdx j) hH e ?_ (r.eraseIdx j) ?_, rfl, q⟩
    · show its.toArray.eraseIdxIfInBounds j = (its.eraseIdx j).toArray
      rw [List.eraseIdxIfInBounds_toArray]
    · have := L2.len_erase vs j
      omega
end TB
set_option maxRecDepth 100000
set_option maxHeartbeats 4000000
/-! TBSnd3: every expression of mine. -/
namespace TB
open PySem PySem.Spec PyProof.Rows L2
theorem base_of {x : Expr} {m : Str} {env : Env} (h : notCall x = true) : attributeBase x m env (eval x env) = eval x env := by
  cases x <;> first | rfl | cases h
theorem marks2 {op op' : CmpOp} {b d : Expr} (h : notSetD d = true) : lastMarks [op, op'] [b, d] = false := by
  show lastMarks [op'] [d] = false
  simp only [lastMarks]
  exact nomark_of h
theorem tp_of {c : Cxt} {it : I} {t : Tg} {sc : Scope} {tg : Expr} (hp : (!pairI it || isTp t) = true) (hm : matchT c sc t tg = true) : pairI it = true → ∃ es k pos, tg = .Tuple es k pos := by
  intro h
  rw [h] at hp
  cases t with
  | nm i => cases hp
  | tp is =>
    cases tg <;> simp only [matchT] at hm <;> try (cases hm; done)
    exact ⟨_, _, _, rfl⟩
theorem lookup_rel {f : Str × NameKind → Str × NameKind} (hf : ∀ p, (f p).1 = p.1) {x : Str} {k : NameKind} : ∀ {l : List (Str × NameKind)}, l.lookup x = some k → (l.map f).lookup x = some (f (x, k)).2
  | [], h => by cases h
  | (n, j) :: l, h => by
    rw [List.lookup_cons] at h
    rw [List.map_cons]
    have e : f (n, j) = (n, (f (n, j)).2) := Prod.ext (hf (n, j)) rfl
    rw [e, List.lookup_cons]
    split at h
    · rename_i hx
      have hx' : x = n := by simpa using hx
      subst hx'
      cases h
      rfl
    · exact lookup_rel hf h
theorem blk_fn {scope sc : Scope} {x : Str} (h : lcB scope x = true) (hx : (relS scope sc).names.lookup x = some .cell) : (scope.names.lookup x == some .cell) = true := by
  unfold lcB at h
  split at h
  · rename_i e
    have := lookup_rel (f := fun (n, k) => if (k == .free && sc.kind == .function && sc.names.lookup n == some .cell) then (n, .cell) else (n, k)) (fun p => by obtain ⟨n, k⟩ := p; show Prod.fst (if _ then _ else _) = n; split <;> rfl) e
    have hx : List.lookup x (scope.names.map fun (n, k) => if (k == .free && sc.kind == .function && sc.names.lookup n == some .cell) then (n, .cell) else (n, k)) = some .cell := hx
    rw [this] at hx
    cases hx
  · rename_i e
    rw [e]
    rfl
  · cases h
theorem both {X : Cx} {Φ : Nat → List W → Sto → Res W} {G : List D} {e : E} {py : Expr} (hE : PE X py (tE X.K Φ G e)) (he : ∀ whole, isTrue py X.env whole = (do let v ← whole; standAt py.pos; holding [v] (truthy v))) : PE X py (tE X.K Φ G e) ∧ PT X py (tT X.K Φ G e) := ⟨hE, pt_dflt hE he⟩
theorem call_isX {X : Cx} {a D : Addr} {oe : Obj} (hp : (a, oe) ∈ X.pn) (C : ExcC X.K D) (hz : Zc (.ref D) none oe) (hf : ∃ vs, oe.data = .fields vs) : CallR X (.builtin "isinstance") (rIsE X.K D a) := by
  intro pins s σ H xs us Q I r h
  obtain ⟨c, cv, b, rfl, hcv, e, q⟩ := h
  cases r with
  | cons rx rr =>
    cases rr with
    | cons rt rr =>
      cases rr
      cases rx
      have ec := hcv _ rt
      subst ec
      obtain ⟨hget, _⟩ := I.pin (a, oe) (List.mem_append.mpr (.inl hp))
      obtain ⟨vs, hv⟩ := hf
      have J : PySem.W.InstAt s.heap a oe D none := by
        obtain ⟨oc, od, oda, osl⟩ := oe
        obtain ⟨h1, h2⟩ := hz
        dsimp only at h1 h2 hv
        subst h1 h2 hv
        exact ⟨hget, rfl, rfl, trivial⟩
      exact PySem.W.kia_one (PySem.W.handS_kitx_exc C.hg C.hk C.hs C.hd C.ha C.hn C.ht C.hm) I.kIn J e (fun z => nomatch z) fun tk => ⟨.bl b, H, I.kept (t' := tk) fun _ _ z => z, rfl, q⟩
section
variable {c : Cxt} {Φ : Nat → List W → Sto → Res W} {G : List D}
theorem pe_isE {X : Cx} (ok : XOk X c Φ G) {i n : Nat} {y z : Str} {p py pz pos : Pos} (hh : c.hot = true) (hg : Gl X "isinstance") (hi : X.N[i]? = some y) (hv : Vis X.env.scope y) (hn : plainN y = true)
    (hz : (if n = 99 then decide (z = ("ValueError" : Str)) else decide (c.ex n = some z)) = true) (hgz : Gl X z) (hpz : plainN z = true) : PE X (.Call (.Name "isinstance" p) [.Name y py, .Name z pz] [] pos) (tE X.K Φ G (.isE i n)) := by
  by_cases hG : ∃ a b xs, G[50]? = some (.tuple (.int a :: .int b :: xs))
  · obtain ⟨a, b, xs, hG⟩ := hG
    obtain ⟨C, oe, h1, h2, h3, h4, h5, h6⟩ := (ok.hotx a b xs hh hG).at_
    obtain ⟨v, cv, hcv, hpe, hk⟩ : ∃ (v : V) (cv : Value), (∀ u, RelV v u → u = cv) ∧ PE X (.Name z pz) (tC v) ∧ PySem.W.kitOne X.K (.ref C) cv = some (decide (b = (n : Int)) || decide (n = 99)) := by
      by_cases e : n = 99
      · rw [if_pos e, decide_eq_true_eq] at hz
        subst hz
        refine ⟨.ty "ValueError", .type "ValueError", fun u r => r, pe_bltn (v := .ty _) hgz (ok.mgV hh) (by decide +kernel) rfl (by decide) (by decide), ?_⟩
        rw [h6]
        simp [e]
      · rw [if_neg e, decide_eq_true_eq] at hz
        obtain ⟨T, t1, t2⟩ := h5 n z hz
        refine ⟨.ref T, .ref T, fun u r => r, pe_glob (v := .ref T) hgz t1 rfl (plain1 hpz).1, ?_⟩
        rw [t2]
        simp [e]
    refine PE.imp (pe_callB (pos := pos) (p := p) (call_isX h1 h4 h2 h3) hg (bt ok) (by decide +kernel) (pa_cons (pe_var hi hv (plain1 hn).1 (plain1 hn).2) (pa_cons hpe pa_nil)) (by decide) (by decide)) fun σV H Q ⟨R, σ, st, as, hl, hw, q⟩ => ?_
    rw [ev] at q
    split at q
    · rename_i a' b' c' xs' e1 e2
      rw [hG] at e2
      cases e2
      split at q
      · rename_i hab
        obtain ⟨v', hv', r⟩ := hl.2 i _ e1
        have r : v' = .ref a' := r
        subst r
        have ea : a.toNat = a' := by omega
        refine ⟨_, hv', ?_⟩
        exact ⟨v, cv, _, by rw [ea], hcv, hk, q _ H as (.refl hw) (Rel.bl _)⟩
      · exact q.elim
    · exact q.elim
  · exact ⟨fun pins s σ H Q I ⟨R, σ', st, as, hl, hw, q⟩ => by
      rw [ev] at q
      split at q
      · rename_i e; exact absurd ⟨_, _, _, e⟩ hG
      · exact q.elim⟩
theorem pe_varX {X : Cx} (ok : XOk X c Φ G) {i : Nat} {x : Str} {pos : Pos} (hi : nmIs c i x = true) (hv : visB X.env.scope x = true) (hn : plainN x = true) : PE X (.Name x pos) (tE X.K Φ G (.var i)) := by
  obtain ⟨p1, p2⟩ := plain1 hn
  refine PE.imp (pe_var (by rw [ok.N]; exact of_decide_eq_true hi) (vis_of hv) p1 p2) fun σV H Q ⟨R, σ, st, as, hl, hw, q⟩ => ?_
  rw [ev] at q
  split at q
  · rename_i w e
    obtain ⟨v, h1, h2⟩ := hl.2 i w e
    exact ⟨v, h1, q v H as (.refl hw) h2⟩
  · exact q.elim
mutual
theorem sndE : ∀ (e : E) {c : Cxt} (X : Cx), XOk X c Φ G → ∀ (py : Expr), matchE c e X.env.scope py = true → PE X py (tE X.K Φ G e) ∧ PT X py (tT X.K Φ G e)
  | .var i, c, X, ok, py, h => by
    simp only [matchE] at h
    split at h
    · rename_i x pos
      simp only [Bool.and_eq_true, nmIs, decide_eq_true_eq] at h
      obtain ⟨p1, p2⟩ := plain1 h.2
      have hE : PE X (.Name x pos) (tE X.K Φ G (.var i)) := PE.imp (pe_var (by rw [ok.N]; exact h.1.1) (vis_of h.1.2) p1 p2) fun σV H Q ⟨R, σ, st, as, hl, hw, q⟩ => by
        rw [ev] at q
        split at q
        · rename_i w e
          obtain ⟨v, h1, h2⟩ := hl.2 i w e
          exact ⟨v, h1, q v H as (.refl hw) h2⟩
        · exact q.elim
      exact ⟨hE, pt_dflt hE fun _ => rfl⟩
    · cases h
  | .cn d, c, X, ok, py, h => by
    simp only [matchE] at h
    split at h
    · rename_i k j pos
      have hE : PE X (.Constant k j pos) (tE X.K Φ G (.cn d)) := by
        have key : ∀ {v : V}, PE X (.Constant k j pos) (tC v) → (∀ H Z, Rel X.K H Z d v) → PE X (.Constant k j pos) (tE X.K Φ G (.cn d)) := fun {v} hp hr => PE.imp hp fun σV H Q ⟨R, σ, st, as, hl, hw, q⟩ => by
          rw [ev] at q
          exact q v H as (.refl hw) (hr _ _)
        unfold matchC at h
        split at h
        · exact key pe_non fun _ _ => .non
        · rw [beq_iff_eq] at h; subst h; exact key pe_bl fun _ _ => .bl _
        · rw [decide_eq_true_eq] at h; subst h; exact key pe_int fun _ _ => .int _
        · rw [decide_eq_true_eq] at h; subst h; exact key pe_str fun _ _ => .str _
        · cases h
      exact ⟨hE, pt_dflt hE fun _ => rfl⟩
    · cases h
  | .glob i, c, X, ok, py, h => by
    simp only [matchE] at h
    split at h
    · rename_i x pos
      simp only [Bool.and_eq_true, decide_eq_true_eq] at h
      obtain ⟨p1, p2⟩ := plain1 h.2
      obtain ⟨u, hm, hu⟩ := ok.glob i x h.1.1
      have hE : PE X (.Name x pos) (tE X.K Φ G (.glob i)) := by
        by_cases hg : ∃ n, G[i]? = some (.int n)
        · obtain ⟨n, hg⟩ := hg
          rw [hg] at hu
          obtain ⟨t, rfl⟩ := hu
          exact PE.imp (pe_glob (v := .int n) (gl_of h.1.2) hm ⟨t, rfl⟩ p1) fun σV H Q ⟨R, σ, st, as, hl, hw, q⟩ => by
            rw [ev, hg] at q
            exact q _ H as (.refl hw) (.int n)
        · exact ⟨fun pins s σ H Q I ⟨R, σ', st, as, hl, hw, q⟩ => by
            rw [ev] at q
            split at q
            · rename_i n e; exact absurd ⟨n, e⟩ hg
            · exact q.elim⟩
      exact ⟨hE, pt_dflt hE fun _ => rfl⟩
    · cases h
  | .tup es, c, X, ok, py, h => by
    simp only [matchE] at h
    split at h
    · rename_i xs k pos
      rw [Bool.and_eq_true, decide_eq_true_eq] at h
      have hE : PE X (.Tuple xs k pos) (tE X.K Φ G (.tup es)) := PE.imp (pe_tup (sndA es X ok xs h.1).2) fun σV H Q ⟨R, σ, st, as, hl, hw, q⟩ => by
        rw [ev] at q
        unfold tTup tAD
        refine rd_step hl hw (wp_self (wp_bind q)) fun ds st1 vs H1 as1 p po l r => ⟨?_, fun a ha => (ans_of po p.2).tup po.wld r a ha⟩
        rw [← r.length, evD_len p.1 h.1]
        exact lim_line (Nat.le_trans h.2 (by decide))
      exact ⟨hE, pt_dflt hE fun _ => rfl⟩
    · cases h
  | .lst es, c, X, ok, py, h => by
    simp only [matchE] at h
    split at h
    · rename_i xs pos
      rw [Bool.and_eq_true, decide_eq_true_eq] at h
      have hE : PE X (.List xs pos) (tE X.K Φ G (.lst es)) := PE.imp (pe_lst (sndA es X ok _ h.1).2) (lst_read h.1 h.2)
      exact ⟨hE, pt_dflt hE fun _ => rfl⟩
    · cases h
  | .dnew, c, X, ok, py, h => by
    simp only [matchE] at h
    split at h
    · exact both (PE.imp (X := X) pe_dnewK dnew_read) fun _ => rfl
    · cases h
  | .bin op a b, c, X, ok, py, h => by
    simp only [matchE] at h
    split at h
    · simp only [Bool.and_eq_true] at h
      obtain rfl := eqOp_eq h.1.1
      exact both (PE.imp (pe_op (op_binD op) (sndE a X ok _ h.1.2).1 (sndE b X ok _ h.2).1) bin_read) fun _ => rfl
    · cases h
  | .neg a, c, X, ok, py, h => by
    simp only [matchE] at h
    split at h
    · exact both (PE.imp (pe_un un_neg (sndE a X ok _ h).1) neg_read) fun _ => rfl
    · cases h
  | .not a, c, X, ok, py, h => by
    simp only [matchE] at h
    split at h
    · obtain ⟨h1, h2⟩ := sndE a X ok _ h
      exact ⟨PE.imp (pe_notT h1) not_read, PT.imp (pt_not h2) notT_read⟩
    · cases h
  | .and a b, c, X, ok, py, h => by
    simp only [matchE] at h
    split at h
    · rename_i x y r pos
      rw [Bool.and_eq_true] at h
      obtain ⟨h1, h2⟩ := sndE a X ok _ h.1
      have h3 := h.2
      split at h3
      · obtain ⟨h4, h5⟩ := sndE b X ok _ h3
        exact ⟨PE.imp (pe_and h1 (pe_one h4)) and_read, PT.imp (pw_and h2 (pw_and1 h5)).pt andT_read⟩
      · obtain ⟨h4, h5⟩ := sndE b X ok _ h3
        exact ⟨PE.imp (pe_and h1 h4) and_read, PT.imp (pw_and h2 (pw_of h5)).pt andT_read⟩
    · cases h
  | .or a b, c, X, ok, py, h => by
    simp only [matchE] at h
    split at h
    · rename_i x y r pos
      rw [Bool.and_eq_true] at h
      obtain ⟨h1, h2⟩ := sndE a X ok _ h.1
      have h3 := h.2
      split at h3
      · obtain ⟨h4, h5⟩ := sndE b X ok _ h3
        exact ⟨PE.imp (pe_or h1 (pe_one h4)) or_read, PT.imp (pw_or h2 (pw_or1 h5)).pt orT_read⟩
      · obtain ⟨h4, h5⟩ := sndE b X ok _ h3
        exact ⟨PE.imp (pe_or h1 h4) or_read, PT.imp (pw_or h2 (pw_of h5)).pt orT_read⟩
    · cases h
  | .cmp op a b, c, X, ok, py, h => by
    simp only [matchE] at h
    split at h
    · simp only [Bool.and_eq_true] at h
      obtain rfl := eqCmp_eq h.1.1.1
      have ho := op_cmpD (X := X) (Nat.lt_of_le_of_lt (by omega) ok.hu) op
      have h1 := (sndE a X ok _ h.1.1.2).1
      have h2 := (sndE b X ok _ h.1.2).1
      exact ⟨PE.imp (pe_cmpR ho h1 h2 (nomark_of h.2)) cmp_read, PT.imp (pt_cmpR ho h1 h2 (nomark_of h.2)) fun σ H Q q => tTest_imp cmp_read σ H Q (test_read (fun _ _ _ _ e => cmp_bool e) σ H Q q)⟩
    · cases h
  | .chain op op' a b d, c, X, ok, py, h => by
    simp only [matchE] at h
    split at h
    · simp only [Bool.and_eq_true] at h
      rename_i x o o' y z pos
      obtain rfl := eqCmp_eq h.1.1.1.1.1
      obtain rfl := eqCmp_eq h.1.1.1.1.2
      have hu := Nat.lt_of_le_of_lt (by omega : X.A.units + 65 ≤ X.A.units + 200) ok.hu
      have ho := op_cmpD (X := X) hu op
      have ho' := op_cmpD (X := X) hu op'
      have h1 := (sndE a X ok _ h.1.1.1.2).1
      have h2 := (sndE b X ok _ h.1.1.2).1
      have h3 := (sndE d X ok _ h.1.2).1
      have hm := marks2 (op := op) (op' := op') (b := y) h.2
      exact ⟨PE.imp (pe_chain ho ho' h1 h2 h3 hm) chain_read, PT.imp (pt_chain ho ho' h1 h2 h3 hm) fun σ H Q q => tTest_imp chain_read σ H Q (test_read (fun _ _ _ _ e => chain_bool e) σ H Q q)⟩
    · cases h
  | .ite d a b, c, X, ok, py, h => by
    simp only [matchE] at h
    split at h
    · simp only [Bool.and_eq_true] at h
      obtain ⟨_, h1⟩ := sndE d X ok _ h.1.1
      obtain ⟨h2, h2'⟩ := sndE a X ok _ h.1.2
      obtain ⟨h3, h3'⟩ := sndE b X ok _ h.2
      exact ⟨PE.imp (pe_ifExp h1 h2 h3) ite_read, PT.imp (pt_ite h1 h2' h3') iteT_read⟩
    · cases h
  | .call f es, c, X, ok, py, h => by
    simp only [matchE] at h
    split at h
    · rename_i x p xs pos
      simp only [Bool.and_eq_true, decide_eq_true_eq, Bool.not_eq_true'] at h
      cases xs with
      | nil => exact absurd h.2 (by simp)
      | cons y ys =>
        obtain ⟨s1, s2⟩ := stars (env := X.env) h.1.2
        have hE := PE.imp (pe_fn (p := p) (pos := pos) ok h.1.1.1.1 (gl_of h.1.1.1.2) (plain1 h.1.1.2).1 (sndA es X ok _ h.1.2).1 s1 s2) call_read
        exact ⟨hE, pt_dflt hE fun _ => rfl⟩
    · cases h
  | .bi b es, c, X, ok, py, h => by
    simp only [matchE] at h
    split at h
    · rename_i x p xs pos
      simp only [Bool.and_eq_true, decide_eq_true_eq] at h
      obtain ⟨⟨⟨hot, rfl⟩, hg⟩, h⟩ := h
      rw [Bool.not_eq_true'] at hot
      have hE : PE X (.Call (.Name (biX b) p) xs [] pos) (tE X.K Φ G (.bi b es)) := by
        by_cases e1 : b = .sortedset
        · subst e1
          simp only at h
          split at h
          · rename_i y p' ys pos'
            simp only [Bool.and_eq_true, decide_eq_true_eq, Bool.not_eq_true'] at h
            obtain ⟨⟨⟨rfl, hg'⟩, h⟩, he⟩ := h
            cases ys with
            | nil => exact absurd he (by simp)
            | cons y ys =>
              obtain ⟨s1, s2⟩ := stars (env := X.env) h
              exact pe_sset ok hot (gl_of hg) (gl_of hg') (sndA es X ok _ h).1 s1 s2
          · cases h
        · by_cases e2 : b = .lenset
          · subst e2
            cases h
          · obtain ⟨h1, h2⟩ : matchEs c es X.env.scope xs = true ∧ xs.isEmpty = false := by
              cases b <;> first | exact absurd rfl e1 | exact absurd rfl e2 | (simp only [Bool.and_eq_true, Bool.not_eq_true'] at h; exact h)
            cases xs with
            | nil => exact absurd h2 (by simp)
            | cons y ys =>
              obtain ⟨s1, s2⟩ := stars (env := X.env) h1
              exact PE.imp (pe_biX ok hot e1 e2 (gl_of hg) (sndA es X ok _ h1).1 s1 s2) bi_read
      exact ⟨hE, pt_dflt hE fun _ => rfl⟩
    · cases h
  | .isin a t, c, X, ok, py, h => by
    simp only [matchE] at h
    split at h
    · rename_i x p y z p' pos
      simp only [Bool.and_eq_true, decide_eq_true_eq] at h
      obtain ⟨⟨⟨⟨⟨rfl, hg⟩, rfl⟩, hg'⟩, ha⟩, hs⟩ := h
      have h1 := (sndE a X ok _ ha).1
      exact both (PE.imp (pe_callB (pos := pos) (p := p) (call_isD t) (gl_of hg) (bt ok) (by decide +kernel) (pa_cons h1 (pa_cons (pe_tyN ok (p := p') (gl_of hg')) pa_nil) (star_cons hs)) (by decide) (by decide) (star_cons hs)) isin_read) fun _ => rfl
    · cases h
  | .idx o i, c, X, ok, py, h => by
    simp only [matchE] at h
    split at h
    · simp only [Bool.and_eq_true] at h
      exact both (PE.imp (pe_ix (ix_D (X := X) (Nat.lt_of_le_of_lt (by omega) ok.hu)) (sndE o X ok _ h.1.1).1 (sndE i X ok _ h.1.2).1 (plainIx_of h.2)) idx_read) fun _ => rfl
    · cases h
  | .slc o a b, c, X, ok, py, h => by
    simp only [matchE] at h
    split at h
    · simp only [Bool.and_eq_true] at h
      exact both (PE.imp (pe_slice sl_D (sndE o X ok _ h.1.1).1 (sndO a X ok _ h.1.2) (sndO b X ok _ h.2)) slc_read) fun _ => rfl
    · cases h
  | .back o, c, X, ok, py, h => by
    simp only [matchE] at h
    split at h
    · simp only [Bool.and_eq_true, decide_eq_true_eq] at h
      obtain ⟨h, rfl⟩ := h
      exact both (pe_back ok (sndE o X ok _ h).1) fun _ => rfl
    · cases h
  | .rep es k, c, X, ok, py, h => by
    simp only [matchE] at h
    split at h
    · simp only [Bool.and_eq_true, decide_eq_true_eq] at h
      exact both (PE.imp (pe_op op_rep (pe_lst (sndA es X ok _ h.1.1).2) (sndE k X ok _ h.2).1) (rep_read h.1.1 h.1.2)) fun _ => rfl
    · cases h
  | .inG neg a i, c, X, ok, py, h => by
    simp only [matchE] at h
    split at h
    · simp at h
    · cases h
  | .lof it, c, X, ok, py, h => by
    simp only [matchE] at h
    split at h
    · rename_i x p y pos
      simp only [Bool.and_eq_true, decide_eq_true_eq] at h
      obtain ⟨⟨⟨⟨⟨hot, rfl⟩, hg⟩, hr⟩, hi⟩, hs⟩ := h
      rw [Bool.not_eq_true'] at hot
      cases it <;> first | (cases hr; done) | skip
      · rename_i a
        simp only [matchI] at hi
        split at hi
        · simp only [Bool.and_eq_true, decide_eq_true_eq] at hi
          obtain ⟨⟨⟨rfl, hg2⟩, ha⟩, hs2⟩ := hi
          exact both (PE.imp (pe_listRg (ok.calm hot) (gl_of hg) (bt ok) (prg_1 (gl_of hg2) (bt ok) (sndE a X ok _ ha).1 (star_cons hs2)) (star_cons hs)) lof1_read) fun _ => rfl
        · cases hi
      · rename_i a b
        simp only [matchI] at hi
        split at hi
        · simp only [Bool.and_eq_true, decide_eq_true_eq] at hi
          obtain ⟨⟨⟨⟨⟨rfl, hg2⟩, ha⟩, hs2⟩, hb⟩, hs3⟩ := hi
          exact both (PE.imp (pe_listRg (ok.calm hot) (gl_of hg) (bt ok) (prg_2 (gl_of hg2) (bt ok) (sndE a X ok _ ha).1 (sndE b X ok _ hb).1 (star_cons hs2) (star_cons hs3) (any_back (by rw [star_cons hs3]; rfl))) (star_cons hs)) lof2_read) fun _ => rfl
        · cases hi
    · cases h
  | .orv a b, c, X, ok, py, h => by
    simp only [matchE] at h
    split at h
    · rw [Bool.and_eq_true] at h
      obtain ⟨h1, h2⟩ := sndE a X ok _ h.1
      obtain ⟨h3, h4⟩ := sndE b X ok _ h.2
      exact ⟨PE.imp (pe_orT h1 (pe_one h3)) orv_read, PT.imp (pw_or h2 (pw_or1 h4)).pt orvT_read⟩
    · cases h
  | .split o e, c, X, ok, py, h => by
    simp only [matchE] at h
    split at h
    · rename_i x m ap y cp
      simp only [Bool.and_eq_true, decide_eq_true_eq] at h
      obtain ⟨⟨⟨⟨⟨rfl, ho⟩, hn⟩, he⟩, hs⟩, hl⟩ := h
      exact both (PE.imp (pe_bm PySem.F.plainAttrs_str PySem.F.slot_str_split PySem.F.type_str_split mt_split (sndE o X ok _ ho).1 (pa_cons (sndE e X ok _ he).1 pa_nil (star_cons hs)) (base_of hn) (by rw [star_cons hs]; rfl) hl (star_cons hs)) split_read) fun _ => rfl
    · cases h
  | .me m o es, c, X, ok, py, h => by
    simp only [matchE] at h
    split at h
    · rename_i x mn ap ys cp
      simp only [Bool.and_eq_true, decide_eq_true_eq, Bool.not_eq_true'] at h
      obtain ⟨⟨⟨⟨⟨⟨⟨rfl, hm⟩, ho⟩, hn⟩, hes⟩, hl⟩, hne⟩, hlt⟩ := h
      cases ys with
      | nil => exact absurd hne (by simp)
      | cons y ys =>
        obtain ⟨s1, s2⟩ := stars (env := X.env) hes
        cases m <;> first | (cases hm; done) | skip
        rotate_left
        · exact both (PE.imp (pe_bm PySem.F.plainAttrs_list PySem.F.slot_list_index PySem.F.type_list_index (mt_indexD (Nat.lt_of_le_of_lt (by omega) ok.hu)) (sndE o X ok _ ho).1 (sndA es X ok _ hes).1 (base_of hn) (few_of hes hlt) hl s1 (any_back s2)) idx_readM) fun _ => rfl
        exact both (PE.imp (pe_bm PySem.F.plainAttrs_list PySem.F.slot_list_count PySem.F.type_list_count (mt_cnt (Nat.lt_of_le_of_lt (by omega) ok.hu)) (sndE o X ok _ ho).1 (sndA es X ok _ hes).1 (base_of hn) (few_of hes hlt) hl s1 (any_back s2)) cnt_read) fun _ => rfl
    · cases h
  | .step2 o lo, c, X, ok, py, h => by
    simp only [matchE] at h
    split at h
    · rename_i x a k j p1 p3 pos
      simp only [Bool.and_eq_true, decide_eq_true_eq] at h
      obtain ⟨⟨h, rfl⟩, hl⟩ := h
      exact both (pe_step ok hl (sndE o X ok _ h).1) fun _ => rfl
    · cases h
  | .sum2 a, c, X, ok, py, h => by
    simp only [matchE] at h
    split at h
    · simp only [Bool.and_eq_true, decide_eq_true_eq] at h
      obtain ⟨⟨⟨⟨hot, rfl⟩, hg⟩, ha⟩, hs⟩ := h
      rw [Bool.not_eq_true'] at hot
      exact both (pe_sum2 ok hot (gl_of hg) hs (sndE a X ok _ ha).1) fun _ => rfl
    · cases h
  | .isE i n, c, X, ok, py, h => by
    simp only [matchE] at h
    split at h
    · simp only [Bool.and_eq_true, nmIs, decide_eq_true_eq] at h
      obtain ⟨⟨⟨⟨⟨⟨⟨⟨hh, rfl⟩, hg⟩, hi⟩, hv⟩, hn⟩, hz⟩, hgz⟩, hpz⟩ := h
      exact both (pe_isE ok hh (gl_of hg) (by rw [ok.N]; exact hi) (vis_of hv) hn hz (gl_of hgz) hpz) fun _ => rfl
    · cases h
  | .said x j w f es, c, X, ok, py, h => by
    simp only [matchE] at h
    split at h
    · rename_i g gp y yp xs p3 scope lp pos
      simp only [Bool.and_eq_true, decide_eq_true_eq, Bool.not_eq_true'] at h
      obtain ⟨⟨⟨⟨⟨⟨⟨⟨⟨⟨hot, hwd⟩, hm⟩, eg⟩, hg⟩, hL⟩, hy⟩, hgy⟩, hp⟩, hes⟩, hne⟩ := h
      cases xs with
      | nil => exact absurd hne (by simp)
      | cons e0 xs =>
        have hE := pe_saidX (j := j) (wd := w) (es := es) (p := gp) (p2 := yp) (p3 := p3) (lp := lp) (pos := pos) ok hot (fun e => by rw [e] at hwd; simpa using hwd) hm eg (gl_of hg) hL hy hgy hp (fun X' ok' es' ek => (sndA es X' ok' _ (by rw [es']; exact hes)).1) (fun env => (stars (env := env) hes).1) (fun env => (stars (env := env) hes).2)
        exact both hE fun _ => rfl
    · cases h
  | .nvr, c, X, ok, py, h => by
    refine ⟨⟨fun pins s σ H Q I ⟨R, σ', st, as, hl, hw, q⟩ => ?_⟩, ⟨fun pins s σ H Q I ⟨R, σ', st, as, hl, hw, q⟩ => ?_⟩⟩
    · rw [ev] at q; exact q.elim
    · rw [evT, ev] at q; exact q.elim
  | .popv j o, c, X, ok, py, h => by
    simp only [matchE] at h
    split at h
    · rename_i x xp m ap cp
      simp only [Bool.and_eq_true, decide_eq_true_eq] at h
      obtain ⟨⟨⟨⟨⟨hot, rfl⟩, hi⟩, hv⟩, hn⟩, hl⟩ := h
      have ho := pe_varX (pos := xp) ok hi hv hn
      exact both (PE.imp (pe_bm0 PySem.F.plainAttrs_list PySem.F.slot_list_pop PySem.F.type_list_pop mt_pop ho rfl hl) pop_read) fun _ => rfl
    · cases h
  | .popi j e, c, X, ok, py, h => by
    simp only [matchE] at h
    split at h
    · rename_i x xp m ap y cp
      simp only [Bool.and_eq_true, decide_eq_true_eq] at h
      obtain ⟨⟨⟨⟨⟨⟨⟨hot, rfl⟩, hi⟩, hv⟩, hn⟩, he⟩, hs⟩, hl⟩ := h
      have ho := pe_varX (pos := xp) ok hi hv hn
      exact both (PE.imp (pe_bm PySem.F.plainAttrs_list PySem.F.slot_list_pop PySem.F.type_list_pop mt_popAt ho (pa_cons (sndE e X ok _ he).1 pa_nil (star_cons hs)) rfl (by rw [star_cons hs]; rfl) hl (star_cons hs)) popi_read) fun _ => rfl
    · cases h
  | .get1 o k, c, X, ok, py, h => by
    simp only [matchE] at h
    split at h
    · rename_i x m ap y cp
      simp only [Bool.and_eq_true, decide_eq_true_eq] at h
      obtain ⟨⟨⟨⟨⟨⟨hot, rfl⟩, ho⟩, hn⟩, hk⟩, hs⟩, hl⟩ := h
      exact both (PE.imp (pe_bm PySem.F.plainAttrs_dict PySem.F.slot_dict_get PySem.F.type_dict_get (mt_getD (Nat.lt_of_le_of_lt (by omega) ok.hu)) (sndE o X ok _ ho).1 (pa_cons (sndE k X ok _ hk).1 pa_nil (star_cons hs)) (base_of hn) (by rw [star_cons hs]; rfl) hl (star_cons hs)) get1_read) fun _ => rfl
    · cases h
  | .get2 o k v, c, X, ok, py, h => by
    simp only [matchE] at h
    split at h
    · rename_i x m ap y z cp
      simp only [Bool.and_eq_true, decide_eq_true_eq] at h
      obtain ⟨⟨⟨⟨⟨⟨⟨⟨hot, rfl⟩, ho⟩, hn⟩, hk⟩, hs⟩, hv⟩, hs2⟩, hl⟩ := h
      exact both (PE.imp (pe_bm PySem.F.plainAttrs_dict PySem.F.slot_dict_get PySem.F.type_dict_get (mt_getD (Nat.lt_of_le_of_lt (by omega) ok.hu)) (sndE o X ok _ ho).1 (pa_cons (sndE k X ok _ hk).1 (pa_cons (sndE v X ok _ hv).1 pa_nil (star_cons hs2)) (star_cons hs)) (base_of hn) (by rw [star_cons hs, star_cons hs2]; rfl) hl (star_cons hs) (any_back (by rw [star_cons hs2]; rfl))) get2_read) fun _ => rfl
    · cases h
  | .pld, c, X, ok, py, h => by
    simp only [matchE] at h
    split at h
    · exact both (PE.imp (X := X) pe_dnewK pld_read) fun _ => rfl
    · cases h
  | .fz e, c, X, ok, py, h => by
    simp only [matchE] at h
    rw [Bool.and_eq_true] at h
    have hE := PE.imp (sndE e X ok py h.2).1 (fz_read (e := e))
    cases py <;> first | (exact both hE fun _ => rfl) | (cases h.1; done) | (simp [notCall] at h; done)
  | .lc elt t it own d, c, X, ok, py, h => by
    simp only [matchE] at h
    split at h
    · rename_i y tg iter ifs k scope pos
      simp only [Bool.and_eq_true, decide_eq_true_eq] at h
      obtain ⟨⟨⟨⟨⟨⟨⟨⟨⟨⟨hot, rfl⟩, hi⟩, hf⟩, hp⟩, hb⟩, hm⟩, hm'⟩, ht⟩, hd⟩, he⟩ := h
      rw [Bool.not_eq_true'] at hot
      have hown : (ownP c own).map (·.2) = own := by
        unfold ownP
        rw [List.map_map]
        exact (List.map_congr_left fun _ _ => rfl).trans (List.map_id _)
      have hE : PE X (.ListComp y [⟨tg, iter, ifs, 0⟩] scope pos) (tE X.K Φ G (.lc elt t it own d)) := by
        refine PE.imp (pe_lc (own := ownP c own) (wi := tI X.K Φ G it) (g := tG X.K t) (tt := TB.tIf X.K Φ G d) (te := tE X.K Φ G elt) (ok.calm hot) ok.nd (sndI it X ok _ hi tg (tp_of hp hm)) (blkOk_by (by rw [ok.N]; exact hb)) ?_ ?_ ?_ (folded_of hf)) fun σ H Q q => ?_
        · intro s H C cl fp
          exact pg_tg (ok.blk hot s H scope _ fp) hot (fun x hl hx => blk_fn (sc := X.env.scope) hl hx) hm hm'
        · intro s H C cl fp
          exact sndIf d _ (ok.blk hot s H scope _ fp) _ hd
        · intro s H C cl fp
          exact (sndE elt _ (ok.blk hot s H scope _ fp) _ he).1
        · rw [hown]
          exact lc_read ht σ H Q q
      exact ⟨hE, pt_dflt hE fun _ => rfl⟩
    · cases h
theorem sndA : ∀ (es : Es) {c : Cxt} (X : Cx), XOk X c Φ G → ∀ (pys : List Expr), matchEs c es X.env.scope pys = true → PA X pys (tA X.K Φ G es) ∧ PA X pys (tAD X.K Φ G es)
  | .nil, c, X, ok, pys, h => by
    simp only [matchEs] at h
    split at h
    · refine ⟨PA.imp pa_nil fun σV H Q ⟨R, σ, st, as, hl, hw, q⟩ => ?_, PA.imp pa_nil fun σV H Q ⟨R, σ, st, as, hl, hw, q⟩ => ?_⟩
      · rw [evs] at q
        exact q [] H as (.refl hw) True.intro
      · rw [evD] at q
        exact q [] H as (.refl hw) .nil
    · cases h
  | .cons e es, c, X, ok, pys, h => by
    simp only [matchEs] at h
    split at h
    · rename_i x xs
      rw [Bool.and_eq_true, Bool.and_eq_true] at h
      have h1 := (sndE e X ok x h.1.1).1
      obtain ⟨h2, h3⟩ := sndA es X ok xs h.2
      refine ⟨PA.imp (pa_cons h1 h2 (star_cons h.1.2)) fun σV H Q ⟨R, σ, st, as, hl, hw, q⟩ => ?_, PA.imp (pa_cons h1 h3 (star_cons h.1.2)) fun σV H Q ⟨R, σ, st, as, hl, hw, q⟩ => ?_⟩
      · rw [evs] at q
        refine rd_step hl hw (wp_bind q) fun w st1 v H1 as1 p po l r => ?_
        refine rd_step l po.wld (wp_bind p) fun ws st2 vs H2 as2 p2 po2 l2 r2 => ?_
        exact p2 (v :: vs) H2 as2 (po.trans po2) ⟨r.grow po2.grow po2.ext, r2⟩
      · rw [evD] at q
        refine rd_step hl hw (wp_bind q) fun w st1 v H1 as1 p po l r => ?_
        obtain ⟨d, st2, p2, po2, r2⟩ := val_of po.wld r (wp_bind p)
        refine rd_step (l.grow po2.grow po2.ext) po2.wld (wp_bind p2) fun ds st3 vs H3 as3 p3 po3 l3 r3 => ?_
        exact p3 (v :: vs) H3 as3 ((po.trans po2).trans po3) (.cons (r2.grow po3.grow) r3)
    · cases h
theorem sndO : ∀ (o : Oe) {c : Cxt} (X : Cx), XOk X c Φ G → ∀ (py : Option Expr), matchO c o X.env.scope py = true → PO X py (tO X.K Φ G o)
  | .no, c, X, ok, py, h => by
    simp only [matchO] at h
    split at h
    · exact PO.imp po_none oNo_read
    · cases h
  | .yes e, c, X, ok, py, h => by
    simp only [matchO] at h
    split at h
    · exact PO.imp (po_some (sndE e X ok _ h).1) oYes_read
    · cases h
theorem sndIf : ∀ (o : Oe) {c : Cxt} (X : Cx), XOk X c Φ G → ∀ (py : List Expr), matchIf c o X.env.scope py = true → PTs X py (TB.tIf X.K Φ G o)
  | .no, c, X, ok, py, h => by
    simp only [matchIf] at h
    split at h
    · exact PTs.imp pts_nil ifNo_read
    · cases h
  | .yes e, c, X, ok, py, h => by
    simp only [matchIf] at h
    split at h
    · exact PTs.imp (pts_one (sndE e X ok _ h).2) ifYes_read
    · cases h
theorem sndI : ∀ (it : I) {c : Cxt} (X : Cx), XOk X c Φ G → ∀ (py : Expr), matchI c it X.env.scope py = true → ∀ (tg : Expr), (pairI it = true → ∃ es k pos, tg = .Tuple es k pos) → PI X tg py (tI X.K Φ G it)
  | .e e, c, X, ok, py, h, tg, ht => by
    simp only [matchI] at h
    exact PI.imp (pi_seq (pe_bnd (sndE e X ok _ h).1)) seq_read
  | .r1 a, c, X, ok, py, h, tg, ht => by
    simp only [matchI] at h
    split at h
    · simp only [Bool.and_eq_true, decide_eq_true_eq] at h
      obtain ⟨⟨⟨rfl, hg⟩, ha⟩, hs⟩ := h
      exact PI.imp (pi_range1 (gl_of hg) (bt ok) (pa_cons (sndE a X ok _ ha).1 pa_nil (star_cons hs)) (star_cons hs)) r1_read
    · cases h
  | .r2 a b, c, X, ok, py, h, tg, ht => by
    simp only [matchI] at h
    split at h
    · simp only [Bool.and_eq_true, decide_eq_true_eq] at h
      obtain ⟨⟨⟨⟨⟨rfl, hg⟩, ha⟩, hs⟩, hb⟩, hs2⟩ := h
      exact PI.imp (pi_range2 (gl_of hg) (bt ok) (pa_cons (sndE a X ok _ ha).1 (pa_cons (sndE b X ok _ hb).1 pa_nil (star_cons hs2)) (star_cons hs)) (by rw [star_cons hs, star_cons hs2]; rfl) (star_cons hs2)) r2_read
    · cases h
  | .r3 a b d, c, X, ok, py, h, tg, ht => by
    simp only [matchI] at h
    split at h
    · simp only [Bool.and_eq_true, decide_eq_true_eq] at h
      obtain ⟨⟨⟨⟨⟨⟨⟨rfl, hg⟩, ha⟩, hs⟩, hb⟩, hs2⟩, hd⟩, hs3⟩ := h
      refine PI.imp (pi_range3 (gl_of hg) (bt ok) (pa_cons (sndE a X ok _ ha).1 (pa_cons (sndE b X ok _ hb).1 (pa_cons (sndE d X ok _ hd).1 pa_nil (star_cons hs3)) (star_cons hs2)) (star_cons hs)) (star_cons hs) (any_back ?_)) r3_read
      rw [star_cons hs2, star_cons hs3]
      rfl
    · cases h
  | .gl i, c, X, ok, py, h, tg, ht => by
    simp only [matchI] at h
    split at h
    · simp at h
    · cases h
  | .en a, c, X, ok, py, h, tg, ht => by
    simp only [matchI] at h
    obtain ⟨es, k, pos, rfl⟩ := ht rfl
    split at h
    · simp only [Bool.and_eq_true, decide_eq_true_eq] at h
      obtain ⟨⟨⟨rfl, hg⟩, ha⟩, hs⟩ := h
      exact PI.imp (pi_enumX (gl_of hg) (bt ok) (pa_cons (pe_bnd (sndE a X ok _ ha).1) pa_nil (star_cons hs)) (star_cons hs)) en_read
    · cases h
  | .z3 _ _ _, c, X, ok, py, h, tg, ht => by
    simp only [matchI] at h
    cases h
  | .items _, c, X, ok, py, h, tg, ht => by
    simp only [matchI] at h
    cases h
  | .values _, c, X, ok, py, h, tg, ht => by
    simp only [matchI] at h
    cases h
  | .z2 a b, c, X, ok, py, h, tg, ht => by
    simp only [matchI] at h
    obtain ⟨es, k, pos, rfl⟩ := ht rfl
    split at h
    · simp only [Bool.and_eq_true, decide_eq_true_eq] at h
      obtain ⟨⟨⟨⟨⟨rfl, hg⟩, ha⟩, hs⟩, hb⟩, hs2⟩ := h
      exact PI.imp (RZ.pi_zipA (gl_of hg) (bt ok) (pa_cons (pe_bnd (sndE a X ok _ ha).1) (pa_cons (sndE b X ok _ hb).1 pa_nil (star_cons hs2)) (star_cons hs)) (star_cons hs) (any_back (by rw [star_cons hs2]; rfl))) z2_read
    · cases h
end
end
end TB
set_option maxRecDepth 100000
/-! TBStm: readings of statements. -/
namespace TB
open PySem PySem.Spec PyProof.Rows L2
section
variable {K : PySem.W.Frag} {R : Addr → Prop} {st : Sto} {as : As} {H : Hp}
theorem Loc.less {Z Z' : Addr → Prop} {σ : Ev} {σV : L2.St} (h : Loc K H Z as σ σV) (hz : ∀ p, Z' p → Z p) : Loc K H Z' as σ σV := h.grow (grows_less hz) ⟨[], by simp⟩
theorem Loc.wipeE {Z : Addr → Prop} {σ : Ev} {σV : L2.St} (h : Loc K H Z as σ σV) : ∀ vs : List Nat, Loc K H Z as (TB.wipeE σ vs) σV
  | [] => h
  | v :: vs => by
    have ih := Loc.wipeE h vs
    refine ⟨by unfold TB.wipeE; rw [List.length_set]; exact ih.1, fun j x hj => ?_⟩
    unfold TB.wipeE at hj
    by_cases e : j = v
    · subst e
      by_cases hl : j < (TB.wipeE σ vs).length
      · rw [List.getElem?_set_self hl] at hj; cases hj
      · rw [List.getElem?_eq_none (by rw [List.length_set]; omega)] at hj; cases hj
    · rw [List.getElem?_set_ne (Ne.symm e)] at hj
      exact ih.2 j x hj
theorem Loc.cutE {Z Z' : Addr → Prop} {σ : Ev} {σV : L2.St} (h : Loc K H Z as σ σV) (hz : ∀ p, Z' p → Z p) (n : Nat) : Loc K H Z' (as.take n) (TB.cutE n σ) σV := by
  refine ⟨by unfold TB.cutE; rw [List.length_map]; exact h.1, fun i w hi => ?_⟩
  unfold TB.cutE at hi
  rw [List.getElem?_map] at hi
  cases e : σ[i]? with
  | none => rw [e] at hi; cases hi
  | some o =>
    rw [e] at hi
    cases o with
    | none => cases hi
    | some x =>
      cases x with
      | e a =>
        simp only [Option.map_some] at hi
        cases hi
        obtain ⟨v, h1, h2⟩ := h.2 i _ e
        exact ⟨v, h1, h2⟩
      | d x =>
        cases hi
        obtain ⟨v, h1, h2⟩ := h.2 i _ e
        exact ⟨v, h1, Rel.grow (grows_less hz) h2⟩
      | r a =>
        simp only [Option.map_some] at hi
        split at hi
        · rename_i ha
          cases hi
          obtain ⟨v, h1, b, qs, h2, h3⟩ := h.2 i _ e
          exact ⟨v, h1, b, qs, by rw [List.getElem?_take_of_lt ha]; exact h2, h3⟩
        · cases hi
/-- a turn's end -/
theorem rest_of (hw : Wld K H R st as) {st' : Sto} {H' : Hp} {as' : As} {σ : Ev} {σV : L2.St} {own : List Nat} {cut : Bool} {P : Fl → Sto → Prop} (po : Post K R H st as st' H' as') (hl : Loc K H' (Zof st' as' R) as' σ σV) (h : (rest st.length own cut σ st').wp P) :
    ∃ σ2 st2 as2, P (.nx σ2) st2 ∧ Post K R H st as st2 H' as2 ∧ Loc K H' (Zof st2 as2 R) as2 σ2 σV := by
  unfold rest at h
  cases cut with
  | false => exact ⟨_, _, as', h, po, hl.wipeE own⟩
  | true =>
    obtain ⟨p2, z⟩ := po.cut hw (po.longer hw)
    exact ⟨_, _, _, h, p2, (hl.wipeE own).cutE z st.length⟩
end
/-- what is wished of exceptions; the classes' addresses -/
structure XV where
  W : L2.WX
  cl : Nat → Option Addr
/-- how a statement ends, by trees -/
def Fin (K : PySem.W.Frag) (Vx : XV) (R : Addr → Prop) (H : Hp) (st : Sto) (as : As) (D : Ends) (fl : Fl) (st' : Sto) : Prop :=
  match fl with
  | .nx σ' => ∀ σV' H' as', Post K R H st as st' H' as' → Loc K H' (Zof st' as' R) as' σ' σV' → D.nx σV' H'
  | .rt w => ∀ v H' as', Post K R H st as st' H' as' → RelW K H' (Zof st' as' R) as' w v → D.rt v H'
  | .xc c xs => ∀ cls d σV' H' as', Post K R H st as st' H' as' → ExcR Vx.cl c xs cls d H' → Vx.W cls d σV' H'
theorem Fin.trans {K : PySem.W.Frag} {Vx : XV} {R : Addr → Prop} {H H1 : Hp} {st st1 : Sto} {as as1 : As} {D : Ends} (po : Post K R H st as st1 H1 as1) : ∀ {fl : Fl} {st' : Sto}, Fin K Vx R H st as D fl st' → Fin K Vx R H1 st1 as1 D fl st'
  | .nx σ', st', h => fun σV' H' as' p l => h σV' H' as' (po.trans p) l
  | .rt w, st', h => fun v H' as' p r => h v H' as' (po.trans p) r
  | .xc c xs, st', h => fun cls d σV' H' as' p r => h cls d σV' H' as' (po.trans p) r
section
variable (K : PySem.W.Frag) (Vx : XV) (Φ : Nat → List W → Sto → Res W) (G : List D)
def rdS (f : Ev → Sto → Res Fl) : TS := fun D σV H => ∃ R σ st as, Loc K H (Zof st as R) as σ σV ∧ Wld K H R st as ∧ (f σ st).wp fun fl st' => Fin K Vx R H st as D fl st'
def tS (s : S) : TS := rdS K Vx (ex Φ G s)
def tSs (r : Ss) : TS := rdS K Vx (exs Φ G r)
end
section
variable {K : PySem.W.Frag} {Vx : XV} {Φ : Nat → List W → Sto → Res W} {G : List D}
theorem nil_read (D : Ends) (σV : L2.St) (H : Hp) (h : tSs K Vx Φ G .nil D σV H) : tNext D σV H := by
  obtain ⟨R, σ, st, as, hl, hw, h⟩ := h
  rw [exs] at h
  exact h σV H as (.refl hw) hl
theorem cons_read {s : S} {r : Ss} (D : Ends) (σV : L2.St) (H : Hp) (h : tSs K Vx Φ G (.cons s r) D σV H) : tSeq (tS K Vx Φ G s) (tSs K Vx Φ G r) D σV H := by
  obtain ⟨R, σ, st, as, hl, hw, h⟩ := h
  rw [exs] at h
  refine ⟨R, σ, st, as, hl, hw, wp_mono (wp_bind h) fun fl st1 q => ?_⟩
  cases fl with
  | nx σ1 => exact fun σV' H' as' p l => ⟨R, σ1, st1, as', l, p.wld, wp_mono q fun _ _ z => Fin.trans p z⟩
  | rt w => exact q
  | xc c xs => exact q
theorem ret_read {e : E} (D : Ends) (σV : L2.St) (H : Hp) (h : tS K Vx Φ G (.ret e) D σV H) : tRet (tE K Φ G e) D σV H := by
  obtain ⟨R, σ, st, as, hl, hw, h⟩ := h
  rw [ex] at h
  refine rd_step hl hw (wp_bind h) fun w st1 v H1 as1 p po l r => ?_
  obtain ⟨d, st2, p2, po2, r2⟩ := val_of po.wld r (wp_bind p)
  exact p2 v H1 as1 (po.trans po2) r2
theorem retM_read {i : Nat} (D : Ends) (σV : L2.St) (H : Hp) (h : tS K Vx Φ G (.retM i) D σV H) : tRet (tE K Φ G (.var i)) D σV H := by
  obtain ⟨R, σ, st, as, hl, hw, h⟩ := h
  rw [ex] at h
  refine ⟨R, σ, st, as, hl, hw, ?_⟩
  rw [ev]
  split at h
  · exact h
  · exact h.elim
theorem if_read {c : E} {a b : Ss} (D : Ends) (σV : L2.St) (H : Hp) (h : tS K Vx Φ G (.ife c a b) D σV H) : tIfS (tT K Φ G c) (tSs K Vx Φ G a) (tSs K Vx Φ G b) D σV H := by
  obtain ⟨R, σ, st, as, hl, hw, h⟩ := h
  rw [ex] at h
  unfold tIfS tT
  refine rd_step hl hw (wp_bind h) fun k st1 v H1 as1 p po l r => ?_
  subst r
  cases v with
  | true =>
    rw [if_pos rfl] at p ⊢
    exact ⟨R, σ, st1, as1, l, po.wld, wp_mono p fun _ _ z => Fin.trans po z⟩
  | false =>
    rw [if_neg Bool.false_ne_true] at p ⊢
    exact ⟨R, σ, st1, as1, l, po.wld, wp_mono p fun _ _ z => Fin.trans po z⟩
theorem expr_read {e : E} (D : Ends) (σV : L2.St) (H : Hp) (h : tS K Vx Φ G (.expr e) D σV H) : tDrop (tE K Φ G e) D σV H := by
  obtain ⟨R, σ, st, as, hl, hw, h⟩ := h
  rw [ex] at h
  exact rd_step hl hw (wp_bind h) fun w st1 v H1 as1 p po l r => p σV H1 as1 po l
theorem pass_read (D : Ends) (σV : L2.St) (H : Hp) (h : tS K Vx Φ G .pass D σV H) : tNext D σV H := by
  obtain ⟨R, σ, st, as, hl, hw, h⟩ := h
  rw [ex] at h
  exact h σV H as (.refl hw) hl
theorem never_read (D : Ends) (σV : L2.St) (H : Hp) (h : tS K Vx Φ G .never D σV H) : tNever D σV H := by
  obtain ⟨R, σ, st, as, hl, hw, h⟩ := h
  rw [ex] at h
  exact h
/-- a call whose exception is passed on: what is asked ahead of it -/
def tX (K : PySem.W.Frag) (Vx : XV) (Φ : Nat → List W → Sto → Res W) (G : List D) (f : Nat) (es : Es) : TE := fun σV H Q => tA K Φ G es σV H fun vs H1 => spX K Vx.cl (Φ f) vs H1 Q fun cls d H' => ∀ σV', Vx.W cls d σV' H'
theorem exprX_read {f : Nat} {es : Es} (D : Ends) (σV : L2.St) (H : Hp) (h : tS K Vx Φ G (.exprX f es) D σV H) : tDrop (tX K Vx Φ G f es) D σV H := by
  obtain ⟨R, σ, st, as, hl, hw, h⟩ := h
  rw [ex] at h
  unfold tDrop tX tA
  refine rd_step hl hw (wp_bind h) fun ws st1 vs H1 as1 p po l r => ⟨R, ws, st1, as1, r, po.wld, ?_⟩
  revert p
  cases Φ f ws st1 with
  | ok w st2 => exact fun p v H' as' po2 _ => p σV H' as' (po.trans po2) (l.grow po2.grow po2.ext)
  | exc c xs st2 => exact fun p cls d H' as' po2 e σV' => p cls d σV' H' as' (po.trans po2) e
  | bad => exact fun p => p
theorem retX_read {f : Nat} {es : Es} (D : Ends) (σV : L2.St) (H : Hp) (h : tS K Vx Φ G (.retX f es) D σV H) : tRet (tX K Vx Φ G f es) D σV H := by
  obtain ⟨R, σ, st, as, hl, hw, h⟩ := h
  rw [ex] at h
  unfold tRet tX tA
  refine rd_step hl hw (wp_bind h) fun ws st1 vs H1 as1 p po l r => ⟨R, ws, st1, as1, r, po.wld, ?_⟩
  revert p
  cases Φ f ws st1 with
  | ok w st2 =>
    intro p v H' as' po2 r2
    obtain ⟨d, st3, p3, po3, r3⟩ := val_of po2.wld r2 (wp_bind p)
    exact p3 v H' as' ((po.trans po2).trans po3) r3
  | exc c xs st2 => exact fun p cls d H' as' po2 e σV' => p cls d σV' H' as' (po.trans po2) e
  | bad => exact fun p => p
theorem nvr_read (D : Ends) (σV : L2.St) (H : Hp) (h : tS K Vx Φ G .nvr D σV H) : tNever D σV H := by
  obtain ⟨R, σ, st, as, hl, hw, h⟩ := h
  rw [ex] at h
  exact h
theorem asg_read {i : Nat} {e : E} (D : Ends) (σV : L2.St) (H : Hp) (h : tS K Vx Φ G (.asg i e false) D σV H) : tAsg (tE K Φ G e) (gName i) D σV H := by
  obtain ⟨R, σ, st, as, hl, hw, h⟩ := h
  rw [ex] at h
  refine rd_step hl hw (wp_bind h) fun w st1 v H1 as1 p po l r => ?_
  rw [if_neg Bool.false_ne_true] at p
  obtain ⟨d, st2, p2, po2, r2⟩ := val_of po.wld r (wp_bind p)
  exact p2 _ H1 as1 (po.trans po2) ((l.grow po2.grow po2.ext).set (w := .d d) r2)
theorem asgT_read {is : List Nat} {e : E} (D : Ends) (σV : L2.St) (H : Hp) (h : tS K Vx Φ G (.asgT is e) D σV H) : tAsg (tE K Φ G e) (tG K (.tp is)) D σV H := by
  obtain ⟨R, σ, st, as, hl, hw, h⟩ := h
  rw [ex] at h
  refine rd_step hl hw (wp_bind h) fun w st1 v H1 as1 p po l r => ?_
  split at p
  · rename_i xs
    obtain ⟨fl, hf, q⟩ := wp_ofO p
    rw [Option.map_eq_some_iff] at hf
    obtain ⟨σ1, hσ, rfl⟩ := hf
    exact tG_of (t := .tp is) (d := .tuple xs) hσ r l fun σV1 l1 _ => q σV1 H1 as1 po l1
  · exact p.elim
theorem asgP_read {is : List Nat} {es : Es} {c : Cxt} {sc : Scope} {pys : List Expr} (hm : matchEs c es sc pys = true) (hn : pys.length ≤ 1000) (D : Ends) (σV : L2.St) (H : Hp) (h : tS K Vx Φ G (.asgP is es) D σV H) : tAsg (tTup (tAD K Φ G es)) (tG K (.tp is)) D σV H := by
  obtain ⟨R, σ, st, as, hl, hw, h⟩ := h
  rw [ex] at h
  unfold tAsg tTup tAD
  refine rd_step hl hw (wp_self (wp_bind h)) fun ds st1 vs H1 as1 p po l r => ⟨?_, fun a ha => ?_⟩
  · rw [← r.length, evD_len p.1 hm]
    exact lim_line (Nat.le_trans hn (by decide))
  · obtain ⟨fl, hf, q⟩ := wp_ofO p.2
    rw [Option.map_eq_some_iff] at hf
    obtain ⟨σ1, hσ, rfl⟩ := hf
    have po1 := po.trans (Post.alloc (o := .tup vs) po.wld ha)
    have g := grows_new (Z := Zof st1 as1 R) (o := .tup vs) ha
    exact tG_of (t := .tp is) (d := .tuple ds) hσ (.tup ⟨upd_same, po.wld.notZ ha⟩ (r.grow g)) (l.grow g ⟨[], by simp⟩) fun σV1 l1 _ => q σV1 _ as1 po1 l1
theorem par_read {i j : Nat} {es : Es} (hij : i ≠ j) (D : Ends) (σV : L2.St) (H : Hp) (h : tS K Vx Φ G (.asgP [i, j] es) D σV H) : tPar i j (tAD K Φ G es) D σV H := by
  obtain ⟨R, σ, st, as, hl, hw, h⟩ := h
  rw [ex] at h
  first | unfold tPar tAD | unfold tPar3 tAD
  refine rd_step hl hw (wp_bind h) fun ds st1 vs H1 as1 p po l r => ?_
  obtain ⟨fl, hf, q⟩ := wp_ofO p
  rw [Option.map_eq_some_iff] at hf
  obtain ⟨σ1, hσ, rfl⟩ := hf
  have hlen := storeT_len hσ
  match ds, vs, r, hlen, hσ with
  | [d, e], _, .cons r1 (.cons r2 .nil), _, hσ =>
    cases hσ
    exact ⟨_, _, rfl, q _ H1 as1 po ((l.set (w := .d d) r1).set (w := .d e) r2)⟩
theorem par3_read {i j k : Nat} {es : Es} (D : Ends) (σV : L2.St) (H : Hp) (h : tS K Vx Φ G (.asgP [i, j, k] es) D σV H) : tPar3 i j k (tAD K Φ G es) D σV H := by
  obtain ⟨R, σ, st, as, hl, hw, h⟩ := h
  rw [ex] at h
  first | unfold tPar tAD | unfold tPar3 tAD
  refine rd_step hl hw (wp_bind h) fun ds st1 vs H1 as1 p po l r => ?_
  obtain ⟨fl, hf, q⟩ := wp_ofO p
  rw [Option.map_eq_some_iff] at hf
  obtain ⟨σ1, hσ, rfl⟩ := hf
  have hlen := storeT_len hσ
  match ds, vs, r, hlen, hσ with
  | [d, e, f], _, .cons r1 (.cons r2 (.cons r3 .nil)), _, hσ =>
    cases hσ
    exact ⟨_, _, _, rfl, q _ H1 as1 po (((l.set (w := .d d) r1).set (w := .d e) r2).set (w := .d f) r3)⟩
/-- the new object comes into the store -/
theorem PostF.push {R : Addr → Prop} {H : Hp} {st : Sto} {as : As} {p : Addr} {st' : Sto} {H' : Hp} {as' : As} (h : PostF K R H st as p st' H' as') {ob : Ob} (l : ob.live = true) (s : Slot K H' (Zof st' as' fun q => R q ∨ q = p) ob p []) :
    Post K R H st as (st' ++ [ob]) H' (as' ++ [(p, [])]) ∧ Zof (st' ++ [ob]) (as' ++ [(p, [])]) R = Zof st' as' (fun q => R q ∨ q = p) := by
  obtain ⟨w, e⟩ := h.wld.push h.np l s
  refine ⟨⟨w, by rw [e]; exact h.grow, ?_, h.res⟩, e⟩
  obtain ⟨m, e⟩ := h.ext
  exact ⟨m ++ [(p, [])], by rw [e, List.append_assoc]⟩
theorem newOb_live {d : D} {ob : Ob} (h : newOb d = some ob) : ob.live = true := by
  cases d <;> simp only [newOb] at h <;> try (cases h; done)
  all_goals cases h; rfl
theorem asgM_read {i : Nat} {e : E} (D : Ends) (σV : L2.St) (H : Hp) (h : tS K Vx Φ G (.asg i e true) D σV H) : tAsg (tEF K Φ G e) (gName i) D σV H := by
  obtain ⟨R, σ, st, as, hl, hw, h⟩ := h
  rw [ex] at h
  refine ⟨R, σ, st, as, hl, hw, wp_mono (wp_bind h) fun w st' q => ?_⟩
  rw [if_pos rfl] at q
  cases w with
  | e a => exact q.elim
  | d d =>
    intro p ob H' as' hob po sl
    simp only at q
    split at q
    · rw [hob] at q
      obtain ⟨pp, ez⟩ := po.push (newOb_live hob) sl
      refine q _ H' _ pp ?_
      rw [ez]
      have hl' : Loc K H' (Zof st' as' fun q => R q ∨ q = p) (as' ++ [(p, [])]) σ σV := by
        obtain ⟨m, em⟩ := po.ext
        exact hl.grow po.grow ⟨m ++ [(p, [])], by rw [em, List.append_assoc]⟩
      refine hl'.set (w := .r st'.length) ⟨p, [], ?_, rfl⟩
      rw [po.wld.len]
      simp
    · exact q.elim
  | r a =>
    exact fun v H' as' po r => q _ H' as' po ((hl.grow po.grow po.ext).set r)
theorem retN_read {e : E} (D : Ends) (σV : L2.St) (H : Hp) (h : tS K Vx Φ G (.retN e) D σV H) : tRet (tEF K Φ G e) D σV H := by
  obtain ⟨R, σ, st, as, hl, hw, h⟩ := h
  rw [ex] at h
  refine ⟨R, σ, st, as, hl, hw, wp_mono (wp_bind h) fun w st' q => ?_⟩
  cases w with
  | e a => exact q.elim
  | d d =>
    intro p ob H' as' hob po sl
    simp only at q
    split at q
    · rw [hob] at q
      obtain ⟨pp, ez⟩ := po.push (newOb_live hob) sl
      refine q _ H' _ pp ⟨p, [], ?_, rfl⟩
      rw [po.wld.len]
      simp
    · exact q.elim
  | r a => exact fun v H' as' po r => q v H' as' po r
theorem lst_readF {es : Es} {c : Cxt} {sc : Scope} {pys : List Expr} (hm : matchEs c es sc pys = true) (hn : pys.length ≤ 1000) (σV : L2.St) (H : Hp) (Q : VK) (h : tEF K Φ G (.lst es) σV H Q) : tLst (tAD K Φ G es) σV H Q := by
  obtain ⟨R, σ, st, as, hl, hw, q⟩ := h
  rw [ev] at q
  unfold tLst tAD
  refine rd_step hl hw (wp_self (wp_bind q)) fun ds st1 vs H1 as1 p po l r => ⟨?_, fun a ha => ?_⟩
  · rw [← r.length, evD_len p.1 hm]
    exact lim_line (Nat.le_trans hn (by decide))
  · have pf := PostF.fresh (o := .lst vs) po ha
    exact AnsL.ofF p.2 a vs _ as1 pf upd_same (r.grow (grows_keep ha fun q z => by
      rcases z with z | z | z
      · exact .inl (.inl z)
      · exact .inl (.inr z)
      · exact .inr z))
theorem dnew_readF (σV : L2.St) (H : Hp) (Q : VK) (h : tEF K Φ G .dnew σV H Q) : tDNewK σV H Q := by
  obtain ⟨R, σ, st, as, hl, hw, q⟩ := h
  rw [ev] at q
  intro p hp
  exact q p (.dct []) _ as rfl (.fresh (.refl hw) hp) (.dK upd_same .nil)
theorem rep_readF {es : Es} {k : E} {c : Cxt} {sc : Scope} {pys : List Expr} (hm : matchEs c es sc pys = true) (hn : pys.length ≤ 1000) (σV : L2.St) (H : Hp) (Q : VK) (h : tEF K Φ G (.rep es k) σV H Q) : tOp rRep (tLst (tAD K Φ G es)) (tE K Φ G k) σV H Q := by
  obtain ⟨R, σ, st, as, hl, hw, q⟩ := h
  rw [ev] at q
  unfold tOp tLst tAD
  refine rd_step (f := evD Φ G es) hl hw (wp_self (wp_bind q)) fun ds st1 vs H1 as1 p po l r => ⟨?_, fun a ha => ?_⟩
  · rw [← r.length, evD_len p.1 hm]
    exact lim_line (Nat.le_trans hn (by decide))
  · have po1 := po.trans (Post.alloc (o := .lst vs) po.wld ha)
    have l1 : Loc K (upd H1 a (.lst vs)) (Zof st1 as1 R) as1 σ σV := l.grow (grows_new ha) ⟨[], by simp⟩
    refine rd_step l1 po1.wld (wp_bind p.2) fun w st2 v H2 as2 p2 po2 l2 r2 => ?_
    split at p2
    · rename_i n
      obtain rfl := relW_int r2
      split at p2
      · rename_i hb
        have e1 := (po2.grow a (.lst vs) upd_same (po.wld.notZ ha) (fun _ z => by cases z)).1
        refine ⟨a, n, vs, rfl, rfl, e1, hb.2.1, hb.2.2, by rw [← r.length]; exact lim_line hb.1, fun b hb' => ?_⟩
        have pf := PostF.fresh (o := .lst (List.replicate n.toNat vs).flatten) (po1.trans po2) hb'
        exact AnsL.ofF p2 b _ _ as2 pf upd_same ((r.grow (((grows_new ha).trans po2.grow).trans (grows_keep hb' fun q z => by
          rcases z with z | z | z
          · exact .inl (.inl z)
          · exact .inl (.inr z)
          · exact .inr z))).rep n.toNat)
      · exact p2.elim
    · exact p2.elim
theorem call_ref {f : Nat} {es : Es} (σV : L2.St) (H : Hp) (D : Ends) {i : Nat} (h : tS K Vx Φ G (.asg i (.call f es) true) D σV H) : tAsg (tE K Φ G (.call f es)) (gName i) D σV H := by
  obtain ⟨R, σ, st, as, hl, hw, h⟩ := h
  rw [ex] at h
  refine rd_step hl hw (wp_bind h) fun w st1 v H1 as1 p po l r => ?_
  rw [if_pos rfl] at p
  cases w with
  | e a => exact p.elim
  | d d => exact p.elim
  | r a => exact p _ H1 as1 po (l.set r)
theorem retC_read {f : Nat} {es : Es} (D : Ends) (σV : L2.St) (H : Hp) (h : tS K Vx Φ G (.retN (.call f es)) D σV H) : tRet (tE K Φ G (.call f es)) D σV H := by
  obtain ⟨R, σ, st, as, hl, hw, h⟩ := h
  rw [ex] at h
  refine ⟨R, σ, st, as, hl, hw, wp_mono (wp_bind h) fun w st' q => ?_⟩
  cases w with
  | e a => exact q.elim
  | d d => exact q.elim
  | r a => exact fun v H' as' po r => q v H' as' po r
theorem listy_ev {b : E} (hb : listyE b = true) {σ : Ev} {st st' : Sto} {w : W} (h : ev Φ G b σ st = .ok w st') : ∃ ys, w = .d (.list ys) := by
  cases b <;> first | (cases hb; done) | skip
  · rw [ev] at h
    cases e : evD Φ G _ σ st with
    | ok xs st1 =>
      rw [e] at h
      cases h
      exact ⟨_, rfl⟩
    | exc _ _ _ => rw [e] at h; cases h
    | bad => rw [e] at h; cases h
  · rw [ev] at h
    cases e : evI Φ G _ σ st with
    | ok xs st1 =>
      rw [e, Res.bind_ok] at h
      revert h
      generalize compL _ xs st1 = c
      intro h
      cases c with
      | ok ys st2 =>
        cases h
        exact ⟨_, rfl⟩
      | exc _ _ _ => cases h
      | bad => cases h
    | exc _ _ _ => rw [e] at h; cases h
    | bad => rw [e] at h; cases h
theorem cat_readF {a b : E} (hb : freshE (.bin .Add a b) = true) (σV : L2.St) (H : Hp) (Q : VK) (h : tEF K Φ G (.bin .Add a b) σV H Q) : tOp (rCatL K) (tE K Φ G a) (tE K Φ G b) σV H Q := by
  obtain ⟨R, σ, st, as, hl, hw, q⟩ := h
  rw [ev] at q
  refine rd_step hl hw (wp_bind q) fun x st1 v H1 as1 p po l r => ?_
  refine rd_step l po.wld (wp_self (wp_bind p)) fun y st2 u H2 as2 p2 po2 l2 r2 => ?_
  obtain ⟨p0, p2⟩ := p2
  obtain ⟨ys, rfl⟩ := listy_ev hb p0
  obtain ⟨w, hw2, q⟩ := wp_ofO p2
  rw [Option.bind_eq_some_iff] at hw2
  obtain ⟨d, hd, hw2⟩ := hw2
  simp only [peek, Option.bind_some, Option.map_eq_some_iff] at hw2
  obtain ⟨z, hz, rfl⟩ := hw2
  have pk := pk_of po2.wld (r.grow po2.grow po2.ext) hd
  have pk2 : Pk K H2 (Zof st2 as2 R) (.list ys) u := .rel r2
  cases d <;> simp only [binD, addD] at hz <;> try (cases hz; done)
  split at hz
  · rename_i hlim
    cases hz
    obtain ⟨e1, vs, rfl, s1, r1⟩ := pk.list
    obtain ⟨e2, us, rfl, s2, r3⟩ := pk2.list
    refine ⟨e1, e2, vs, us, rfl, rfl, s1, s2, by rw [← r1.length, ← r3.length]; exact lim_line hlim, fun p hp => ?_⟩
    have pf := PostF.fresh (o := .lst (vs ++ us)) (po.trans po2) hp
    exact AnsL.ofF q p _ _ as2 pf upd_same ((r1.app r3).grow (grows_keep hp fun q z => by
      rcases z with z | z | z
      · exact .inl (.inl z)
      · exact .inl (.inr z)
      · exact .inr z))
  · cases hz
/-! loops -/
theorem for_read {t : Tg} {it : I} {b : Ss} {own : List Nat} {cut : Bool} (D : Ends) (σV : L2.St) (H : Hp) (h : tS K Vx Φ G (.fori t it b own cut) D σV H) : tFor (tI K Φ G it) (tG K t) (tSs K Vx Φ G b) D σV H := by
  obtain ⟨R, σ, st, as, hl, hw, h⟩ := h
  rw [ex] at h
  refine ⟨R, σ, st, as, hl, hw, wp_mono (wp_bind h) fun xs st1 h1 J H1 as1 po yl => ?_⟩
  refine ⟨fun i m σV' Hc => m = xs.length - i ∧ i ≤ xs.length ∧ ∃ σ2 st2 as2, Loc K Hc (Zof st2 as2 R) as2 σ2 σV' ∧ Post K R H1 st1 as1 st2 Hc as2 ∧ (forL _ (xs.drop i) σ2 st2).wp (fun fl st' => Fin K Vx R H st as D fl st'),
    ⟨xs.length, by simp, Nat.zero_le _, σ, st1, as1, hl.grow po.grow po.ext, .refl po.wld, h1⟩, ?_⟩
  rintro i m σV' Hc ⟨rfl, hi, σ2, st2, as2, hl2, po2, c2⟩
  have g2 := po2.grow
  by_cases hlt : i < xs.length
  · refine .inr ⟨yl.go Hc _ g2 i hlt, fun σV' Hn => ∃ m', m' < xs.length - i ∧ (m' = xs.length - (i + 1) ∧ i + 1 ≤ xs.length ∧ ∃ σ2 st2 as2, Loc K Hn (Zof st2 as2 R) as2 σ2 σV' ∧ Post K R H1 st1 as1 st2 Hn as2 ∧ (forL _ (xs.drop (i + 1)) σ2 st2).wp (fun fl st' => Fin K Vx R H st as D fl st')), fun _ _ z => z, fun x H3 hy => ?_⟩
    obtain ⟨hH, dd, hd, rd⟩ := yl.yld Hc _ g2 (fun p hp => po2.wld.zof hp) i x H3 hlt hy
    have dr : xs.drop i = dd :: xs.drop (i + 1) := by
      rw [List.drop_eq_getElem_cons hlt]
      rw [List.getElem?_eq_getElem hlt] at hd
      rw [Option.some.inj hd]
    rw [dr, forL] at c2
    have po3 : Post K R Hc st2 as2 st2 H3 as2 := by
      rcases hH with rfl | ⟨T, o, hT, rfl⟩
      · exact .refl po2.wld
      · exact .alloc po2.wld hT
    have c3 := wp_bind c2
    obtain ⟨σ1, hσ1, c5⟩ := wp_ofO (wp_bind c3)
    refine tG_of hσ1 rd (hl2.grow po3.grow po3.ext) fun σV1 hl1 _ => ⟨R, σ1, st2, as2, hl1, po3.wld, wp_mono (wp_bind c5) fun fl st4 q => ?_⟩
    cases fl with
    | nx σ4 =>
      intro σV4 H4 as4 po4 hl4
      obtain ⟨σ5, st5, as5, q5, po5, hl5⟩ := rest_of po.wld ((po2.trans po3).trans po4) hl4 q
      exact ⟨xs.length - (i + 1), by omega, rfl, by omega, σ5, st5, as5, hl5, po5, q5⟩
    | rt w => exact fun v H' as' po4 r => q v H' as' (((po.trans po2).trans po3).trans po4) r
    | xc c xs => exact fun cls d σV' H' as' po4 r => q cls d σV' H' as' (((po.trans po2).trans po3).trans po4) r
  · have e : i = xs.length := by omega
    subst e
    rw [List.drop_length] at c2
    exact .inl ⟨yl.stop Hc _ g2, c2 σV' Hc as2 (po.trans po2) hl2⟩
theorem while_read {c : E} {b : Ss} {own : List Nat} {cut : Bool} (D : Ends) (σV : L2.St) (H : Hp) (h : tS K Vx Φ G (.whil c b own cut) D σV H) : tWhile (tT K Φ G c) (tSs K Vx Φ G b) D σV H := by
  obtain ⟨R, σ, st, as, hl, hw, h⟩ := h
  rw [ex] at h
  refine ⟨fun m σV' Hc => ∃ σ2 st2 as2, Loc K Hc (Zof st2 as2 R) as2 σ2 σV' ∧ Post K R H st as st2 Hc as2 ∧ (whileL _ _ m σ2 st2).wp (fun fl st' => Fin K Vx R H st as D fl st'), ⟨FUEL, σ, st, as, hl, .refl hw, h⟩, ?_⟩
  rintro m σV' Hc ⟨σ2, st2, as2, hl2, po2, c2⟩
  cases m with
  | zero => exact c2.elim
  | succ n =>
    rw [whileL] at c2
    refine rd_step hl2 po2.wld (wp_bind c2) fun k st3 v H3 as3 p3 po3 l3 r3 => ?_
    subst r3
    cases v with
    | false =>
      rw [if_neg Bool.false_ne_true] at p3 ⊢
      exact p3 σV' H3 as3 (po2.trans po3) l3
    | true =>
      rw [if_pos rfl] at p3 ⊢
      refine ⟨fun σV' Hn => ∃ m', m' < n + 1 ∧ ∃ σ2 st2 as2, Loc K Hn (Zof st2 as2 R) as2 σ2 σV' ∧ Post K R H st as st2 Hn as2 ∧ (whileL _ _ m' σ2 st2).wp (fun fl st' => Fin K Vx R H st as D fl st'), fun _ _ z => z, R, σ2, st3, as3, l3, po3.wld, wp_mono (wp_bind (wp_bind p3)) fun fl st4 q => ?_⟩
      cases fl with
      | nx σ4 =>
        intro σV4 H4 as4 po4 hl4
        obtain ⟨σ5, st5, as5, q5, po5, hl5⟩ := rest_of hw ((po2.trans po3).trans po4) hl4 q
        exact ⟨n, Nat.lt_succ_self n, σ5, st5, as5, hl5, po5, q5⟩
      | rt w => exact fun v H' as' po4 r => q v H' as' ((po2.trans po3).trans po4) r
      | xc c xs => exact fun cls d σV' H' as' po4 r => q cls d σV' H' as' ((po2.trans po3).trans po4) r
end
end TB
set_option maxRecDepth 100000
/-! TBStm2: statements that change an object. -/
namespace TB
open PySem PySem.Spec PyProof.Rows L2
section
variable {K : PySem.W.Frag} {R : Addr → Prop} {st : Sto} {as : As} {H : Hp} {Z : Addr → Prop}
theorem any_put {α : Type} (p : α → Bool) : True := trivial
end
section
variable {X : Cx}
def rExtX (K : PySem.W.Frag) : V → List V → Hp → VK → Prop := fun x vs H Q => ∃ l b xs zs, x = .ref l ∧ vs = [.ref b] ∧ H l = some (.lst xs) ∧ LsX K H b zs ∧ xs.length + zs.length ≤ sizeLine ∧ Q .non (upd H l (.lst (xs ++ zs)))
theorem mt_extX : MtM X "list.extend" (rExtX X.K) := by
  intro pins s σ H x vs v us Q I rx rv h
  obtain ⟨l, b, xs, zs, rfl, rfl, hH, hB, hz, q⟩ := h
  cases rx
  obtain ⟨u, rfl, ru⟩ := rv.one
  cases ru
  obtain ⟨z, its, n, r, hl, e⟩ := I.lstM hH
  obtain ⟨its2, n2, r2, e2, z2⟩ := hB.at I
  have hl2 := r2.length
  have hsz : its.toArray.size + its2.toArray.size ≤ sizeLine := by rw [List.size_toArray, List.size_toArray]; omega
  have hlong : ¬ (!its.toArray.isEmpty && Builtin.List.listTooLong (its.toArray.size + its2.toArray.size)) = true := by
    rw [notLongL hsz, Bool.and_false]
    exact Bool.false_ne_true
  refine call_meets PySem.F.slot_list_extend ⟨_, e, rfl⟩ PySem.F.entry_list_extend (PySem.F.args_list_extend_2 _ _)
    (AutoSeq1.list_extend_list_list_0 l its.toArray n b its2.toArray n2 hlong (by rw [List.size_toArray]; omega) (by omega)) ⟨e, e2, ?_⟩
  refine ⟨.non, _, I.lset (its' := its ++ its2) hH e (by simp) (r.append r2) ?_, rfl, q⟩
  rw [List.length_append]
  omega
/-- o[y] = v, by trees -/
def rSetX (K : PySem.W.Frag) : TSet := fun o y v H Q => ∃ R st as a p qs ob ob' e d, Wld K H R st as ∧ st[a]? = some ob ∧ as[a]? = some (p, qs) ∧ o = .ref p ∧ Rel K H (Zof st as R) e y ∧ Rel K H (Zof st as R) d v ∧ setSlot ob e d = some ob' ∧ ∀ H', Post K R H st as (st.set a ob') H' as → Q H'
theorem set_X (hu : X.A.units + 1 < cLine) : PSet X (rSetX X.K) := by
  intro pins s σ H o y v ov iv u Q I ro ri rv ⟨R, st, as, a, p, qs, ob, ob', e, d, w, h1, h2, eo, re, rd, hs, q⟩
  subst eo
  have sl := w.slot a ob p qs h1 h2
  cases ob with
  | lst xs =>
    cases e <;> simp only [setSlot] at hs <;> try (cases hs; done)
    rename_i i
    cases re
    rw [Option.map_eq_some_iff] at hs
    obtain ⟨j, hj, rfl⟩ := hs
    cases sl with
    | lst e1 r =>
      have po := post_write (o := .lst _) w h1 h2 rfl (ob' := .lst (xs.set j d)) rfl (.lst upd_same ((r.set rd j).grow (grows_mut (.inl ⟨a, _, p, _, h1, rfl, h2, .inl rfl⟩))))
      exact set_list pins s σ H _ _ v ov iv u Q I ro ri rv ⟨p, _, i, j, rfl, rfl, e1, by rw [← r.length]; exact hj, q _ po⟩
  | dct es =>
    simp only [setSlot] at hs
    split at hs
    · rename_i hk
      cases hs
      rw [Bool.and_eq_true, decide_eq_true_eq] at hk
      obtain ⟨ok, hlen⟩ := hk
      cases (show ov = Value.ref p from ro)
      have hzp : Zof st as R p := .inl ⟨a, _, p, _, h1, rfl, h2, .inl rfl⟩
      simp only [keysOk, Bool.or_eq_true, Bool.and_eq_true] at ok
      have fin : ∀ {H' : Hp}, Post X.K R H st as (st.set a (.dct (putD es e d))) H' as → ∀ s', Inv X pins σ H' s' → ∃ H', Inv X pins σ H' s' ∧ Q H' := fun po s' I' => ⟨_, I', q _ po⟩
      rcases ok with ⟨o1, o2⟩ | ⟨o1, o2⟩
      · obtain ⟨k, rfl⟩ := flat_key o2
        obtain rfl := re.key
        have key : ∀ {kvs : List (Key × V)}, RelK X.K H (Zof st as R) es kvs → Post X.K R H st as (st.set a (.dct (putD es (kD k) d))) (upd H p (.dK (putK kvs k v))) as := fun {kvs} r => by
          refine post_write w h1 h2 rfl rfl ?_
          cases sl <;> exact .dK upd_same ((r.put rd).grow (grows_mut hzp))
        cases sl with
        | @dK _ kvs _ e1 r =>
          exact d_setItem hu I (.inl ⟨kvs, k, e1, rfl, by rw [← r.length]; exact Nat.lt_of_lt_of_le hlen (lim_line (Nat.le_refl _)), rfl⟩) ri rv (fin (key r))
        | @dT _ kvs _ e1 r =>
          by_cases hn : es = []
          · subst hn
            cases r
            refine d_setItem hu (empty_TK I e1) (.inl ⟨[], k, upd_same, rfl, by rw [List.length_nil]; exact Nat.lt_of_lt_of_le (by decide) sizeL, rfl⟩) ri rv ?_
            rw [upd_upd]
            exact fin (key .nil)
          · rw [r.tups hn] at o1; cases o1
      · obtain ⟨ks, rfl⟩ := tup_key o2
        cases re with
        | @tup b xs _ h4 h5 =>
          obtain rfl := h5.keys
          have key : ∀ {kvs : List (List Key × V)}, RelT X.K H (Zof st as R) es kvs → Post X.K R H st as (st.set a (.dct (putD es (.tuple (ks.map kD)) d))) (upd H p (.dT (putK kvs ks v))) as := fun {kvs} r => by
            refine post_write w h1 h2 rfl rfl ?_
            cases sl <;> exact .dT upd_same ((r.put rd).grow (grows_mut hzp))
          cases sl with
          | @dT _ kvs _ e1 r =>
            exact d_setItem hu I (.inr ⟨kvs, ks, b, e1, rfl, h4.1, by rw [← r.length]; exact Nat.lt_of_lt_of_le hlen (lim_line (Nat.le_refl _)), rfl⟩) ri rv (fin (key r))
          | @dK _ kvs _ e1 r =>
            by_cases hn : es = []
            · subst hn
              cases r
              refine d_setItem hu (empty_KT I e1) (.inr ⟨[], ks, b, upd_same, rfl, ?_, by rw [List.length_nil]; exact Nat.lt_of_lt_of_le (by decide) sizeL, rfl⟩) ri rv ?_
              · rw [upd_ne (ne_of h4.1 e1 (by intro z; cases z))]; exact h4.1
              · rw [upd_upd]
                exact fin (key .nil)
            · rw [r.flat hn] at o1; cases o1
    · cases hs
  | dl _ => cases e <;> cases hs
  | frz _ => cases e <;> cases hs
  | tb _ => cases e <;> cases hs
end
section
variable {K : PySem.W.Frag} {Vx : XV} {Φ : Nat → List W → Sto → Res W} {G : List D}
theorem change_of {σ : Ev} {i : Nat} {f : Ob → Option Ob} {st st' : Sto} {a : Nat} (h : change σ i f st = some st') (ha : σ[i]? = some (some (.r a))) : ∃ ob ob', st[a]? = some ob ∧ f ob = some ob' ∧ st' = st.set a ob' := by
  unfold change at h
  rw [Option.bind_eq_some_iff] at h
  obtain ⟨b, hb, h⟩ := h
  rw [Option.bind_eq_some_iff] at h
  obtain ⟨ob, ho, h⟩ := h
  rw [Option.map_eq_some_iff] at h
  obtain ⟨ob', h1, h2⟩ := h
  have e := atVar_of hb
  rw [ha] at e
  cases e
  exact ⟨ob, ob', ho, h1, h2.symm⟩
theorem app_read {i : Nat} {e : E} (D : Ends) (σV : L2.St) (H : Hp) (h : tS K Vx Φ G (.app i e) D σV H) : tDrop (tBM K "list" rAppend (tE K Φ G (.var i)) (tCons (tE K Φ G e) tNil)) D σV H := by
  obtain ⟨R, σ, st, as, hl, hw, h⟩ := h
  rw [ex] at h
  obtain ⟨a, ha, h⟩ := wp_ofO (wp_bind h)
  obtain ⟨e1, xs, e2⟩ := lstAt_of ha
  refine ⟨R, σ, st, as, hl, hw, ?_⟩
  rw [ev, e1]
  rintro x H1 as1 po ⟨p, qs, ep, rfl⟩
  have sl := po.wld.slot a _ p qs e2 ep
  cases sl with
  | @lst _ vs _ e3 r3 =>
    refine ⟨.inl ⟨rfl, vs, (LsX.sq (.inl (.inl e3)))⟩, ?_⟩
    refine rd_step (hl.grow po.grow po.ext) po.wld (wp_bind h) fun w st2 y H2 as2 p2 po2 l2 r2 => ?_
    obtain ⟨d, st3, p3, po3, r3'⟩ := val_of po2.wld r2 (wp_bind p2)
    obtain ⟨st4, hc, q⟩ := wp_ofO (wp_bind p3)
    obtain ⟨ob, ob', ho, hf, rfl⟩ := change_of hc e1
    have ep3 : as2[a]? = some (p, []) := by
      obtain ⟨m, em⟩ := po2.ext
      rw [em, List.getElem?_append_left (List.getElem?_eq_some_iff.mp ep).1]; exact ep
    have sl := po3.wld.slot a _ p [] ho ep3
    cases ob <;> simp only [appSlot] at hf <;> try (cases hf; done)
    split at hf
    · rename_i hz
      cases hf
      cases sl with
      | lst e4 r4 =>
        have po4 := post_write (o := .lst _) po3.wld ho ep3 rfl (ob' := .lst _) rfl (.lst upd_same ((r4.app (.cons r3' .nil)).grow (grows_mut (.inl ⟨a, _, p, _, ho, rfl, ep3, .inl rfl⟩))))
        have pp := ((po.trans po2).trans po3).trans po4
        exact ⟨p, _, y, rfl, rfl, e4, by rw [← r4.length]; exact Nat.lt_of_lt_of_le hz (lim_line (Nat.le_refl _)), q σV _ as2 pp (hl.grow pp.grow pp.ext)⟩
    · cases hf
theorem rem_read {i : Nat} {e : E} (D : Ends) (σV : L2.St) (H : Hp) (h : tS K Vx Φ G (.rem i e) D σV H) : tDrop (tBM K "list" (rRemD K) (tE K Φ G (.var i)) (tCons (tE K Φ G e) tNil)) D σV H := by
  obtain ⟨R, σ, st, as, hl, hw, h⟩ := h
  rw [ex] at h
  obtain ⟨a, ha, h⟩ := wp_ofO (wp_bind h)
  obtain ⟨e1, xs, e2⟩ := lstAt_of ha
  refine ⟨R, σ, st, as, hl, hw, ?_⟩
  rw [ev, e1]
  rintro x H1 as1 po ⟨p, qs, ep, rfl⟩
  have sl := po.wld.slot a _ p qs e2 ep
  cases sl with
  | @lst _ vs _ e3 r3 =>
    refine ⟨.inl ⟨rfl, vs, (LsX.sq (.inl (.inl e3)))⟩, ?_⟩
    refine rd_step (hl.grow po.grow po.ext) po.wld (wp_bind h) fun w st2 y H2 as2 p2 po2 l2 r2 => ?_
    obtain ⟨d, st3, p3, po3, r3'⟩ := val_of po2.wld r2 (wp_bind p2)
    obtain ⟨st4, hc, q⟩ := wp_ofO (wp_bind p3)
    obtain ⟨ob, ob', ho, hf, rfl⟩ := change_of hc e1
    have ep3 : as2[a]? = some (p, []) := by
      obtain ⟨m, em⟩ := po2.ext
      rw [em, List.getElem?_append_left (List.getElem?_eq_some_iff.mp ep).1]; exact ep
    have sl := po3.wld.slot a _ p [] ho ep3
    cases ob <;> simp only [remSlot] at hf <;> try (cases hf; done)
    split at hf
    · rename_i hz
      rw [Bool.and_eq_true] at hz
      rw [Option.map_eq_some_iff] at hf
      obtain ⟨j, hj, rfl⟩ := hf
      cases sl with
      | lst e4 r4 =>
        have po4 := post_write (o := .lst _) po3.wld ho ep3 rfl (ob' := .lst _) rfl (.lst upd_same ((r4.erase j).grow (grows_mut (.inl ⟨a, _, p, _, ho, rfl, ep3, .inl rfl⟩))))
        have pp := ((po.trans po2).trans po3).trans po4
        exact ⟨p, _, y, d, _, j, rfl, rfl, e4, r4.dp (shaped_lay hz.2), r3'.dp (shaped_lay hz.1), hz.2, hz.1, hj, q σV _ as2 pp (hl.grow pp.grow pp.ext)⟩
    · cases hf
theorem ext_read {i : Nat} {e : E} (D : Ends) (σV : L2.St) (H : Hp) (h : tS K Vx Φ G (.ext i e) D σV H) : tDrop (tBM K "list" (rExtX K) (tE K Φ G (.var i)) (tCons (tE K Φ G e) tNil)) D σV H := by
  obtain ⟨R, σ, st, as, hl, hw, h⟩ := h
  rw [ex] at h
  obtain ⟨a, ha, h⟩ := wp_ofO (wp_bind h)
  obtain ⟨e1, xs, e2⟩ := lstAt_of ha
  refine ⟨R, σ, st, as, hl, hw, ?_⟩
  rw [ev, e1]
  rintro x H1 as1 po ⟨p, qs, ep, rfl⟩
  have sl := po.wld.slot a _ p qs e2 ep
  cases sl with
  | @lst _ vs _ e3 r3 =>
    refine ⟨.inl ⟨rfl, vs, (LsX.sq (.inl (.inl e3)))⟩, ?_⟩
    refine rd_step (hl.grow po.grow po.ext) po.wld (wp_bind h) fun w st2 y H2 as2 p2 po2 l2 r2 => ?_
    obtain ⟨d, st3, p3, po3, r3'⟩ := val_of po2.wld r2 (wp_bind p2)
    obtain ⟨st4, hc, q⟩ := wp_ofO (wp_bind p3)
    obtain ⟨ob, ob', ho, hf, rfl⟩ := change_of hc e1
    have ep3 : as2[a]? = some (p, []) := by
      obtain ⟨m, em⟩ := po2.ext
      rw [em, List.getElem?_append_left (List.getElem?_eq_some_iff.mp ep).1]; exact ep
    have sl := po3.wld.slot a _ p [] ho ep3
    cases ob <;> cases d <;> simp only [extSlot] at hf <;> try (cases hf; done)
    split at hf
    · rename_i hz
      cases hf
      cases sl with
      | lst e4 r4 =>
        cases r3' with
        | lst h5 h6 =>
          have po4 := post_write (o := .lst _) po3.wld ho ep3 rfl (ob' := .lst _) rfl (.lst upd_same ((r4.app h6).grow (grows_mut (.inl ⟨a, _, p, _, ho, rfl, ep3, .inl rfl⟩))))
          have pp := ((po.trans po2).trans po3).trans po4
          exact ⟨p, _, _, _, rfl, rfl, e4, h5.sq, by rw [← r4.length, ← h6.length]; exact Nat.le_of_lt (Nat.lt_of_lt_of_le hz (lim_line (Nat.le_refl _))), q σV _ as2 pp (hl.grow pp.grow pp.ext)⟩
    · cases hf
theorem seti_read {i : Nat} {k v : E} (D : Ends) (σV : L2.St) (H : Hp) (h : tS K Vx Φ G (.seti i k v) D σV H) : tAsg (tE K Φ G v) (gSub (tE K Φ G (.var i)) (tE K Φ G k) (rSetX K)) D σV H := by
  obtain ⟨R, σ, st, as, hl, hw, h⟩ := h
  rw [ex] at h
  obtain ⟨a, ha, h⟩ := wp_ofO (wp_bind h)
  have e1 := atVar_of ha
  refine rd_step hl hw (wp_bind h) fun w st1 y H1 as1 p1 po1 l1 r1 => ?_
  obtain ⟨d, st2, p2, po2, r2⟩ := val_of po1.wld r1 (wp_bind p1)
  refine ⟨R, σ, st2, as1, l1.grow po2.grow po2.ext, po2.wld, ?_⟩
  rw [ev, e1]
  rintro x H3 as3 po3 ⟨p, qs, ep, rfl⟩
  refine rd_step ((l1.grow po2.grow po2.ext).grow po3.grow po3.ext) po3.wld (wp_bind p2) fun w st4 z H4 as4 p4 po4 l4 r4 => ?_
  obtain ⟨e, st5, p5, po5, r5⟩ := val_of po4.wld r4 (wp_bind p4)
  obtain ⟨st6, hc, q⟩ := wp_ofO (wp_bind p5)
  obtain ⟨ob, ob', ho, hf, rfl⟩ := change_of hc e1
  have ep3 : as4[a]? = some (p, qs) := by
    obtain ⟨m, em⟩ := po4.ext
    rw [em, List.getElem?_append_left (List.getElem?_eq_some_iff.mp ep).1]; exact ep
  refine ⟨R, st5, as4, a, p, qs, ob, ob', e, d, po5.wld, ho, ep3, rfl, r5, r2.grow (po3.grow.trans (po4.grow.trans po5.grow)), hf, fun H' po6 => ?_⟩
  have pp := ((((po1.trans po2).trans po3).trans po4).trans po5).trans po6
  exact q σV _ as4 pp (hl.grow pp.grow pp.ext)
end
end TB
set_option maxRecDepth 100000
set_option maxHeartbeats 2000000
/-! TBDL: a dict of lists that change. -/
namespace TB
open PySem PySem.Spec PyProof.Rows L2
section
variable {K : PySem.W.Frag} {R : Addr → Prop} {st : Sto} {as : As} {H : Hp} {Z : Addr → Prop}
/-- one of an object's addresses is written -/
theorem Wld.writeQ (w : Wld K H R st as) {i : Nat} {ob ob' : Ob} {a p : Addr} {qs : List Addr} {o : HO} (h1 : st[i]? = some ob) (h2 : as[i]? = some (a, qs)) (hp : p = a ∨ p ∈ qs) (l : ob.live = true) (l' : ob'.live = true)
    (new : Slot K (upd H p o) (Zof st as R) ob' a qs) : Wld K (upd H p o) R (st.set i ob') as ∧ Grows H (Zof st as R) (upd H p o) (Zof (st.set i ob') as R) := by
  have mp : Mof st as p := ⟨i, ob, a, qs, h1, l, h2, hp⟩
  have g : Grows H (Zof st as R) (upd H p o) (Zof st as R) := grows_mut (.inl mp)
  have off : ∀ r, R r → r ≠ p := fun r hr z => (w.res r hr).2 (by rw [z]; exact mp)
  have back : ∀ {j : Nat} {oj : Ob}, (st.set i ob')[j]? = some oj → oj.live = true → ∃ oj', st[j]? = some oj' ∧ oj'.live = true := fun {j oj} e lj => by
    by_cases hj : j = i
    · exact ⟨ob, by rw [hj]; exact h1, l⟩
    · rw [List.getElem?_set_ne (Ne.symm hj)] at e; exact ⟨oj, e, lj⟩
  rw [zof_set h1 l l']
  refine ⟨⟨by rw [List.length_set]; exact w.len, fun j oj b rs e1 e2 => ?_, fun j k oj ok b rs b' rs' q e1 e2 l1 l2 f1 f2 q1 q2 => ?_, fun r hr => ?_, fun r xs hr e => ?_⟩, g⟩
  · rw [zof_set h1 l l']
    by_cases hj : j = i
    · subst hj
      rw [get_set_same h1] at e1
      rw [h2] at e2
      cases e1; cases e2
      exact new
    · rw [List.getElem?_set_ne (Ne.symm hj)] at e1
      refine (w.slot j oj b rs e1 e2).grow g fun lj q u hq e => ?_
      rw [upd_ne (fun z => hj (w.inj j i oj ob b rs a qs q e1 h1 lj l e2 h2 hq (by rw [z]; exact hp)))]
      exact e
  · obtain ⟨o1, g1, g2⟩ := back e1 l1
    obtain ⟨o2, g3, g4⟩ := back e2 l2
    exact w.inj j k o1 o2 b rs b' rs' q g1 g3 g2 g4 f1 f2 q1 q2
  · obtain ⟨⟨u, e⟩, n⟩ := w.res r hr
    exact ⟨⟨u, by rw [upd_ne (off r hr)]; exact e⟩, fun z => n ((mof_set h1 l l' r).mp z)⟩
  · rw [upd_ne (off r hr)] at e
    exact w.rt r xs hr e
theorem post_writeQ (w : Wld K H R st as) {i : Nat} {ob ob' : Ob} {a p : Addr} {qs : List Addr} {o : HO} (h1 : st[i]? = some ob) (h2 : as[i]? = some (a, qs)) (hp : p = a ∨ p ∈ qs) (l : ob.live = true) (l' : ob'.live = true)
    (new : Slot K (upd H p o) (Zof st as R) ob' a qs) : Post K R H st as (st.set i ob') (upd H p o) as := by
  obtain ⟨w', g⟩ := w.writeQ h1 h2 hp l l' new
  exact ⟨w', g, ⟨[], by simp⟩, fun q hq => upd_ne fun z => (w.res _ hq).2 (by rw [z]; exact ⟨i, ob, a, qs, h1, l, h2, hp⟩)⟩
/-- the place of a key, and its list -/
theorem RelDL.place {ks : List Key} : ∀ {es : List (D × List D)} {kvs : List (List Key × V)} {qs : List Addr} {n : Nat}, RelDL K H Z es kvs qs → idxD (.tuple (ks.map kD)) es = some n →
    ∃ q vs, valV kvs ks = some (.ref q) ∧ qs[n]? = some q ∧ H q = some (.lst vs)
  | _, _, _, n, .nil, h => by cases h
  | _, _, _, n, @RelDL.cons _ _ _ k' ds vs q es kvs qs e r rest, h => by
    unfold idxD at h
    rw [eqv_kT] at h
    by_cases hk : k' = ks
    · rw [decide_eq_true hk, if_pos rfl] at h
      cases h
      exact ⟨q, vs, valV_pos hk, rfl, e⟩
    · rw [decide_eq_false hk, if_neg Bool.false_ne_true, Option.map_eq_some_iff] at h
      obtain ⟨m, h2, rfl⟩ := h
      obtain ⟨p, us, h3, h4, h5⟩ := rest.place h2
      exact ⟨p, us, by rw [valV_neg hk]; exact h3, by rw [List.getElem?_cons_succ]; exact h4, h5⟩
/-- something is put behind the list at a place -/
theorem RelDL.put {x : D} : ∀ {es : List (D × List D)} {kvs : List (List Key × V)} {qs : List Addr} {n : Nat} {q : Addr} {k : D} {ds : List D}, RelDL K H Z es kvs qs → qs.Nodup → qs[n]? = some q → es[n]? = some (k, ds) →
    ∃ vs, H q = some (.lst vs) ∧ ds.length = vs.length ∧ ∀ y, Rel K H Z x y → Z q → RelDL K (upd H q (.lst (vs ++ [y]))) Z (es.set n (k, ds ++ [x])) kvs qs
  | _, _, _, n, _, _, _, .nil, _, h, _ => by simp at h
  | _, _, _, 0, _, _, _, @RelDL.cons _ _ _ k' ds vs q es kvs qs e r rest, nd, h1, h2 => by
    obtain ⟨n1, n2⟩ := List.nodup_cons.mp nd
    cases h1; cases h2
    refine ⟨vs, e, r.length, fun y ry hz => ?_⟩
    exact .cons upd_same ((r.app (.cons ry .nil)).grow (grows_mut hz)) (rest.grow (grows_mut hz) fun p o hp e2 => by
      rw [upd_ne (fun z => n1 (by rw [← z]; exact hp))]; exact e2)
  | _, _, _, n + 1, p, _, _, @RelDL.cons _ _ _ k' ds vs q es kvs qs e r rest, nd, h1, h2 => by
    obtain ⟨n1, n2⟩ := List.nodup_cons.mp nd
    rw [List.getElem?_cons_succ] at h1 h2
    obtain ⟨us, h5, h6, h7⟩ := rest.put n2 h1 h2
    refine ⟨us, h5, h6, fun y ry hz => ?_⟩
    have pq : q ≠ p := fun z => n1 (by rw [z]; exact List.mem_of_getElem? h1)
    exact .cons (by rw [upd_ne pq]; exact e) (r.grow (grows_mut hz)) (h7 y ry hz)
end
section
variable {X : Cx}
/-- d[k] of such a dict -/
def rDL : V → V → Hp → VK → Prop := fun x y H Q => ∃ a kvs ks b z, x = .ref a ∧ H a = some (.dT kvs) ∧ y = .ref b ∧ H b = some (.tup (ks.map kV)) ∧ valV kvs ks = some z ∧ Q z H
theorem ix_dl (hu : X.A.units + 65 < cLine) : IxR X rDL := by
  rintro val sl pins s σ H x y v u Q I rx ry ⟨a, kvs, ks, b, z, rfl, e, rfl, eb, l, q⟩ hs
  cases rx
  have g : DGet H a (.ref b) (some z) := .inr ⟨kvs, ks, b, .inl e, rfl, eb, l.symm⟩
  exact tail_any (dict_typeIs I g) PySem.F.slot_dict_getitem.lookup (d_getItem (by omega) I g ry fun w' s' J' rw' => ⟨z, H, J', rw', q⟩) hs
end
section
variable {K : PySem.W.Frag} {Vx : XV} {Φ : Nat → List W → Sto → Res W} {G : List D}
theorem dlAt_of {σ : Ev} {i a : Nat} {st : Sto} (h : dlAt σ i st = some a) : σ[i]? = some (some (.r a)) ∧ ∃ es, st[a]? = some (.dl es) := by
  unfold dlAt at h
  rw [Option.bind_eq_some_iff] at h
  obtain ⟨b, hb, h⟩ := h
  split at h
  · rename_i es e
    cases h
    exact ⟨atVar_of hb, es, e⟩
  · cases h
theorem dlIdx_of {σ : Ev} {i n : Nat} {d : D} {st : Sto} (h : dlIdx σ i d st = some n) : ∃ (a : Nat) (es : List (D × List D)) (ks : List Key), σ[i]? = some (some (.r a)) ∧ st[a]? = some (.dl es) ∧ d = .tuple (ks.map kD) ∧ idxD d es = some n := by
  unfold dlIdx at h
  rw [Option.bind_eq_some_iff] at h
  obtain ⟨b, hb, h⟩ := h
  split at h
  · rename_i es e
    split at h
    · rename_i hk
      obtain ⟨ks, rfl⟩ := tup_key hk
      exact ⟨b, es, ks, atVar_of hb, e, rfl, h⟩
    · cases h
  · cases h
theorem app2_read {i : Nat} {k e : E} (D : Ends) (σV : L2.St) (H : Hp) (h : tS K Vx Φ G (.app2 i k e) D σV H) : tDrop (tBM K "list" rAppend (tOp rDL (tE K Φ G (.var i)) (tE K Φ G k)) (tCons (tE K Φ G e) tNil)) D σV H := by
  obtain ⟨R, σ, st, as, hl, hw, h⟩ := h
  rw [ex] at h
  obtain ⟨a, ha, h⟩ := wp_ofO (wp_bind h)
  obtain ⟨e1, es0, e0⟩ := dlAt_of ha
  refine ⟨R, σ, st, as, hl, hw, ?_⟩
  rw [ev, e1]
  rintro x H1 as1 po ⟨p, qs, ep, rfl⟩
  refine rd_step (hl.grow po.grow po.ext) po.wld (wp_bind h) fun w st2 y H2 as2 p2 po2 l2 r2 => ?_
  obtain ⟨d, st3, p3, po3, r3⟩ := val_of po2.wld r2 (wp_bind p2)
  obtain ⟨n, hn, p4⟩ := wp_ofO (wp_bind p3)
  obtain ⟨a', es, ks, e1', e2, rfl, hi⟩ := dlIdx_of hn
  rw [e1, Option.some.injEq, Option.some.injEq, W.r.injEq] at e1'
  subst e1'
  have lift : ∀ {m : As}, (∃ more, m = as1 ++ more) → m[a]? = some (p, qs) := fun {m} ⟨more, em⟩ => by
    rw [em, List.getElem?_append_left (List.getElem?_eq_some_iff.mp ep).1]; exact ep
  have ep2 := lift po2.ext
  have sl := po3.wld.slot a _ p qs e2 ep2
  cases sl with
  | @dl _ kvs _ _ hp rel nd =>
    obtain ⟨b, rfl, kb, _⟩ := (Pk.rel r3).keyT
    obtain ⟨q, vs, hv, hq, hx⟩ := rel.place hi
    refine ⟨p, kvs, ks, b, .ref q, rfl, hp, rfl, kb, hv, ?_⟩
    refine ⟨.inl ⟨rfl, vs, (LsX.sq (.inl (.inl hx)))⟩, ?_⟩
    refine rd_step (l2.grow po3.grow po3.ext) po3.wld (wp_bind p4) fun w st4 z H4 as4 p5 po4 l4 r4 => ?_
    obtain ⟨v, st5, p6, po5, r5⟩ := val_of po4.wld r4 (wp_bind p5)
    obtain ⟨st6, hc, fin⟩ := wp_ofO (wp_bind p6)
    obtain ⟨ob, ob', ho, hf, rfl⟩ := change_of hc e1
    have ep5 : as4[a]? = some (p, qs) := lift (by
      obtain ⟨m2, em2⟩ := po2.ext
      obtain ⟨m4, em4⟩ := po4.ext
      exact ⟨m2 ++ m4, by rw [em4, em2, List.append_assoc]⟩)
    have sl5 := po5.wld.slot a _ p qs ho ep5
    cases ob <;> simp only [app2Slot] at hf <;> try (cases hf; done)
    rw [Option.bind_eq_some_iff] at hf
    obtain ⟨⟨k5, ds⟩, hk5, hf⟩ := hf
    simp only at hf
    split at hf
    · rename_i hlen
      cases hf
      cases sl5 with
      | @dl _ kvs5 _ _ hp5 rel5 nd5 =>
        obtain ⟨n1, n2⟩ := List.nodup_cons.mp nd5
        obtain ⟨us, hu, hl5, put⟩ := rel5.put n2 hq hk5 (x := v)
        have mq : q ∈ qs := List.mem_of_getElem? hq
        have hz : Zof st5 as4 R q := .inl ⟨a, _, p, qs, ho, rfl, ep5, .inr mq⟩
        have new := put z r5 hz
        have po6 := post_writeQ (o := .lst (us ++ [z])) po5.wld ho ep5 (.inr mq) rfl (ob' := .dl _) rfl (.dl (by rw [upd_ne (fun e => n1 (by rw [e]; exact mq))]; exact hp5) new nd5)
        have pp := ((((po.trans po2).trans po3).trans po4).trans po5).trans po6
        exact ⟨q, _, z, rfl, rfl, hu, by rw [← hl5]; exact Nat.lt_of_lt_of_le hlen (lim_line (Nat.le_refl _)), fin σV _ as4 pp (hl.grow pp.grow pp.ext)⟩
    · cases hf
end
end TB
set_option maxRecDepth 100000
set_option maxHeartbeats 2000000
/-! TBDM: a dict of lists is made. -/
namespace TB
open PySem PySem.Spec PyProof.Rows L2
section
variable {K : PySem.W.Frag} {H H' : Hp} {Z Z' : Addr → Prop}
/-- new lists, and the pairs that hold them -/
inductive DLs (K : PySem.W.Frag) (H : Hp) (Z : Addr → Prop) : List D → List V → List Addr → Prop
  | nil : DLs K H Z [] [] []
  | cons {d : D} {y : V} {t q : Addr} {ks : List D} {vs : List V} {qs : List Addr} : Rel K H Z d y → H t = some (.tup [y, .ref q]) → ¬ Z t → H q = some (.lst []) → DLs K H Z ks vs qs → DLs K H Z (d :: ks) (.ref t :: vs) (q :: qs)
theorem DLs.grow {ks : List D} {vs : List V} {qs : List Addr} (g : Grows H Z H' Z') (h : DLs K H Z ks vs qs) (hl : ∀ q ∈ qs, H q = some (.lst []) → H' q = some (.lst [])) : DLs K H' Z' ks vs qs := by
  induction h with
  | nil => exact .nil
  | cons r e n eq _ ih => exact .cons (r.grow g) (g _ _ e n (fun _ z => by cases z)).1 (g _ _ e n (fun _ z => by cases z)).2 (hl _ (List.mem_cons_self ..) eq) (ih fun q hq => hl q (List.mem_cons_of_mem _ hq))
theorem DLs.app {ks ks2 : List D} {vs vs2 : List V} {qs qs2 : List Addr} (h : DLs K H Z ks vs qs) (h2 : DLs K H Z ks2 vs2 qs2) : DLs K H Z (ks ++ ks2) (vs ++ vs2) (qs ++ qs2) := by
  induction h with
  | nil => exact h2
  | cons r e n eq _ ih => exact .cons r e n eq ih
theorem DLs.at {ks : List D} {vs : List V} {qs : List Addr} (h : DLs K H Z ks vs qs) : ∀ q ∈ qs, H q = some (.lst []) := by
  induction h with
  | nil => intro q hq; cases hq
  | cons r e n eq _ ih =>
    intro q hq
    rcases List.mem_cons.mp hq with rfl | hq
    · exact eq
    · exact ih q hq
/-- pairs of a key and anything -/
inductive PW (H : Hp) : List V → List (List Key × V) → Prop
  | nil : PW H [] []
  | cons {t b : Addr} {v : V} {k : List Key} {vs : List V} {kvs : List (List Key × V)} : H t = some (.tup [.ref b, v]) → H b = some (.tup (k.map kV)) → PW H vs kvs → PW H (.ref t :: vs) ((k, v) :: kvs)
theorem DLs.pw {ks : List D} {vs : List V} {qs : List Addr} (h : DLs K H Z ks vs qs) (hk : ks.all tupK = true) : ∃ kvs : List (List Key × V), PW H vs kvs ∧ ks = kvs.map (fun p => PyData.tuple (p.1.map kD)) ∧ RelDL K H Z (ks.map fun k => (k, [])) kvs qs := by
  induction h with
  | nil => exact ⟨[], .nil, rfl, .nil⟩
  | cons r e n eq _ ih =>
    rw [List.all_cons, Bool.and_eq_true] at hk
    obtain ⟨kvs, h1, h2, h3⟩ := ih hk.2
    obtain ⟨k, rfl⟩ := tup_key hk.1
    obtain ⟨b, rfl, eb, _⟩ := (Pk.rel r).keyT
    exact ⟨(k, .ref _) :: kvs, .cons e eb h1, by rw [h2]; rfl, .cons eq .nil h3⟩
theorem mergeTV_nd : ∀ (kvs acc : List (List Key × V)), (kvs.map (·.1)).Nodup → (∀ p ∈ kvs, ∀ r ∈ acc, r.1 ≠ p.1) → mergeTV acc kvs = acc ++ kvs
  | [], acc, _, _ => by simp [mergeTV]
  | p :: kvs, acc, nd, off => by
    rw [List.map_cons] at nd
    obtain ⟨n1, n2⟩ := List.nodup_cons.mp nd
    have e : putK acc p.1 p.2 = acc ++ [p] := by
      unfold putK
      rw [if_neg]
      intro z
      rw [List.any_eq_true] at z
      obtain ⟨r, hr, hz⟩ := z
      exact off p (List.mem_cons_self ..) r hr (by simpa using hz)
    rw [mergeTV, e, mergeTV_nd kvs _ n2 fun p' hp' r hr => ?_]
    · simp
    · rcases List.mem_append.mp hr with hr | hr
      · exact off p' (List.mem_cons_of_mem _ hp') r hr
      · rw [List.mem_singleton] at hr
        subst hr
        intro z
        exact n1 (List.mem_map.mpr ⟨p', hp', z.symm⟩)
end
section
variable {X : Cx} {pins : List (Addr × Obj)} {σ : L2.St} {H : Hp} {s : Shared}
theorem PW.prs (I : Inv X pins σ H s) : ∀ {vs : List V} {kvs : List (List Key × V)} {its : List Value}, PW H vs kvs → Vals vs its →
    ∃ prs : List (List Key × Addr × Value), (∀ {kA : List (List Key × V)} {ys : List (List Key × Addr × Value)}, KT H kA ys → KT H (mergeTV kA kvs) (mergedT ys prs)) ∧ kvs.length = prs.length ∧ prs.length = its.length ∧
      ∀ (j : Nat) (q : List Key × Addr × Value), prs[j]? = some q → ∃ b : Addr, its[j]? = some (.ref b) ∧ IsTup s.heap b #[.ref q.2.1, q.2.2] ∧ (TK X.prog X.w).is s.heap q.1 q.2.1
  | _, _, _, .nil, .nil => ⟨[], fun t => t, rfl, rfl, fun j q e => by simp at e⟩
  | _, _, _, @PW.cons _ t b v k vs kvs e eb p, .cons v1 v2 => by
    obtain ⟨prs, g1, g2, g3, g4⟩ := PW.prs I p v2
    obtain ⟨its0, rv0, pt, _⟩ := I.tuple (.inl (.inl e))
    obtain ⟨u1, u2, ei, ru1, ru2⟩ := vals2 rv0
    subst ei
    cases ru1
    cases v1
    refine ⟨(k, b, u2) :: prs, fun t => g1 (t.put _ eb ru2), by rw [List.length_cons, List.length_cons, g2], by rw [List.length_cons, List.length_cons, g3], fun j q e2 => ?_⟩
    cases j with
    | zero =>
      cases e2
      exact ⟨_, rfl, pt, key_of I.hok eb⟩
    | succ j =>
      obtain ⟨b', e3, e4⟩ := g4 j q (by simpa using e2)
      exact ⟨b', by simpa using e3, e4⟩
def rDTv : List V → Hp → VK → Prop := fun xs H Q => ∃ a vs kvs, xs = [.ref a] ∧ H a = some (.lst vs) ∧ PW H vs kvs ∧ ∀ p, H p = none → Q (.ref p) (upd H p (.dT (mergeTV [] kvs)))
theorem cr_dictV (hc : X.calm = true) (hu : X.A.units + 200 < cLine) : CallR X (.type "dict") rDTv := by
  rintro pins s σ H xs us Q I r ⟨a, vs, kvs, rfl, ea, pw, q⟩
  obtain rfl := Vals.ref1 r
  obtain ⟨its, n, rv, g, hz⟩ := (show LsX X.K H a vs from .inl (.inl ea)).at I
  obtain ⟨prs, P1, P2, P3, P4⟩ := pw.prs I rv
  have hlv := rv.length
  refine call_dict_tups (prs := prs) (by omega) (I.ok.hd hc) g rfl rfl rfl (by rw [List.size_toArray, P3]) (by rw [P3, ← hlv]; exact hz) (fun j q' e => by
    obtain ⟨b, e1, e2⟩ := P4 j q' e
    exact ⟨b, by simpa using e1, e2⟩) fun h' tk hd' kp => ?_
  have hfresh := I.hok.fresh (Nat.le_refl s.heap.objs.size)
  have hm : (s.heap.objs.size == sysModules) = false := by
    rw [beq_eq_false_iff_ne]
    exact Nat.ne_of_gt I.big
  have hlen : (mergeTV [] kvs).length ≤ sizeLine := by
    have := mergeTV_len kvs []
    rw [List.length_nil, Nat.zero_add, P2, P3, ← hlv] at this
    exact Nat.le_trans this hz
  obtain ⟨o, es', ep, g1, g2, g3, g4, g5, g6⟩ := hd'
  have J := I.laid (a := s.heap.objs.size) (o := .dT (mergeTV [] kvs)) (t' := tk) kp (Nat.le_refl _) ⟨hlen, hm, mergedT [] prs, (P1 .nil).keeps fun b ys e => by rw [upd_ne (ne_of_none e hfresh)]; exact e, o, es', ep, g1, g2, g3, g4, g6⟩
  exact ⟨.ref s.heap.objs.size, _, J, rfl, q _ hfresh⟩
end
/-- kept off while such a dict is made: what was kept off, the list that gathers, the new lists -/
def RQ (R : Addr → Prop) (p : Addr) (qs : List Addr) : Addr → Prop := fun x => R x ∨ x = p ∨ x ∈ qs
section
variable {K : PySem.W.Frag} {R : Addr → Prop} {H : Hp} {st : Sto} {as : As}
structure PostDL (K : PySem.W.Frag) (R : Addr → Prop) (H : Hp) (st : Sto) (as : As) (p : Addr) (qs : List Addr) (st' : Sto) (H' : Hp) (as' : As) : Prop where
  wld : Wld K H' (RQ R p qs) st' as'
  off : ∀ q, q = p ∨ q ∈ qs → ¬ R q
  nd : (p :: qs).Nodup
  grow : Grows H (Zof st as R) H' (Zof st' as' (RQ R p qs))
  ext : ∃ more, as' = as ++ more
  res : ∀ q, R q → H' q = H q
def AnsDL (K : PySem.W.Frag) (R : Addr → Prop) (H : Hp) (st : Sto) (as : As) (ks : List D) (st' : Sto) (Q : VK) : Prop :=
  ∀ p vs qs H' as', PostDL K R H st as p qs st' H' as' → H' p = some (.lst vs) → vs.length ≤ sizeLine → DLs K H' (Zof st' as' (RQ R p qs)) ks vs qs → Q (.ref p) H'
/-- one round -/
theorem PostDL.step {p : Addr} {qs : List Addr} {st2 : Sto} {Hc : Hp} {as2 : As} (x : PostDL K R H st as p qs st2 Hc as2) {vs : List V} (ep : Hc p = some (.lst vs)) {ks : List D} (r : DLs K Hc (Zof st2 as2 (RQ R p qs)) ks vs qs)
    {st5 : Sto} {H5 : Hp} {as5 : As} (po : Post K (RQ R p qs) Hc st2 as2 st5 H5 as5) {d : D} {y : V} (ry : Rel K H5 (Zof st5 as5 (RQ R p qs)) d y) {q t : Addr} (hq : H5 q = none) (ht : upd H5 q (.lst []) t = none) :
    PostDL K R H st as p (qs ++ [q]) st5 (upd (upd (upd H5 q (.lst [])) t (.tup [y, .ref q])) p (.lst (vs ++ [.ref t]))) as5 ∧
      DLs K (upd (upd (upd H5 q (.lst [])) t (.tup [y, .ref q])) p (.lst (vs ++ [.ref t]))) (Zof st5 as5 (RQ R p (qs ++ [q]))) (ks ++ [d]) (vs ++ [.ref t]) (qs ++ [q]) ∧
      Grows Hc (Zof st2 as2 (RQ R p qs)) (upd (upd (upd H5 q (.lst [])) t (.tup [y, .ref q])) p (.lst (vs ++ [.ref t]))) (Zof st5 as5 (RQ R p (qs ++ [q]))) := by
  have eR : RQ R p (qs ++ [q]) = fun z => RQ R p qs z ∨ z = q := by
    funext z
    simp [RQ, or_assoc]
  have there : ∀ z, RQ R p qs z → z ≠ q ∧ z ≠ t := fun z hz => by
    obtain ⟨⟨u, e⟩, _⟩ := po.wld.res z hz
    have a := ne_of_none e hq
    refine ⟨a, ne_of_none (H := upd H5 q (.lst [])) (o := u) ?_ ht⟩
    rw [upd_ne a]; exact e
  have hp : RQ R p qs p := .inr (.inl rfl)
  have tq : q ≠ t := ne_of_none (H := upd H5 q (.lst [])) upd_same ht
  have w6 := po.wld.allocR (o := .lst []) hq
  have w7 := w6.alloc (o := .tup [y, .ref q]) ht
  have w8 := w7.resv (o := .lst (vs ++ [.ref t])) (p := p) (.inl hp)
  have g6 : Grows H5 (Zof st5 as5 (RQ R p qs)) (upd H5 q (.lst [])) (Zof st5 as5 fun z => RQ R p qs z ∨ z = q) := grows_keep hq fun z hz => by
    rcases hz with hz | hz | hz
    · exact .inl (.inl hz)
    · exact .inl (.inr hz)
    · exact .inr hz
  have hz : Zof st5 as5 (fun z => RQ R p qs z ∨ z = q) p := .inr (.inl hp)
  have g8 := (g6.trans (grows_new (o := .tup [y, .ref q]) ht)).trans (grows_mut (o := .lst (vs ++ [.ref t])) hz)
  rw [eR]
  have fresh : ∀ z, z = p ∨ z ∈ qs → z ≠ q ∧ z ≠ t := fun z hz => there z (.inr hz)
  refine ⟨⟨by rw [eR]; exact w8, fun z hz => ?_, ?_, by rw [eR]; exact x.grow.trans (po.grow.trans g8), ?_, fun z hz => ?_⟩, ?_, po.grow.trans g8⟩
  · rcases hz with hz | hz
    · exact x.off z (.inl hz)
    · rcases List.mem_append.mp hz with hz | hz
      · exact x.off z (.inr hz)
      · rw [List.mem_singleton] at hz
        exact fun hR => (there z (.inl hR)).1 hz
  · have nd := x.nd
    rw [← List.cons_append, List.nodup_append]
    refine ⟨nd, by simp, fun a ha b hb => ?_⟩
    rw [List.mem_singleton] at hb
    rw [hb]
    exact (fresh a (List.mem_cons.mp ha)).1
  · obtain ⟨m1, e1⟩ := x.ext
    obtain ⟨m2, e2⟩ := po.ext
    exact ⟨m1 ++ m2, by rw [e2, e1, List.append_assoc]⟩
  · have a := there z (.inl hz)
    have b : z ≠ p := fun e => x.off p (.inl rfl) (by rw [← e]; exact hz)
    rw [upd_ne b, upd_ne a.2, upd_ne a.1, po.res z (.inl hz)]
    exact x.res z hz
  · refine DLs.app (r.grow (po.grow.trans g8) fun z hz e => ?_) (.cons (ry.grow g8) ?_ ?_ ?_ .nil)
    · have a := fresh z (.inr hz)
      have b : z ≠ p := fun e => (List.nodup_cons.mp x.nd).1 (by rw [← e]; exact hz)
      rw [upd_ne b, upd_ne a.2, upd_ne a.1, po.res z (.inr (.inr hz))]
      exact e
    · rw [upd_ne (fun e => (fresh p (.inl rfl)).2 e.symm)]
      exact upd_same
    · exact w6.notZ ht
    · rw [upd_ne (fun e => (fresh p (.inl rfl)).1 e.symm), upd_ne tq]
      exact upd_same
/-- reserved objects come into the store as one thing -/
theorem Wld.pushQ {p : Addr} {qs : List Addr} (w : Wld K H (RQ R p qs) st as) (off : ∀ q, q = p ∨ q ∈ qs → ¬ R q) {ob : Ob} (l : ob.live = true) (s : Slot K H (Zof st as (RQ R p qs)) ob p qs) :
    Wld K H R (st ++ [ob]) (as ++ [(p, qs)]) ∧ Zof (st ++ [ob]) (as ++ [(p, qs)]) R = Zof st as (RQ R p qs) := by
  have hlen := w.len
  /- what stands at a place -/
  have look : ∀ {i : Nat} {o : Ob} {a : Addr} {rs : List Addr}, (st ++ [ob])[i]? = some o → (as ++ [(p, qs)])[i]? = some (a, rs) → (st[i]? = some o ∧ as[i]? = some (a, rs) ∧ i < st.length) ∨ (i = st.length ∧ o = ob ∧ a = p ∧ rs = qs) := fun {i o a rs} e f => by
    by_cases hi : i < st.length
    · rw [List.getElem?_append_left hi] at e
      rw [List.getElem?_append_left (by omega)] at f
      exact .inl ⟨e, f, hi⟩
    · rw [List.getElem?_append_right (by omega)] at e f
      rw [← hlen] at f
      have h0 : i - st.length = 0 := by
        rcases Nat.eq_zero_or_pos (i - st.length) with z | z
        · exact z
        · rw [List.getElem?_eq_none (Nat.succ_le_of_lt z)] at e; cases e
      rw [h0] at e f
      cases e; cases f
      exact .inr ⟨by omega, rfl, rfl, rfl⟩
  have mofE : ∀ q, Mof (st ++ [ob]) (as ++ [(p, qs)]) q ↔ Mof st as q ∨ q = p ∨ q ∈ qs := fun q => by
    constructor
    · rintro ⟨i, o, a, rs, e1, e2, e3, e4⟩
      rcases look e1 e3 with ⟨f1, f2, _⟩ | ⟨_, rfl, rfl, rfl⟩
      · exact .inl ⟨i, o, a, rs, f1, e2, f2, e4⟩
      · exact .inr e4
    · rintro (⟨i, o, a, rs, e1, e2, e3, e4⟩ | h)
      · have hi := (List.getElem?_eq_some_iff.mp e1).1
        exact ⟨i, o, a, rs, by rw [List.getElem?_append_left hi]; exact e1, e2, by rw [List.getElem?_append_left (by omega)]; exact e3, e4⟩
      · exact ⟨st.length, ob, p, qs, by simp, l, by rw [hlen]; simp, h⟩
  have zE : Zof (st ++ [ob]) (as ++ [(p, qs)]) R = Zof st as (RQ R p qs) := by
    funext q
    apply propext
    constructor
    · rintro (z | z)
      · rcases (mofE q).mp z with z | z
        · exact .inl z
        · exact .inr (.inr z)
      · exact .inr (.inl z)
    · rintro (z | z | z)
      · exact .inl ((mofE q).mpr (.inl z))
      · exact .inr z
      · exact .inl ((mofE q).mpr (.inr z))
  refine ⟨⟨by simp [hlen], fun i oi a rs e1 e2 => ?_, fun i j oi oj a rs a' rs' q e1 e2 l1 l2 f1 f2 p1 p2 => ?_, fun q hq => ?_, fun q xs hq => w.rt q xs (.inl hq)⟩, zE⟩
  · rw [zE]
    rcases look e1 e2 with ⟨f1, f2, _⟩ | ⟨_, rfl, rfl, rfl⟩
    · exact w.slot i oi a rs f1 f2
    · exact s
  · have away : ∀ {i : Nat} {oi : Ob} {a : Addr} {rs : List Addr}, st[i]? = some oi → oi.live = true → as[i]? = some (a, rs) → (q = a ∨ q ∈ rs) → (q = p ∨ q ∈ qs) → False := fun {i oi a rs} g1 g2 g3 g4 g5 =>
      (w.res q (.inr g5)).2 ⟨i, oi, a, rs, g1, g2, g3, g4⟩
    rcases look e1 f1 with ⟨g1, g2, _⟩ | ⟨gi, _, rfl, rfl⟩ <;> rcases look e2 f2 with ⟨g3, g4, _⟩ | ⟨gj, _, rfl, rfl⟩
    · exact w.inj i j oi oj a rs a' rs' q g1 g3 l1 l2 g2 g4 p1 p2
    · exact (away g1 l1 g2 p1 p2).elim
    · exact (away g3 l2 g4 p2 p1).elim
    · rw [gi, gj]
  · refine ⟨(w.res q (.inl hq)).1, fun z => ?_⟩
    rcases (mofE q).mp z with z | z
    · exact (w.res q (.inl hq)).2 z
    · exact off q z hq
/-- the dict itself comes into the store, with its lists -/
theorem PostDL.push {p : Addr} {qs : List Addr} {st' : Sto} {H' : Hp} {as' : As} (x : PostDL K R H st as p qs st' H' as') {p2 : Addr} {o : HO} (h2 : H' p2 = none) (ho : Rob o := by refine ⟨?_, ?_, ?_⟩ <;> (intro _ z; cases z)) {ob : Ob} (l : ob.live = true)
    (sl : Slot K (upd H' p2 o) (Zof st' as' (RQ R p2 qs)) ob p2 qs) : Post K R H st as (st' ++ [ob]) (upd H' p2 o) (as' ++ [(p2, qs)]) ∧ Zof (st' ++ [ob]) (as' ++ [(p2, qs)]) R = Zof st' as' (RQ R p2 qs) := by
  have sub : ∀ z, RQ R p2 qs z → RQ R p qs z ∨ z = p2 := fun z hz => by
    rcases hz with hz | hz | hz
    · exact .inl (.inl hz)
    · exact .inr hz
    · exact .inl (.inr (.inr hz))
  have there : ∀ z, R z → z ≠ p2 := fun z hz => by
    obtain ⟨⟨u, e⟩, _⟩ := x.wld.res z (.inl hz)
    exact ne_of_none e h2
  have w2 := (x.wld.allocR h2 ho).less sub
  obtain ⟨w3, zE⟩ := w2.pushQ (fun q hq hR => hq.elim (fun e => there q hR e) fun m => x.off q (.inr m) hR) l sl
  have g : Grows H' (Zof st' as' (RQ R p qs)) (upd H' p2 o) (Zof st' as' (RQ R p2 qs)) := grows_keep h2 fun q z => by
    rcases z with z | z
    · exact .inl (.inl z)
    · rcases sub q z with z | z
      · exact .inl (.inr z)
      · exact .inr z
  refine ⟨⟨w3, by rw [zE]; exact x.grow.trans g, ?_, fun q hq => by rw [upd_ne (there q hq)]; exact x.res q hq⟩, zE⟩
  obtain ⟨m, em⟩ := x.ext
  exact ⟨m ++ [(p2, qs)], by rw [em, List.append_assoc]⟩
end
section
variable {K : PySem.W.Frag} {Vx : XV} {Φ : Nat → List W → Sto → Res W} {G : List D}
/-- the comprehension of pairs, as it is read -/
theorem dl_gen {kE : E} {t : Tg} {it : I} {own : List Nat} (ht : tgB t own = true) (σV : L2.St) (H : Hp) (Q : VK) {R : Addr → Prop} {σ : Ev} {st : Sto} {as : As} (hl : Loc K H (Zof st as R) as σ σV) (hw : Wld K H R st as)
    (h : (evI Φ G it σ st).wp fun xs st1 => (compL (fun x st => (ofO (bindT t x (wipeE σ own)) st).bind fun σ1 st => (ev Φ G kE σ1 st).bind fun w st => (val w st).bind fun d st => .ok (some d) st) xs st1).wp fun ks st' => AnsDL K R H st as ks st' Q) :
    tLc (tI K Φ G it) (tG K t) (tIf K Φ G .no) (tTup (tCons (tE K Φ G kE) (tCons (tLst tNil) tNil))) own σV H Q := by
  refine ⟨R, σ, st, as, hl, hw, wp_mono h fun xs st1 h1 J H1 as1 po yl => ?_⟩
  intro Dn hD
  have h2 := h1
  have nR : ∀ p, R p → p ≠ Dn := fun p hp => by
    obtain ⟨⟨u, e⟩, _⟩ := po.wld.res p hp
    exact ne_of_none e hD
  have zs : ∀ q, Zof st1 as1 (RQ R Dn []) q → Zof st1 as1 R q ∨ q = Dn := fun q z => by
    rcases z with z | z | z | z
    · exact .inl (.inl z)
    · exact .inl (.inr z)
    · exact .inr z
    · cases z
  refine ⟨fun i m Hc => m = xs.length - i ∧ i ≤ xs.length ∧ ∃ st2 as2 acc qs ks, PostDL K R H st as Dn qs st2 Hc as2 ∧ Grows H1 (Zof st1 as1 R) Hc (Zof st2 as2 (RQ R Dn qs)) ∧ (∃ more, as2 = as1 ++ more) ∧ Hc Dn = some (.lst acc) ∧ DLs K Hc (Zof st2 as2 (RQ R Dn qs)) ks acc qs ∧ acc.length ≤ i ∧
    (compL _ (xs.drop i) st2).wp fun ys st3 => AnsDL K R H st as (ks ++ ys) st3 Q,
    ⟨xs.length, by simp, Nat.zero_le _, st1, as1, [], [], [], ?_, ?_, ⟨[], by simp⟩, upd_same, .nil, Nat.zero_le _, h2⟩, ?_⟩
  · refine ⟨(po.wld.allocR hD).less fun z hz => ?_, fun q hq => ?_, by simp, po.grow.trans (grows_keep hD fun q z => ?_), po.ext, fun q hq => by rw [upd_ne (nR q hq)]; exact po.res q hq⟩
    · rcases hz with hz | hz | hz
      · exact .inl hz
      · exact .inr hz
      · cases hz
    · rcases hq with rfl | hq
      · exact fun hR => nR _ hR rfl
      · cases hq
    · exact zs q z
  · exact grows_keep hD zs
  rintro i m Hc ⟨rfl, hi, st2, as2, acc, qs, ks, x2, g2, m2, eD, r2, l2, c2⟩
  by_cases hlt : i < xs.length
  · refine .inr ⟨yl.go Hc _ g2 i hlt, fun Hn => ∃ m', m' < xs.length - i ∧ (m' = xs.length - (i + 1) ∧ i + 1 ≤ xs.length ∧ ∃ st2 as2 acc qs ks, PostDL K R H st as Dn qs st2 Hn as2 ∧ Grows H1 (Zof st1 as1 R) Hn (Zof st2 as2 (RQ R Dn qs)) ∧ (∃ more, as2 = as1 ++ more) ∧ Hn Dn = some (.lst acc) ∧
      DLs K Hn (Zof st2 as2 (RQ R Dn qs)) ks acc qs ∧ acc.length ≤ i + 1 ∧ (compL _ (xs.drop (i + 1)) st2).wp fun ys st3 => AnsDL K R H st as (ks ++ ys) st3 Q), fun H' z => z, fun x H3 hy => ?_⟩
    obtain ⟨hH, dd, hd, rd⟩ := yl.yld Hc _ g2 (fun p hp => x2.wld.zof hp) i x H3 hlt hy
    have dr : xs.drop i = dd :: xs.drop (i + 1) := by
      rw [List.drop_eq_getElem_cons hlt]
      rw [List.getElem?_eq_getElem hlt] at hd
      rw [Option.some.inj hd]
    rw [dr, compL] at c2
    have poI : Post K (RQ R Dn qs) Hc st2 as2 st2 H3 as2 := by
      rcases hH with rfl | ⟨T, o, hT, rfl⟩
      · exact .refl x2.wld
      · exact .alloc x2.wld hT
    have keepI : ∀ p o, Hc p = some o → H3 p = some o := fun p o e => by
      rcases hH with rfl | ⟨T, u, hT, rfl⟩
      · exact e
      · rw [upd_ne (ne_of_none e hT)]; exact e
    have hl3 : Loc K H3 (Zof st2 as2 (RQ R Dn qs)) as2 σ σV := by
      obtain ⟨m3, e1⟩ := po.ext
      obtain ⟨m4, e2⟩ := m2
      exact hl.grow (po.grow.trans (g2.trans poI.grow)) ⟨m3 ++ m4, by rw [e2, e1, List.append_assoc]⟩
    obtain ⟨σ1, hσ1, c5⟩ := wp_ofO (wp_bind (wp_bind c2))
    refine tG_of hσ1 rd (hl3.wipe own) fun σV1 hl1 hwp => ⟨(hwp own ht).trans (wipe_idem σV own), ?_⟩
    refine ⟨_, σ1, st2, as2, hl1, poI.wld, ?_⟩
    rw [evC]
    intro b H4 as3 po3 eb
    subst eb
    rw [if_pos rfl]
    refine ⟨_, σ1, st2, as3, hl1.grow po3.grow po3.ext, po3.wld, wp_mono (wp_bind c5) fun w st4 p5 y H5 as5 po5 r5 => ?_⟩
    obtain ⟨d', st5, p6, po6, r6⟩ := val_of po5.wld r5 (wp_bind p5)
    have poA := poI.trans (po3.trans (po5.trans po6))
    refine ⟨Nat.zero_le _, fun q hq => ⟨by show 2 ≤ sizeLine; decide, fun t' ht' => ?_⟩⟩
    obtain ⟨x3, r3, g3⟩ := x2.step eD r2 poA r6 hq ht'
    have eD5 : H5 Dn = some (.lst acc) := by rw [poA.res Dn (.inr (.inl rfl))]; exact eD
    have nq := ne_of_none eD5 hq
    have eD6 : upd H5 q (.lst []) Dn = some (.lst acc) := by rw [upd_ne nq]; exact eD5
    refine ⟨acc, by rw [upd_ne (ne_of_none eD6 ht')]; exact eD6, Nat.lt_of_le_of_lt l2 (Nat.lt_of_lt_of_le hlt yl.len), xs.length - (i + 1), by omega, rfl, by omega, st5, as5, acc ++ [.ref t'], qs ++ [q], ks ++ [d'], x3, g2.trans g3, ?_, upd_same, r3, ?_, ?_⟩
    · obtain ⟨m3, e1⟩ := m2
      obtain ⟨m4, e2⟩ := poA.ext
      exact ⟨m3 ++ m4, by rw [e2, e1, List.append_assoc]⟩
    · rw [List.length_append]; simpa using l2
    · refine wp_mono (wp_bind p6) fun ys st6 q => ?_
      rw [List.append_assoc]
      exact q
  · have e : i = xs.length := by omega
    subst e
    rw [List.drop_length] at c2
    refine .inl ⟨yl.stop Hc _ g2, ?_⟩
    have q : AnsDL K R H st as (ks ++ []) st2 Q := c2
    rw [List.append_nil] at q
    exact q Dn acc qs Hc as2 x2 eD (Nat.le_trans l2 yl.len) r2
theorem asgDL_read {i : Nat} {kE : E} {t : Tg} {it : I} {own : List Nat} (ht : tgB t own = true) (D : Ends) (σV : L2.St) (H : Hp) (h : tS K Vx Φ G (.asgDL i kE t it own) D σV H) :
    tAsg (tCB rDTv (tCons (tLc (tI K Φ G it) (tG K t) (tIf K Φ G .no) (tTup (tCons (tE K Φ G kE) (tCons (tLst tNil) tNil))) own) tNil)) (gName i) D σV H := by
  obtain ⟨R, σ, st, as, hl, hw, h⟩ := h
  rw [ex] at h
  refine dl_gen ht σV H (fun x H1 => rDTv [x] H1 fun v H2 => gName i v σV H2 D.nx) hl hw (wp_mono (wp_bind h) fun xs st1 h1 => wp_mono (wp_bind h1) fun ks st' q => ?_)
  intro p vs qs H' as' po e _ r
  split at q
  · rename_i hk
    simp only [newKeys, Bool.and_eq_true, decide_eq_true_eq] at hk
    obtain ⟨⟨k1, k2⟩, k3⟩ := hk
    obtain ⟨kvs, pw, ek, rel⟩ := r.pw k1
    refine ⟨p, vs, kvs, rfl, e, pw, fun p2 hp2 => ?_⟩
    have nd : (kvs.map (·.1)).Nodup := by
      rw [ek, List.pairwise_map] at k3
      rw [List.Nodup, List.pairwise_map]
      refine k3.imp fun {a b} z e => ?_
      rw [eqv_kT, e] at z
      simp at z
    rw [mergeTV_nd kvs [] nd (by simp), List.nil_append]
    have sub : ∀ z, Zof st' as' (RQ R p2 qs) z → Zof st' as' (RQ R p qs) z ∨ z = p2 := fun z hz => by
      rcases hz with hz | hz | hz | hz
      · exact .inl (.inl hz)
      · exact .inl (.inr (.inl hz))
      · exact .inr hz
      · exact .inl (.inr (.inr (.inr hz)))
    have g : Grows H' (Zof st' as' (RQ R p qs)) (upd H' p2 (.dT kvs)) (Zof st' as' (RQ R p2 qs)) := grows_keep hp2 sub
    have out : p2 ∉ qs := fun m => by
      have := r.at p2 m
      rw [hp2] at this
      cases this
    have nq : (p2 :: qs).Nodup := List.nodup_cons.mpr ⟨out, (List.nodup_cons.mp po.nd).2⟩
    obtain ⟨pp, zE⟩ := po.push hp2 (o := .dT kvs) (ho := by refine ⟨?_, ?_, ?_⟩ <;> (intro _ z; cases z)) (ob := .dl (ks.map fun k => (k, []))) rfl (.dl upd_same (rel.grow g fun q o _ e => by rw [upd_ne (ne_of_none e hp2)]; exact e) nq)
    refine q _ (upd H' p2 (.dT kvs)) _ pp ?_
    rw [zE]
    have hl' : Loc K (upd H' p2 (.dT kvs)) (Zof st' as' (RQ R p2 qs)) (as' ++ [(p2, qs)]) σ σV := by
      obtain ⟨m, em⟩ := po.ext
      exact hl.grow (po.grow.trans g) ⟨m ++ [(p2, qs)], by rw [em, List.append_assoc]⟩
    refine hl'.set (w := .r st'.length) ⟨p2, qs, ?_, rfl⟩
    rw [po.wld.len]
    simp
  · exact q.elim
end
end TB
set_option maxRecDepth 100000
set_option maxHeartbeats 4000000
/-! TBStm3: a statement of mine stands for a statement of the machine's. -/
namespace TB
open PySem PySem.Spec PyProof.Rows L2
def notComp : Expr → Bool
  | .ListComp _ _ _ _ => false
  | .SetComp _ _ _ _ => false
  | .DictComp _ _ _ _ _ => false
  | _ => true
def notTup : Expr → Bool
  | .Tuple _ _ _ => false
  | _ => true
/-- a comprehension that is stored into a name -/
def compOk (sc : Scope) (x : Str) (p : Pos) (v : Expr) : Bool := match v with
  | .ListComp _ _ scope vp => !locB sc x || ((p.line == vp.line) && !(scope.names.any fun (n, k) => n == x && (k == .local || k == .cell)))
  | _ => false
/-- names that are stored from the right -/
def swB (sc : Scope) (ts vs : List Expr) : Option (Option (List Str)) :=
  if !(ts.length == 2 || ts.length == 3) || vs.length != ts.length then some none else
  if (vs.any fun | .Starred .. => true | _ => false) then some none else
  let line := (ts.head?.map (·.pos.line)).getD 0
  let names := ts.filterMap fun
    | .Name id pos => if sc.names.lookup id == some .local && pos.line == line then some id else none
    | _ => none
  if names.length != ts.length || names.eraseDups.length != names.length then some none else
  if vs.all (foldedForSure 8) then some none else
  if vs.all (constantsAlone 8) then none else some (some names)
theorem swB_of {env : Env} {ts vs : List Expr} {o : Option (List Str)} {k k2 : Nat} {p p2 : Pos} (hk : env.scope.kind = .function) (h : swB env.scope ts vs = some o) : swappedStores [.Tuple ts k p] (.Tuple vs k2 p2) env = pure o := by
  have hb : env.blockKind = .function := by unfold Env.blockKind; rw [hk]; rfl
  have hne : (env.blockKind != .function) = false := by rw [hb]; rfl
  unfold swB at h
  unfold swappedStores
  simp only [hne, Bool.or_false]
  split at h
  · rename_i e
    cases h
    exact (if_pos e).trans rfl
  · rename_i e
    refine (if_neg e).trans ?_
    split at h
    · rename_i e2
      cases h
      exact (if_pos e2).trans rfl
    · rename_i e2
      refine (if_neg e2).trans ?_
      dsimp only at h
      split at h
      · rename_i e3
        cases h
        exact (if_pos e3).trans rfl
      · rename_i e3
        refine (if_neg e3).trans ?_
        split at h
        · rename_i e4
          cases h
          exact (if_pos e4).trans rfl
        · rename_i e4
          refine (if_neg e4).trans ?_
          split at h
          · cases h
          · rename_i e5
            cases h
            exact (if_neg e5).trans rfl
def isCallE : E → Bool
  | .call _ _ => true
  | _ => false
def isNil : Es → Bool
  | .nil => true
  | _ => false
/-- what new objects are made of -/
def okQ : List Bool → Es → Bool
  | [], .nil => true
  | m :: ms, .cons e es => (!m || freshE e || isCallE e) && okQ ms es
  | _, _ => false
section
variable (c : Cxt)
mutual
def matchS : S → Scope → Stmt → Bool
  | .asg i e m, sc, py => match py with
    | .Assign [.Name x p] v _ => nmIs c i x && lcB sc x && matchE c e sc v && (notComp v || compOk sc x p v) && (!m || freshE e || (match e with | .call _ _ => true | _ => false))
    | _ => false
  | .asgT is e, sc, py => match py with
    | .Assign [tg] v _ => !c.hot && matchT c sc (.tp is) tg && matchE c e sc v && notComp v && notTup v
    | _ => false
  | .asgP is es, sc, py => match py with
    | .Assign [.Tuple ts _ _] (.Tuple vs _ _) _ => !c.hot && matchNms c sc is ts && matchEs c es sc vs && decide (ts.length ≤ 1000) && decide (vs.length ≤ 1000) && (match swB sc ts vs with
      | some none => true
      | some (some nms) => (match is, ts, vs with
        | [i, j], [.Name x _, .Name y _], [_, _] => decide (nms = [x, y]) && decide (i ≠ j) && locB sc x && locB sc y
        | [i, j, k], [.Name x _, .Name y _, .Name z _], [_, _, _] => decide (nms = [x, y, z]) && decide (i ≠ j) && decide (i ≠ k) && decide (j ≠ k) && locB sc x && locB sc y && locB sc z
        | _, _, _ => false)
      | none => false)
    | _ => false
  | .asgQ is ms es, sc, py => match py with
    | .Assign [.Tuple ts _ _] (.Tuple vs _ _) _ => !c.hot && matchNms c sc is ts && matchEs c es sc vs && okQ ms es && decide (ts.length ≤ 1000) && decide (vs.length ≤ 1000) && (match swB sc ts vs with
      | some none => true
      | some (some nms) => (match is, ts, vs with
        | [i, j], [.Name x _, .Name y _], [_, _] => decide (nms = [x, y]) && decide (i ≠ j) && locB sc x && locB sc y
        | [i, j, k], [.Name x _, .Name y _, .Name z _], [_, _, _] => decide (nms = [x, y, z]) && decide (i ≠ j) && decide (i ≠ k) && decide (j ≠ k) && locB sc x && locB sc y && locB sc z
        | _, _, _ => false)
      | none => false)
    | _ => false
  | .ret e, sc, py => match py with
    | .Return (some v) _ => matchE c e sc v
    | _ => false
  | .retM i, sc, py => match py with
    | .Return (some v) _ => matchE c (.var i) sc v
    | _ => false
  | .retN e, sc, py => match py with
    | .Return (some v) _ => matchE c e sc v && (freshE e || isCallE e)
    | _ => false
  | .ife e a b, sc, py => match py with
    | .If t x y _ => matchE c e sc t && matchSs a sc x && matchSs b sc y
    | _ => false
  | .fori t it b _ _, sc, py => match py with
    | .For tg iter body [] _ => !c.hot && matchI c it sc iter && notSetD iter && (!pairI it || isTp t) && matchT c sc t tg && matchSs b sc body
    | _ => false
  | .asgDL i k t it own, sc, py => match py with
    | .Assign [.Name x _] (.Call (.Name f _) [.ListComp (.Tuple [y, .List [] _] _ _) [⟨tg, iter, ifs, kk⟩] scope _] [] _) _ => !c.hot && nmIs c i x && lcB sc x && decide (f = ("dict" : Str)) && glB sc f && notStar y && (decide (kk = 0) && matchI c it sc iter && notSetD iter && (!pairI it || isTp t) && blkC c.N sc scope (ownP c own) && matchT c (relS scope sc) t tg && matchT c scope t tg && tgB t own && matchIf c .no (relS scope sc) ifs && matchE c k (relS scope sc) y)
    | _ => false
  | .app2 i k e, sc, py => match py with
    | .Expr (.Call (.Attribute (.Subscript (.Name x p) y _) m ap) [v] [] cp) _ => matchE c (.var i) sc (.Name x p) && matchE c k sc y && notSlice y && decide (m = ("append" : Str)) && matchE c e sc v && notStar v && (ap.endLine == cp.line)
    | _ => false
  | .rem i e, sc, py => match py with
    | .Expr (.Call (.Attribute (.Name x p) m ap) [v] [] cp) _ => matchE c (.var i) sc (.Name x p) && decide (m = ("remove" : Str)) && matchE c e sc v && notStar v && (ap.endLine == cp.line)
    | _ => false
  | .whil e b _ _, sc, py => match py with
    | .While t body [] _ => !c.hot && matchE c e sc t && matchSs b sc body
    | _ => false
  | .expr e, sc, py => match py with
    | .Expr v _ => matchE c e sc v && notComp v
    | _ => false
  | .app i e, sc, py => match py with
    | .Expr (.Call (.Attribute (.Name x p) m ap) [v] [] cp) _ => matchE c (.var i) sc (.Name x p) && decide (m = ("append" : Str)) && matchE c e sc v && notStar v && (ap.endLine == cp.line)
    | _ => false
  | .ext i e, sc, py => match py with
    | .Expr (.Call (.Attribute (.Name x p) m ap) [v] [] cp) _ => matchE c (.var i) sc (.Name x p) && decide (m = ("extend" : Str)) && matchE c e sc v && notStar v && (ap.endLine == cp.line)
    | _ => false
  | .seti i k e, sc, py => match py with
    | .Assign [.Subscript (.Name x p) y _] v _ => matchE c (.var i) sc (.Name x p) && matchE c k sc y && notSlice y && matchE c e sc v && notComp v
    | _ => false
  | .rais n es, sc, py => match py with
    | .Raise (some (.Call (.Name x _) [.Constant (.str _) _ _] [] _)) none _ => !c.hot && decide (c.ex n = some x) && glB sc x && plainN x && isNil es
    | _ => false
  | .never, _, py => match py with
    | .Raise _ _ _ => true
    | _ => false
  | .nvr, _, _ => true
  | .exprX f es, sc, py => match py with
    | .Expr (.Call (.Name x _) xs [] _) _ => !c.hot && decide (c.fn f = some x) && glB sc x && plainN x && matchEs c es sc xs && !xs.isEmpty
    | _ => false
  | .retX f es, sc, py => match py with
    | .Return (some (.Call (.Name x _) xs [] _)) _ => !c.hot && decide (c.fn f = some x) && glB sc x && plainN x && matchEs c es sc xs && !xs.isEmpty
    | _ => false
  | .pass, _, py => match py with
    | .Pass _ => true
    | .Expr (.Constant (.str _) _ _) _ => true
    | _ => false
def matchSs : Ss → Scope → List Stmt → Bool
  | .nil, _, py => match py with
    | [] => true
    | _ => false
  | .cons s r, sc, py => match py with
    | x :: xs => matchS s sc x && matchSs r sc xs
    | _ => false
end
end
/-- exception classes over ValueError without an own __init__ -/
def ExcOk (X : Cx) (Vx : XV) (n : Nat) (x : Str) : Prop := ∃ C, Vx.cl n = some C ∧ PySem.W.excIn X.K C He.veBase "ValueError.__new__" = true ∧ X.mg x = some (.ref C) ∧ PySem.W.keepIn X.K (.ref C) = true ∧ Raises X (.ref C)
structure SOk (X : Cx) (c : Cxt) (Φ : Nat → List W → Sto → Res W) (G : List D) (Vx : XV) : Prop where
  x : XOk X c Φ G
  takes : c.hot = false → L2N.Takes X Vx.W
  callsX : ∀ (f : Nat) x, c.fn f = some x → ∃ fa, X.mg x = some (.ref fa) ∧ PySem.W.keepIn X.K (.ref fa) = true ∧ CallsX X.prog X.w X.K X.mg X.base X.A fa Vx.cl (Φ f)
  excs : c.hot = false → ∀ (n : Nat) x, c.ex n = some x → ExcOk X Vx n x
  kind : X.env.scope.kind = .function
  fn : ∀ x, X.env.scope.names.lookup x = some .cell → X.fn x = true
  hp : c.hot = false → PassesOwn (model X.prog X.w) X.A X.env X.xe
/-- a call that may raise -/
theorem pe_fnX {X : Cx} {c : Cxt} {Φ : Nat → List W → Sto → Res W} {G : List D} {Vx : XV} (ok : SOk X c Φ G Vx) (hot : c.hot = false) {f : Nat} {x : Str} {p pos : Pos} {es : Es} {xs : List Expr} (hx : c.fn f = some x) (hg : Gl X x) (hd : (x == ("__debug__" : Str)) = false) (he : matchEs c es X.env.scope xs = true) (hn : xs.isEmpty = false) :
    PE X (.Call (.Name x p) xs [] pos) (tX X.K Vx Φ G f es) := by
  cases xs with
  | nil => exact absurd hn (by simp)
  | cons y ys =>
    obtain ⟨s1, s2⟩ := stars (env := X.env) he
    obtain ⟨fa, hm, hk, hf⟩ := ok.callsX f x hx
    refine ⟨fun pins s σ H Q I h => ?_⟩
    refine wpAny_Call_Name_kw (ld_glob I hg hm ?_ hd)
    refine PySem.W.callWith_K (h₀ := X.base) I.ok.mod.kin hk (thn ((sndA es X ok.x _ he).1.run pos pins s σ H _ I h) fun us s1 ⟨vs, H1, I1, r, q⟩ => ⟨I1.kIn, ?_⟩) s1 (any_back s2)
    refine wpAny_call <| codeAny_mono (hf X.stack s1 H1 us vs Q _ I1.env0 r q) fun res s' hq => ?_
    match res, hq with
    | .ok (.ret u), hq => exact I1.after hq
    | .ok .next, hq => exact False.elim hq
    | .ok .brk, hq => exact False.elim hq
    | .ok .cont, hq => exact False.elim hq
    | .error e, hq => exact ok.takes hot e s' (L2N.XE.of_call I1 (fun cls d H' h => h σ) hq)
theorem sw_no {v : Expr} {t : Option Expr} {l : Nat} {env : Env} (h : notComp v = true) : swapsWith v t l env = pure false := by
  cases v <;> first | rfl | cases h
theorem sws_no {v t : Expr} {l : Nat} {env : Env} (h : notComp v = true) : swapsWithSole [t] v l env = pure false := sw_no h
theorem locB_of {sc : Scope} {x : Str} (h : locB sc x = true) : sc.names.lookup x = some .local := by
  unfold locB at h
  split at h
  · rename_i e; exact e
  · cases h
theorem sw_cell {elt : Expr} {gs : List Comprehension} {scope : Scope} {pos py : Pos} {y : Str} {l : Nat} {env : Env} (hy : locB env.scope y = false) : swapsWith (.ListComp elt gs scope pos) (some (.Name y py)) l env = pure false := by
  have ky : (env.kindOf y == some NameKind.local) = false := by
    unfold locB at hy
    unfold Env.kindOf
    split at hy
    · cases hy
    · rename_i h
      cases e : env.scope.names.lookup y with
      | none => rfl
      | some k => cases k <;> first | rfl | exact absurd e h
  unfold swapsWith
  simp only [ky, Bool.and_false, Bool.false_and]
theorem swp_no {tg v : Expr} {env : Env} (h : notTup v = true) : swappedStores [tg] v env = pure none := by
  cases v <;> first | (cases tg <;> rfl) | cases h
theorem PS.imp {X : Cx} {s : Stmt} {t t' : TS} (h : PS X s t) (m : ∀ D σ H, t' D σ H → t D σ H) : PS X s t' := ⟨fun pins s σ H D I q => h.run pins s σ H D I (m D σ H q)⟩
theorem PSs.imp {X : Cx} {s : List Stmt} {t t' : TS} (h : PSs X s t) (m : ∀ D σ H, t' D σ H → t D σ H) : PSs X s t' := ⟨fun pins s σ H D I q => h.run pins s σ H D I (m D σ H q)⟩
theorem tAsg_imp {t t' : TE} {g : TG} (m : ∀ σ H Q, t' σ H Q → t σ H Q) (D : Ends) (σV : L2.St) (H : Hp) (h : tAsg t' g D σV H) : tAsg t g D σV H := m _ _ _ h
section
variable {X : Cx} {c : Cxt} {Φ : Nat → List W → Sto → Res W} {G : List D} {Vx : XV}
/-- a new object's expression -/
theorem sndF (ok : XOk X c Φ G) {e : E} {py : Expr} (hf : freshE e = true) (h : matchE c e X.env.scope py = true) : PE X py (tEF X.K Φ G e) := by
  cases e with
  | lst es =>
    simp only [matchE] at h
    split at h
    · rename_i xs pos
      rw [Bool.and_eq_true, decide_eq_true_eq] at h
      exact PE.imp (pe_lst (sndA es X ok _ h.1).2) (lst_readF h.1 h.2)
    · cases h
  | dnew =>
    simp only [matchE] at h
    split at h
    · exact PE.imp pe_dnewK dnew_readF
    · cases h
  | rep es k =>
    simp only [matchE] at h
    split at h
    · simp only [Bool.and_eq_true, decide_eq_true_eq] at h
      exact PE.imp (pe_op op_rep (pe_lst (sndA es X ok _ h.1.1).2) (sndE k X ok _ h.2).1) (rep_readF h.1.1 h.1.2)
    · cases h
  | lc elt t it own d =>
    simp only [matchE] at h
    split at h
    · rename_i y tg iter ifs k scope pos
      simp only [Bool.and_eq_true, decide_eq_true_eq] at h
      obtain ⟨⟨⟨⟨⟨⟨⟨⟨⟨⟨hot, rfl⟩, hi⟩, hf⟩, hp⟩, hb⟩, hm⟩, hm'⟩, ht⟩, hd⟩, he⟩ := h
      rw [Bool.not_eq_true'] at hot
      have hown : (ownP c own).map (·.2) = own := by
        unfold ownP
        rw [List.map_map]
        exact (List.map_congr_left fun _ _ => rfl).trans (List.map_id _)
      refine PE.imp (pe_lc (own := ownP c own) (wi := tI X.K Φ G it) (g := tG X.K t) (tt := TB.tIf X.K Φ G d) (te := tE X.K Φ G elt) (ok.calm hot) ok.nd (sndI it X ok _ hi tg (tp_of hp hm)) (blkOk_by (by rw [ok.N]; exact hb)) ?_ ?_ ?_ (folded_of hf)) fun σ H Q q => ?_
      · intro s H C cl fp
        exact pg_tg (ok.blk hot s H scope _ fp) hot (fun x hl hx => blk_fn (sc := X.env.scope) hl hx) hm hm'
      · intro s H C cl fp
        exact sndIf d _ (ok.blk hot s H scope _ fp) _ hd
      · intro s H C cl fp
        exact (sndE elt _ (ok.blk hot s H scope _ fp) _ he).1
      · rw [hown]
        exact lc_readF ht σ H Q q
    · cases h
  | bin op a b =>
    simp only [matchE] at h
    split at h
    · simp only [Bool.and_eq_true] at h
      obtain rfl := eqOp_eq h.1.1
      cases op <;> first | (cases hf; done) | skip
      exact PE.imp (pe_op op_catL (sndE a X ok _ h.1.2).1 (sndE b X ok _ h.2).1) (cat_readF hf)
    · cases h
  | _ => cases hf
/-- a comprehension stored into a local name -/
theorem ps_lc (ok : SOk X c Φ G Vx) {elt : E} {t : Tg} {it : I} {own : List Nat} {d : Oe} {i : Nat} {x : Str} {p pos : Pos} {v : Expr} (hn : nmIs c i x = true) (hx : locB X.env.scope x = true) (hc : compOk X.env.scope x p v = true)
    (h : matchE c (.lc elt t it own d) X.env.scope v = true) : PS X (.Assign [.Name x p] v pos) (tAsg (tLc (tI X.K Φ G it) (tG X.K t) (TB.tIf X.K Φ G d) (tE X.K Φ G elt) own) (gName i)) ∧ tgB t own = true := by
  simp only [matchE] at h
  split at h
  · rename_i y tg iter ifs k scope vp
    simp only [Bool.and_eq_true, decide_eq_true_eq] at h
    obtain ⟨⟨⟨⟨⟨⟨⟨⟨⟨⟨hot, rfl⟩, hi⟩, hf⟩, hp⟩, hb⟩, hm⟩, hm'⟩, ht⟩, hd⟩, he⟩ := h
    rw [Bool.not_eq_true'] at hot
    have hown : (ownP c own).map (·.2) = own := by
      unfold ownP
      rw [List.map_map]
      exact (List.map_congr_left fun _ _ => rfl).trans (List.map_id _)
    have hl : X.env.scope.names.lookup x = some .local := by
      unfold locB at hx
      split at hx
      · rename_i e; exact e
      · cases hx
    simp only [compOk, hx, Bool.not_true, Bool.false_or, Bool.and_eq_true, Bool.not_eq_true'] at hc
    simp only [nmIs, decide_eq_true_eq] at hn
    refine ⟨?_, ht⟩
    have := ps_setLc (i := i) (y := x) (py := p) (spos := pos) (own := ownP c own) (wi := tI X.K Φ G it) (g := tG X.K t) (tt := TB.tIf X.K Φ G d) (te := tE X.K Φ G elt) (pos := vp) (elt := y) (tg := tg) (iter := iter) (ifs := ifs) (scope := scope)
      (ok.x.calm hot) ok.x.nd (by rw [ok.x.N]; exact hn) hl (sw_true ok.kind hl hc.1 hc.2) (sndI it X ok.x _ hi tg (tp_of hp hm)) (blkOk_by (by rw [ok.x.N]; exact hb))
      (fun s H C cl fp => pg_tg (ok.x.blk hot s H scope _ fp) hot (fun x hl hx => blk_fn (sc := X.env.scope) hl hx) hm hm') (fun s H C cl fp => sndIf d _ (ok.x.blk hot s H scope _ fp) _ hd) (fun s H C cl fp => (sndE elt _ (ok.x.blk hot s H scope _ fp) _ he).1) (folded_of hf)
    rw [hown] at this
    exact this
  · cases h
theorem lc_comp {elt : E} {t : Tg} {it : I} {own : List Nat} {d : Oe} {e : E} {sc : Scope} {v : Expr} (h : matchE c e sc v = true) (hv : notComp v = false) : (∃ elt t it own d, e = .lc elt t it own d) ∧ ∃ y gs scope p, v = .ListComp y gs scope p := by
  cases v <;> first | cases hv | skip
  · cases e <;> simp only [matchE] at h <;> first | (cases h; done) | (cases h; done) | exact ⟨⟨_, _, _, _, _, rfl⟩, _, _, _, _, rfl⟩
  · cases e <;> simp only [matchE] at h <;> (cases h; done)
  · cases e <;> simp only [matchE] at h <;> (cases h; done)
/-- any value into a name -/
theorem ps_any (ok : SOk X c Φ G Vx) {e : E} {te : TE} {i : Nat} {x : Str} {p pos : Pos} {v : Expr} (hn : nmIs c i x = true) (hx : lcB X.env.scope x = true) (he : PE X v te) (hs : swapsWith v (some (.Name x p)) pos.line X.env = pure false) : PS X (.Assign [.Name x p] v pos) (tAsg te (gName i)) := by
  simp only [nmIs, decide_eq_true_eq] at hn
  have hl := loc_of hx
  refine ps_set ok.x.nd (by rw [ok.x.N]; exact hn) hl he hs ?_
  rcases hl with e | e
  · exact .inr e
  · exact .inl (ok.fn x e)
/-- values that names keep -/
def tAQ (K : PySem.W.Frag) (Φ : Nat → List W → Sto → Res W) (G : List D) (ms : List Bool) (es : Es) : TA := rd K (evQ Φ G ms es) (RelWs K)
theorem keep_of {R : Addr → Prop} {st st1 : Sto} {as as1 : As} {H H1 : Hp} {x : W} {v : V} {e : E} {m : Bool} {P : W → Sto → Prop} (hm : m = true → freshE e = false) (po : Post X.K R H st as st1 H1 as1) (r : RelW X.K H1 (Zof st1 as1 R) as1 x v) (h : (keepW m e x st1).wp P) :
    ∃ w st2, P w st2 ∧ Post X.K R H1 st1 as1 st2 H1 as1 ∧ RelW X.K H1 (Zof st2 as1 R) as1 w v := by
  unfold keepW at h
  split at h
  · rename_i hm'
    rw [hm hm'] at h
    cases x with
    | e a => exact h.elim
    | d d =>
      simp only [Bool.false_eq_true, if_false] at h
      exact h.elim
    | r a => exact ⟨_, _, h, .refl po.wld, r⟩
  · obtain ⟨d, st2, p2, po2, r2⟩ := val_of po.wld r (wp_bind h)
    exact ⟨_, _, p2, po2, r2⟩
theorem sndQ (ok : XOk X c Φ G) : ∀ {ms : List Bool} {es : Es} {pys : List Expr}, matchEs c es X.env.scope pys = true → okQ ms es = true → PA X pys (tAQ X.K Φ G ms es)
  | [], .nil, pys, h, _ => by
    simp only [matchEs] at h
    split at h
    · refine PA.imp pa_nil fun σV H Q ⟨R, σ, st, as, hl, hw, q⟩ => ?_
      rw [evQ] at q
      exact q [] H as (.refl hw) True.intro
    · cases h
  | m :: ms, .cons e es, pys, h, hq => by
    simp only [matchEs] at h
    simp only [okQ, Bool.and_eq_true] at hq
    split at h
    · rename_i x xs
      rw [Bool.and_eq_true, Bool.and_eq_true] at h
      have h2 := sndQ ok h.2 hq.2
      by_cases hf : m = true ∧ freshE e = true
      · obtain ⟨rfl, hf⟩ := hf
        refine PA.imp (pa_cons (sndF ok hf h.1.1) h2 (star_cons h.1.2)) fun σV H Q ⟨R, σ, st, as, hl, hw, q⟩ => ?_
        rw [evQ] at q
        refine ⟨R, σ, st, as, hl, hw, wp_mono (wp_bind q) fun w st' q => ?_⟩
        cases w with
        | e a => simp only [keepW, if_true] at q; exact q.elim
        | d d =>
          intro p ob H' as' hob po sl
          simp only [keepW, if_true, hf, hob] at q
          obtain ⟨pp, ez⟩ := po.push (newOb_live hob) sl
          have hl' : Loc X.K H' (Zof st' as' fun q => R q ∨ q = p) (as' ++ [(p, [])]) σ σV := by
            obtain ⟨m, em⟩ := po.ext
            exact hl.grow po.grow ⟨m ++ [(p, [])], by rw [em, List.append_assoc]⟩
          rw [← ez] at hl'
          refine rd_step hl' pp.wld (wp_bind q) fun ws st2 vs H2 as2 p2 po2 l2 r2 => ?_
          refine p2 (_ :: vs) H2 as2 (pp.trans po2) ⟨?_, r2⟩
          obtain ⟨m, em⟩ := po2.ext
          refine ⟨p, [], ?_, rfl⟩
          rw [em, po.wld.len]
          simp
        | r a =>
          intro v H' as' po r
          simp only [keepW, if_true] at q
          refine rd_step (hl.grow po.grow po.ext) po.wld (wp_bind q) fun ws st2 vs H2 as2 p2 po2 l2 r2 => ?_
          exact p2 (v :: vs) H2 as2 (po.trans po2) ⟨RelW.grow (w := .r a) po2.grow po2.ext r, r2⟩
      · have hf' : m = true → freshE e = false := fun e1 => by
          cases e2 : freshE e with
          | false => rfl
          | true => exact absurd ⟨e1, e2⟩ hf
        refine PA.imp (pa_cons (sndE e X ok x h.1.1).1 h2 (star_cons h.1.2)) fun σV H Q ⟨R, σ, st, as, hl, hw, q⟩ => ?_
        rw [evQ] at q
        refine rd_step hl hw (wp_bind q) fun w st1 v H1 as1 p po l r => ?_
        obtain ⟨w2, st2, p2, po2, r2⟩ := keep_of hf' po r (wp_bind p)
        refine rd_step (l.grow po2.grow po2.ext) po2.wld (wp_bind p2) fun ws st3 vs H3 as3 p3 po3 l3 r3 => ?_
        exact p3 (v :: vs) H3 as3 ((po.trans po2).trans po3) ⟨r2.grow po3.grow po3.ext, r3⟩
    · cases h
  | [], .cons _ _, _, _, h => by cases h
  | _ :: _, .nil, _, _, h => by cases h
theorem storeW_len : ∀ {is : List Nat} {ws : List W} {σ σ1 : Ev}, storeW is ws σ = some σ1 → is.length = ws.length
  | [], [], _, _, _ => rfl
  | _ :: is, _ :: ws, _, _, h => by
    have h' : storeW is ws _ = some _ := h
    rw [List.length_cons, List.length_cons, storeW_len h']
  | [], _ :: _, _, _, h => by cases h
  | _ :: _, [], _, _, h => by cases h
theorem tGs_ofW {K : PySem.W.Frag} {Z : Addr → Prop} {as : As} {H : Hp} : ∀ {is : List Nat} {ws : List W} {vs : List V} {σ σ1 : Ev} {σV : L2.St} {Q : L2.St → Hp → Prop}, storeW is ws σ = some σ1 → RelWs K H Z as ws vs → Loc K H Z as σ σV →
    (∀ σV1, Loc K H Z as σ1 σV1 → Q σV1 H) → tGs is vs σV H Q
  | [], [], [], σ, σ1, σV, Q, h, r, l, k => by
    cases h
    exact ⟨rfl, k σV l⟩
  | i :: is, w :: ws, v :: vs, σ, σ1, σV, Q, h, r, l, k => ⟨_, _, rfl, tGs_ofW h r.2 (l.set r.1) k⟩
  | [], [], _ :: _, _, _, _, _, _, r, _, _ => r.elim
  | _ :: _, _ :: _, [], _, _, _, _, _, r, _, _ => r.elim
  | [], _ :: _, _, _, _, _, _, h, _, _, _ => by cases h
  | _ :: _, [], _, _, _, _, _, h, _, _, _ => by cases h
theorem wsLen {K : PySem.W.Frag} {H : Hp} {as : As} {Z : Addr → Prop} : ∀ {ws : List W} {vs : List V}, RelWs K H Z as ws vs → ws.length = vs.length
  | [], [], _ => rfl
  | _ :: ws, _ :: vs, h => by rw [List.length_cons, List.length_cons, wsLen h.2]
  | [], _ :: _, h => h.elim
  | _ :: _, [], h => h.elim
theorem asgQ_read {is : List Nat} {ms : List Bool} {es : Es} (hn : is.length ≤ 1000) (D : Ends) (σV : L2.St) (H : Hp) (h : tS X.K Vx Φ G (.asgQ is ms es) D σV H) : tAsg (tTup (tAQ X.K Φ G ms es)) (tG X.K (.tp is)) D σV H := by
  obtain ⟨R, σ, st, as, hl, hw, h⟩ := h
  rw [ex] at h
  unfold tAsg tTup tAQ
  refine rd_step hl hw (wp_bind h) fun ws st1 vs H1 as1 p po l r => ?_
  obtain ⟨fl, hf, q⟩ := wp_ofO p
  rw [Option.map_eq_some_iff] at hf
  obtain ⟨σ1, hσ, rfl⟩ := hf
  have el : vs.length = is.length := by rw [← wsLen r, storeW_len hσ]
  refine ⟨by rw [el]; exact lim_line (Nat.le_trans hn (by decide)), fun a ha => ?_⟩
  have po1 := po.trans (Post.alloc (o := .tup vs) po.wld ha)
  have g := grows_new (Z := Zof st1 as1 R) (o := .tup vs) ha
  have st0 : StT (upd H1 a (.tup vs)) (Zof st1 as1 R) a vs := ⟨upd_same, po.wld.notZ ha⟩
  exact ⟨_, _, rfl, st0.sq, el, tGs_ofW hσ (RelWs.grow g ⟨[], by simp⟩ r) (l.grow g ⟨[], by simp⟩) fun σV1 l1 => q σV1 _ as1 po1 l1⟩
theorem parQ_read {i j : Nat} {ms : List Bool} {es : Es} (D : Ends) (σV : L2.St) (H : Hp) (h : tS X.K Vx Φ G (.asgQ [i, j] ms es) D σV H) : tPar i j (tAQ X.K Φ G ms es) D σV H := by
  obtain ⟨R, σ, st, as, hl, hw, h⟩ := h
  rw [ex] at h
  unfold tPar tAQ
  refine rd_step hl hw (wp_bind h) fun ws st1 vs H1 as1 p po l r => ?_
  obtain ⟨fl, hf, q⟩ := wp_ofO p
  rw [Option.map_eq_some_iff] at hf
  obtain ⟨σ1, hσ, rfl⟩ := hf
  have hlen := storeW_len hσ
  have hl2 := wsLen r
  match ws, vs, r, hlen, hl2, hσ with
  | [d, e], [v, u], r, _, _, hσ =>
    cases hσ
    exact ⟨_, _, rfl, q _ H1 as1 po ((l.set r.1).set r.2.1)⟩
theorem parQ3_read {i j k : Nat} {ms : List Bool} {es : Es} (D : Ends) (σV : L2.St) (H : Hp) (h : tS X.K Vx Φ G (.asgQ [i, j, k] ms es) D σV H) : tPar3 i j k (tAQ X.K Φ G ms es) D σV H := by
  obtain ⟨R, σ, st, as, hl, hw, h⟩ := h
  rw [ex] at h
  unfold tPar3 tAQ
  refine rd_step hl hw (wp_bind h) fun ws st1 vs H1 as1 p po l r => ?_
  obtain ⟨fl, hf, q⟩ := wp_ofO p
  rw [Option.map_eq_some_iff] at hf
  obtain ⟨σ1, hσ, rfl⟩ := hf
  have hlen := storeW_len hσ
  have hl2 := wsLen r
  match ws, vs, r, hlen, hl2, hσ with
  | [d, e, f], [v, u, y], r, _, _, hσ =>
    cases hσ
    exact ⟨_, _, _, rfl, q _ H1 as1 po (((l.set r.1).set r.2.1).set r.2.2.1)⟩
mutual
theorem sndS : ∀ (s : S), SOk X c Φ G Vx → ∀ (py : Stmt), matchS c s X.env.scope py = true → PS X py (tS X.K Vx Φ G s)
  | .asg i e m, ok, py, h => by
    simp only [matchS] at h
    split at h
    · rename_i x p v pos
      simp only [Bool.and_eq_true] at h
      obtain ⟨⟨⟨⟨hn, hx⟩, he⟩, hv⟩, hm⟩ := h
      have hE := (sndE e X ok.x _ he).1
      have main : ∀ te, PE X v te → (∀ D σ H, tS X.K Vx Φ G (.asg i e m) D σ H → tAsg te (gName i) D σ H) → (∀ elt t it own d, e = .lc elt t it own d → tgB t own = true → ∀ D σ H, tS X.K Vx Φ G (.asg i e m) D σ H → tAsg (tLc (tI X.K Φ G it) (tG X.K t) (TB.tIf X.K Φ G d) (tE X.K Φ G elt) own) (gName i) D σ H) → PS X (.Assign [.Name x p] v pos) (tS X.K Vx Φ G (.asg i e m)) := by
        intro te hE r1 r2
        cases hc : notComp v with
        | true => exact PS.imp (ps_any (e := e) ok hn hx hE (sw_no hc)) r1
        | false =>
          rw [hc, Bool.false_or] at hv
          cases hloc : locB X.env.scope x with
          | true =>
            obtain ⟨⟨elt, t, it, own, d, rfl⟩, _⟩ := lc_comp (elt := e) (t := .nm 0) (it := .e e) (own := []) (d := .no) he hc
            obtain ⟨h1, h2⟩ := ps_lc (pos := pos) ok hn hloc hv he
            exact PS.imp h1 (r2 _ _ _ _ _ rfl h2)
          | false =>
            obtain ⟨_, y, gs, scope, vp, rfl⟩ := lc_comp (elt := e) (t := .nm 0) (it := .e e) (own := []) (d := .no) he hc
            exact PS.imp (ps_any (e := e) ok hn hx hE (sw_cell hloc)) r1
      cases m with
      | false =>
        refine main _ hE asg_read fun elt t it own d e1 ht D σ H q => ?_
        subst e1
        exact tAsg_imp (lc_read ht) D σ H (asg_read D σ H q)
      | true =>
        cases hf : freshE e with
        | true =>
          refine main _ (sndF ok.x hf he) asgM_read fun elt t it own d e1 ht D σ H q => ?_
          subst e1
          exact tAsg_imp (lc_readF ht) D σ H (asgM_read D σ H q)
        | false =>
          rw [hf] at hm
          cases e <;> simp only [Bool.not_true, Bool.false_or] at hm <;> try (cases hm; done)
          refine main _ hE (fun D σ H q => call_ref σ H D q) fun elt t it own d e1 ht D σ H q => by cases e1
    · cases h
  | .asgT is e, ok, py, h => by
    simp only [matchS] at h
    split at h
    · rename_i tg v pos
      simp only [Bool.and_eq_true] at h
      obtain ⟨⟨⟨⟨hot, ht⟩, he⟩, hc⟩, hv⟩ := h
      rw [Bool.not_eq_true'] at hot
      refine PS.imp (ps_asg (sndE e X ok.x _ he).1 (pg_tg (sc' := X.env.scope) ok.x hot (fun x _ hx => ok.fn x hx) ht ht) (sw_no hc) (swp_no hv) ?_) asgT_read
      cases tg <;> first | rfl | (simp only [matchT] at ht; cases ht)
    · cases h
  | .asgP is es, ok, py, h => by
    simp only [matchS] at h
    split at h
    · rename_i ts k p vs k2 p2 pos
      simp only [Bool.and_eq_true, decide_eq_true_eq] at h
      obtain ⟨⟨⟨⟨⟨hot, ht⟩, he⟩, hl⟩, hl2⟩, h⟩ := h
      rw [Bool.not_eq_true'] at hot
      have hA := (sndA es X ok.x _ he).2
      split at h
      · rename_i hs
        have hT : matchT c X.env.scope (.tp is) (.Tuple ts k p) = true := by
          simp only [matchT, Bool.and_eq_true, decide_eq_true_eq]
          refine ⟨ht, ?_⟩
          have := (nms_each (env := X.env) ht).1
          rw [← this]
          have hlen : ∀ es : List Expr, (assignEach es X.env).length = es.length := by
            intro es
            induction es with
            | nil => rfl
            | cons e es ih => cases e <;> simp only [assignEach, List.length_cons, ih]
          rw [hlen]; exact hl
        exact PS.imp (ps_asg (pe_tup hA) (pg_tg (sc' := X.env.scope) ok.x hot (fun x _ hx => ok.fn x hx) hT hT) (sws_no rfl) (swB_of ok.kind hs) rfl) (asgP_read he hl2)
      · rename_i nms hs
        split at h
        · rename_i i j x px y py' e1 e2
          simp only [Bool.and_eq_true, decide_eq_true_eq] at h
          obtain ⟨⟨⟨rfl, hij⟩, hx⟩, hy⟩ := h
          simp only [matchNms, matchNm, nmIs, Bool.and_eq_true, decide_eq_true_eq] at ht
          have hw := swB_of (k := k) (p := p) (k2 := k2) (p2 := p2) ok.kind hs
          exact PS.imp (ps_par (ok.x.calm hot) ok.x.nd (by rw [ok.x.N]; exact ht.1.1.1) (by rw [ok.x.N]; exact ht.2.1.1.1) hij (locB_of hx) (locB_of hy) hA hw (sws_no rfl)) (par_read hij)
        · rename_i i j l x px y py' z pz e1 e2 e3
          simp only [Bool.and_eq_true, decide_eq_true_eq] at h
          obtain ⟨⟨⟨⟨⟨⟨rfl, hij⟩, hil⟩, hjl⟩, hx⟩, hy⟩, hz⟩ := h
          simp only [matchNms, matchNm, nmIs, Bool.and_eq_true, decide_eq_true_eq] at ht
          have hw := swB_of (k := k) (p := p) (k2 := k2) (p2 := p2) ok.kind hs
          exact PS.imp (ps_par3 (ok.x.calm hot) ok.x.nd (by rw [ok.x.N]; exact ht.1.1.1) (by rw [ok.x.N]; exact ht.2.1.1.1) (by rw [ok.x.N]; exact ht.2.2.1.1.1) hij hil hjl (locB_of hx) (locB_of hy) (locB_of hz) hA hw (sws_no rfl)) par3_read
        · cases h
      · cases h
    · cases h
  | .asgQ is ms es, ok, py, h => by
    simp only [matchS] at h
    split at h
    · rename_i ts k p vs k2 p2 pos
      simp only [Bool.and_eq_true, decide_eq_true_eq] at h
      obtain ⟨⟨⟨⟨⟨⟨hot, ht⟩, he⟩, hq⟩, hl⟩, hl2⟩, h⟩ := h
      rw [Bool.not_eq_true'] at hot
      have hA := sndQ ok.x he hq
      split at h
      · rename_i hs
        have hlen : ∀ es : List Expr, (assignEach es X.env).length = es.length := by
          intro es
          induction es with
          | nil => rfl
          | cons e es ih => cases e <;> simp only [assignEach, List.length_cons, ih]
        have hn : is.length ≤ 1000 := by
          have := (nms_each (env := X.env) ht).1
          rw [← this, hlen]
          exact hl
        have hT : matchT c X.env.scope (.tp is) (.Tuple ts k p) = true := by
          simp only [matchT, Bool.and_eq_true, decide_eq_true_eq]
          exact ⟨ht, hn⟩
        exact PS.imp (ps_asg (pe_tup hA) (pg_tg (sc' := X.env.scope) ok.x hot (fun x _ hx => ok.fn x hx) hT hT) (sws_no rfl) (swB_of ok.kind hs) rfl) (asgQ_read hn)
      · rename_i nms hs
        split at h
        · rename_i i j x px y py' e1 e2
          simp only [Bool.and_eq_true, decide_eq_true_eq] at h
          obtain ⟨⟨⟨rfl, hij⟩, hx⟩, hy⟩ := h
          simp only [matchNms, matchNm, nmIs, Bool.and_eq_true, decide_eq_true_eq] at ht
          have hw := swB_of (k := k) (p := p) (k2 := k2) (p2 := p2) ok.kind hs
          exact PS.imp (ps_par (ok.x.calm hot) ok.x.nd (by rw [ok.x.N]; exact ht.1.1.1) (by rw [ok.x.N]; exact ht.2.1.1.1) hij (locB_of hx) (locB_of hy) hA hw (sws_no rfl)) parQ_read
        · rename_i i j l x px y py' z pz e1 e2 e3
          simp only [Bool.and_eq_true, decide_eq_true_eq] at h
          obtain ⟨⟨⟨⟨⟨⟨rfl, hij⟩, hil⟩, hjl⟩, hx⟩, hy⟩, hz⟩ := h
          simp only [matchNms, matchNm, nmIs, Bool.and_eq_true, decide_eq_true_eq] at ht
          have hw := swB_of (k := k) (p := p) (k2 := k2) (p2 := p2) ok.kind hs
          exact PS.imp (ps_par3 (ok.x.calm hot) ok.x.nd (by rw [ok.x.N]; exact ht.1.1.1) (by rw [ok.x.N]; exact ht.2.1.1.1) (by rw [ok.x.N]; exact ht.2.2.1.1.1) hij hil hjl (locB_of hx) (locB_of hy) (locB_of hz) hA hw (sws_no rfl)) parQ3_read
        · cases h
      · cases h
    · cases h
  | .ret e, ok, py, h => by
    simp only [matchS] at h
    split at h
    · exact PS.imp (ps_ret (sndE e X ok.x _ h).1) ret_read
    · cases h
  | .retM i, ok, py, h => by
    simp only [matchS] at h
    split at h
    · exact PS.imp (ps_ret (sndE (.var i) X ok.x _ h).1) retM_read
    · cases h
  | .retN e, ok, py, h => by
    simp only [matchS] at h
    split at h
    · rw [Bool.and_eq_true, Bool.or_eq_true] at h
      rcases h.2 with h2 | h2
      · exact PS.imp (ps_ret (sndF ok.x h2 h.1)) retN_read
      · cases e <;> first | (cases h2; done) | skip
        exact PS.imp (ps_ret (sndE _ X ok.x _ h.1).1) retC_read
    · cases h
  | .ife e a b, ok, py, h => by
    simp only [matchS] at h
    split at h
    · simp only [Bool.and_eq_true] at h
      exact PS.imp (ps_if (sndE e X ok.x _ h.1.1).2 (sndSs a ok _ h.1.2) (sndSs b ok _ h.2)) if_read
    · cases h
  | .fori t it b _ _, ok, py, h => by
    simp only [matchS] at h
    split at h
    · simp only [Bool.and_eq_true] at h
      obtain ⟨⟨⟨⟨⟨hot, hi⟩, hf⟩, hp⟩, hm⟩, hb⟩ := h
      rw [Bool.not_eq_true'] at hot
      exact PS.imp (ps_for (ok.hp hot) (ok.x.calm hot) (sndI it X ok.x _ hi _ (tp_of hp hm)) (pg_tg (sc' := X.env.scope) ok.x hot (fun x _ hx => ok.fn x hx) hm hm) (sndSs b ok _ hb) (folded_of hf)) for_read
    · cases h
  | .asgDL i k t it own, ok, py, h => by
    simp only [matchS] at h
    split at h
    · rename_i x xp f fp y lp tk tp tg iter ifs kk scope cp0 cp pos
      simp only [Bool.and_eq_true, decide_eq_true_eq] at h
      obtain ⟨⟨⟨⟨⟨⟨hot, hn⟩, hx⟩, rfl⟩, hg⟩, hy⟩, ⟨⟨⟨⟨⟨⟨⟨⟨⟨rfl, hi⟩, hf⟩, hp⟩, hb⟩, hm⟩, hm'⟩, ht⟩, hd⟩, hk⟩⟩ := h
      rw [Bool.not_eq_true'] at hot
      have hown : (ownP c own).map (·.2) = own := by
        unfold ownP
        rw [List.map_map]
        exact (List.map_congr_left fun _ _ => rfl).trans (List.map_id _)
      have hL := pe_lc (own := ownP c own) (pos := cp0) (wi := tI X.K Φ G it) (g := tG X.K t) (tt := TB.tIf X.K Φ G .no) (te := tTup (tCons (tE X.K Φ G k) (tCons (tLst tNil) tNil))) (elt := .Tuple [y, .List [] lp] tk tp) (ok.x.calm hot) ok.x.nd (sndI it X ok.x _ hi tg (tp_of hp hm)) (blkOk_by (by rw [ok.x.N]; exact hb))
        (fun s H C cl fp => pg_tg (ok.x.blk hot s H scope _ fp) hot (fun x hl hx => blk_fn (sc := X.env.scope) hl hx) hm hm')
        (fun s H C cl fp => sndIf .no _ (ok.x.blk hot s H scope _ fp) _ hd)
        (fun s H C cl fp => pe_tup (pa_cons (sndE k _ (ok.x.blk hot s H scope _ fp) _ hk).1 (pa_cons (pe_lst pa_nil) pa_nil rfl) (star_cons hy))) (folded_of hf)
      rw [hown] at hL
      exact PS.imp (ps_any (e := k) ok hn hx (pe_callTy (cr_dictV (ok.x.calm hot) ok.x.hu) (gl_of hg) (bt ok.x) (by decide +kernel) (pa_cons hL pa_nil rfl) (by decide) (by decide) rfl rfl) (sw_no rfl)) (asgDL_read ht)
    · cases h
  | .app2 i k e, ok, py, h => by
    simp only [matchS] at h
    split at h
    · rename_i x p y sp m ap v cp pos
      simp only [Bool.and_eq_true, decide_eq_true_eq] at h
      obtain ⟨⟨⟨⟨⟨⟨ho, hk⟩, hsl⟩, rfl⟩, he⟩, hs⟩, hl⟩ := h
      exact PS.imp (ps_expr (pe_bm PySem.F.plainAttrs_list PySem.F.slot_list_append PySem.F.type_list_append mt_append (pe_ix (ix_dl (X := X) (Nat.lt_of_le_of_lt (by omega) ok.x.hu)) (sndE (.var i) X ok.x _ ho).1 (sndE k X ok.x _ hk).1 (plainIx_of hsl)) (pa_cons (sndE e X ok.x _ he).1 pa_nil (star_cons hs)) rfl (by rw [star_cons hs]; rfl) hl (star_cons hs))) app2_read
    · cases h
  | .rem i e, ok, py, h => by
    simp only [matchS] at h
    split at h
    · rename_i x p m ap v cp pos
      simp only [Bool.and_eq_true, decide_eq_true_eq] at h
      obtain ⟨⟨⟨⟨ho, rfl⟩, he⟩, hs⟩, hl⟩ := h
      exact PS.imp (ps_expr (pe_bm PySem.F.plainAttrs_list PySem.F.slot_list_remove PySem.F.type_list_remove (mt_remD (Nat.lt_of_le_of_lt (by omega) ok.x.hu)) (sndE (.var i) X ok.x _ ho).1 (pa_cons (sndE e X ok.x _ he).1 pa_nil (star_cons hs)) rfl (by rw [star_cons hs]; rfl) hl (star_cons hs))) rem_read
    · cases h
  | .whil e b _ _, ok, py, h => by
    simp only [matchS] at h
    split at h
    · simp only [Bool.and_eq_true] at h
      obtain ⟨⟨hot, h1⟩, h2⟩ := h
      rw [Bool.not_eq_true'] at hot
      exact PS.imp (ps_while (ok.hp hot) (sndE e X ok.x _ h1).2 (sndSs b ok _ h2)) while_read
    · cases h
  | .expr e, ok, py, h => by
    simp only [matchS] at h
    split at h
    · simp only [Bool.and_eq_true] at h
      exact PS.imp (ps_expr (sndE e X ok.x _ h.1).1 (sw_no h.2)) expr_read
    · cases h
  | .app i e, ok, py, h => by
    simp only [matchS] at h
    split at h
    · rename_i x p m ap v cp pos
      simp only [Bool.and_eq_true, decide_eq_true_eq] at h
      obtain ⟨⟨⟨⟨ho, rfl⟩, he⟩, hs⟩, hl⟩ := h
      exact PS.imp (ps_expr (pe_bm PySem.F.plainAttrs_list PySem.F.slot_list_append PySem.F.type_list_append mt_append (sndE (.var i) X ok.x _ ho).1 (pa_cons (sndE e X ok.x _ he).1 pa_nil (star_cons hs)) rfl (by rw [star_cons hs]; rfl) hl (star_cons hs))) app_read
    · cases h
  | .ext i e, ok, py, h => by
    simp only [matchS] at h
    split at h
    · rename_i x p m ap v cp pos
      simp only [Bool.and_eq_true, decide_eq_true_eq] at h
      obtain ⟨⟨⟨⟨ho, rfl⟩, he⟩, hs⟩, hl⟩ := h
      exact PS.imp (ps_expr (pe_bm PySem.F.plainAttrs_list PySem.F.slot_list_extend PySem.F.type_list_extend mt_extX (sndE (.var i) X ok.x _ ho).1 (pa_cons (sndE e X ok.x _ he).1 pa_nil (star_cons hs)) rfl (by rw [star_cons hs]; rfl) hl (star_cons hs))) ext_read
    · cases h
  | .seti i k e, ok, py, h => by
    simp only [matchS] at h
    split at h
    · rename_i x p y sp v pos
      simp only [Bool.and_eq_true] at h
      obtain ⟨⟨⟨⟨ho, hk⟩, hsl⟩, he⟩, hc⟩ := h
      refine PS.imp (ps_asg (sndE e X ok.x _ he).1 (pg_sub (sndE (.var i) X ok.x _ ho).1 (sndE k X ok.x _ hk).1 (set_X (Nat.lt_of_le_of_lt (by omega) ok.x.hu)) ?_) (sws_no hc) ?_ rfl) seti_read
      · intro v
        cases y <;> first | rfl | cases hsl
      · cases v <;> rfl
    · cases h
  | .never, ok, py, h => PS.imp ps_never never_read
  | .nvr, ok, py, h => PS.imp ps_never nvr_read
  | .rais n es, ok, py, h => by
    simp only [matchS] at h
    split at h
    · simp only [Bool.and_eq_true, decide_eq_true_eq] at h
      obtain ⟨⟨⟨⟨hot, hx⟩, hg⟩, hd⟩, he⟩ := h
      rw [Bool.not_eq_true'] at hot
      cases es with
      | nil =>
        obtain ⟨C, e1, e2, e3, e4, e5⟩ := ok.excs hot _ _ hx
        refine PS.imp (L2N.ps_raise (ok.x.calm hot) (ok.takes hot) (L2N.pmk_own PySem.F.excBase_ValueError e2 e3 e4 e5 (gl_of hg) (plain1 hd).1)) fun D σV H ⟨R, σ, st, as, hl, hw, q⟩ => ?_
        rw [ex, evD] at q
        exact q (.ref C) none σV H as (.refl hw) ⟨C, e1, rfl, .inl ⟨rfl, rfl⟩⟩
      | cons e es => cases he
    · cases h
  | .exprX f es, ok, py, h => by
    simp only [matchS] at h
    split at h
    · rename_i x p xs pos pos2
      simp only [Bool.and_eq_true, decide_eq_true_eq, Bool.not_eq_true'] at h
      obtain ⟨⟨⟨⟨⟨hot, hx⟩, hg⟩, hd⟩, he⟩, hn⟩ := h
      exact PS.imp (ps_expr (pe_fnX ok hot hx (gl_of hg) (plain1 hd).1 he hn) (sw_no rfl)) exprX_read
    · cases h
  | .retX f es, ok, py, h => by
    simp only [matchS] at h
    split at h
    · rename_i x p xs pos pos2
      simp only [Bool.and_eq_true, decide_eq_true_eq, Bool.not_eq_true'] at h
      obtain ⟨⟨⟨⟨⟨hot, hx⟩, hg⟩, hd⟩, he⟩, hn⟩ := h
      exact PS.imp (ps_ret (pe_fnX ok hot hx (gl_of hg) (plain1 hd).1 he hn)) retX_read
    · cases h
  | .pass, ok, py, h => by
    simp only [matchS] at h
    split at h
    · exact PS.imp ps_pass pass_read
    · exact PS.imp ps_doc pass_read
    · cases h
theorem sndSs : ∀ (r : Ss), SOk X c Φ G Vx → ∀ (py : List Stmt), matchSs c r X.env.scope py = true → PSs X py (tSs X.K Vx Φ G r)
  | .nil, ok, py, h => by
    simp only [matchSs] at h
    split at h
    · exact PSs.imp pss_nil nil_read
    · cases h
  | .cons s r, ok, py, h => by
    simp only [matchSs] at h
    split at h
    · rw [Bool.and_eq_true] at h
      exact PSs.imp (pss_cons (sndS s ok _ h.1) (sndSs r ok _ h.2)) cons_read
    · cases h
end
end
end TB
set_option maxRecDepth 100000
/-! TBFn: the functions of a text. -/
namespace TB
open PySem PySem.Spec PyProof.Rows L2
section
variable {K : PySem.W.Frag} {R : Addr → Prop} {st : Sto} {as : As} {H : Hp}
theorem Post.cutKeep (hw : Wld K H R st as) {st' : Sto} {H' : Hp} {as' : As} (po : Post K R H st as st' H' as') (hlen : st.length ≤ st'.length) {a : Nat} {ob : Ob} {x : Addr × List Addr} (ha : st.length ≤ a) (e1 : st'[a]? = some ob) (e2 : as'[a]? = some x) :
    Post K R H st as (st'.take st.length ++ [ob]) H' (as'.take st.length ++ [x]) := by
  have e0 := po.wld.len
  have l1 : (st'.take st.length).length = st.length := by rw [List.length_take]; omega
  have l2 : (as'.take st.length).length = st.length := by rw [List.length_take, ← e0]; omega
  obtain ⟨w, z⟩ := po.wld.sub (st2 := st'.take st.length ++ [ob]) (as2 := as'.take st.length ++ [x]) (by simp [l1, l2]) (fun i => if i < st.length then i else a)
    (fun i j hi hj e => by
      rw [List.length_append, l1, List.length_singleton] at hi hj
      split at e <;> split at e <;> omega)
    (fun i ob' e => by
      by_cases hi : i < st.length
      · rw [if_pos hi]
        rw [List.getElem?_append_left (by omega), List.getElem?_take_of_lt hi] at e
        exact e
      · rw [if_neg hi]
        rw [List.getElem?_append_right (by omega), l1] at e
        have h0 : i - st.length = 0 := by
          rcases Nat.eq_zero_or_pos (i - st.length) with z | z
          · exact z
          · rw [List.getElem?_eq_none (Nat.succ_le_of_lt z)] at e; cases e
        rw [h0] at e
        cases e
        exact e1)
    (fun i y e => by
      by_cases hi : i < st.length
      · rw [if_pos hi]
        rw [List.getElem?_append_left (by omega), List.getElem?_take_of_lt hi] at e
        exact e
      · rw [if_neg hi]
        rw [List.getElem?_append_right (by omega), l2] at e
        have h0 : i - st.length = 0 := by
          rcases Nat.eq_zero_or_pos (i - st.length) with z | z
          · exact z
          · rw [List.getElem?_eq_none (Nat.succ_le_of_lt z)] at e; cases e
        rw [h0] at e
        cases e
        exact e2)
  refine ⟨w, po.grow.trans (grows_less z), ⟨[x], ?_⟩, po.res⟩
  obtain ⟨m, em⟩ := po.ext
  rw [em, hw.len, List.take_left]
theorem RelWs.length {as : As} {Z : Addr → Prop} : ∀ {ws : List W} {vs : List V}, RelWs K H Z as ws vs → ws.length = vs.length
  | [], [], _ => rfl
  | _ :: ws, _ :: vs, h => by rw [List.length_cons, List.length_cons, RelWs.length h.2]
  | [], _ :: _, h => h.elim
  | _ :: _, [], h => h.elim
theorem RelWs.get {as : As} {Z : Addr → Prop} : ∀ {ws : List W} {vs : List V} {i : Nat} {w : W}, RelWs K H Z as ws vs → ws[i]? = some w → ∃ v, vs[i]? = some v ∧ RelW K H Z as w v
  | w :: ws, v :: vs, 0, _, h, e => by cases e; exact ⟨v, rfl, h.1⟩
  | w :: ws, v :: vs, i + 1, _, h, e => by
    rw [List.getElem?_cons_succ] at e ⊢
    exact RelWs.get h.2 e
  | [], [], _, _, _, e => by simp at e
  | [], _ :: _, _, _, h, _ => h.elim
  | _ :: _, [], _, _, h, _ => h.elim
theorem start_loc {as : As} {Z : Addr → Prop} {ws : List W} {vs : List V} (h : RelWs K H Z as ws vs) (N : List Str) : Loc K H Z as (startE N.length ws) (L2.start N vs) := by
  have hl := h.length
  refine ⟨by simp [startE, L2.start, hl], fun i w e => ?_⟩
  unfold startE at e
  by_cases hi : i < ws.length
  · rw [List.getElem?_append_left (by simpa using hi), List.getElem?_map] at e
    cases e2 : ws[i]? with
    | none => rw [e2] at e; cases e
    | some x =>
      rw [e2] at e
      cases e
      obtain ⟨v, h1, h2⟩ := h.get e2
      refine ⟨v, ?_, h2⟩
      unfold L2.start
      rw [List.getElem?_append_left (by rw [List.length_map, ← hl]; exact hi), List.getElem?_map, h1]
      rfl
  · rw [List.getElem?_append_right (by simpa using hi), List.getElem?_replicate] at e
    split at e <;> cases e
/-- the body's end is the call's -/
theorem body_end {cl : Nat → Option Addr} {Q : VK} {E : XK} {fl : Fl} {st' : Sto} (hw : Wld K H R st as) (h : match finish st.length fl st' with
    | .ok w st'' => ∀ v H' as', Post K R H st as st'' H' as' → RelW K H' (Zof st'' as' R) as' w v → Q v H'
    | .exc c xs st'' => ∀ cls d H' as', Post K R H st as st'' H' as' → ExcR cl c xs cls d H' → E cls d H'
    | .bad => False) :
    Fin K ⟨fun cls d _ H => E cls d H, cl⟩ R H st as { nx := fun _ H' => Q .non H', rt := Q } fl st' := by
  have hlen : ∀ {H' : Hp} {as' : As}, Post K R H st as st' H' as' → st.length ≤ st'.length := fun {H' as'} po => by
    obtain ⟨m, em⟩ := po.ext
    have := po.wld.len
    rw [em, List.length_append, ← hw.len] at this
    omega
  cases fl with
  | nx σ' =>
    intro σV' H' as' po l
    exact h .non H' _ (po.cut hw (hlen po)).1 .non
  | rt w =>
    intro v H' as' po r
    cases w with
    | e x => exact (show False from h).elim
    | d x =>
      obtain ⟨p2, z⟩ := po.cut hw (hlen po)
      exact h v H' _ p2 (Rel.grow (grows_less z) r)
    | r a =>
      obtain ⟨b, qs, e, rfl⟩ := r
      simp only [finish] at h
      split at h
      · rename_i w2 st2 e2
        split at e2
        · rename_i ha
          cases e2
          obtain ⟨p2, z⟩ := po.cut hw (hlen po)
          exact h _ H' _ p2 ⟨b, qs, by rw [List.getElem?_take_of_lt ha]; exact e, rfl⟩
        · rename_i ha
          split at e2
          · rename_i ob eo
            cases e2
            have p2 := po.cutKeep hw (hlen po) (by omega) eo e
            refine h _ H' _ p2 ⟨b, qs, ?_, rfl⟩
            have l2 : (as'.take st.length).length = st.length := by
              have := po.wld.len
              have := hlen po
              rw [List.length_take]; omega
            rw [List.getElem?_append_right (by omega), l2]
            simp
          · cases e2
      · rename_i e2
        split at e2
        · cases e2
        · split at e2 <;> cases e2
      · exact h.elim
  | xc c xs =>
    intro cls d σV' H' as' po r
    exact h cls d H' _ (po.cut hw (hlen po)).1 r
end
end TB
set_option maxRecDepth 100000
set_option maxHeartbeats 2000000
/-! TBSaid: the defs that tell what a lambda says, or which refusal. -/
namespace TB
open PySem PySem.Spec PyProof.Rows L2 L2H
def EXN : List Str := ["NoFace", "NoBlock", "NoPoint", "NoPairing", "NotCalm", "NoHeights", "NoPair", "NoTaking", "NotFlat", "NoNumber", "NoWay", "NoChain", "NoPart", "NotKept", "NoText", "NoLine", "NoDeed", "NotOne", "TooMany"]
/-- what is known of the classes: C is a class that is raised, PE what is caught -/
structure ClsOk (K : PySem.W.Frag) (mg : Str → Option Value) (cl : Nat → Option Addr) (PE : Addr) : Prop where
  pe : mg "PairError" = some (.ref PE)
  ve : mg "ValueError" = none
  own : ∀ (b : Nat) C, cl b = some C → ExcC K C ∧ PySem.W.kitOne K (.ref C) (.type "ValueError") = some true ∧ PySem.W.exmOne K (.ref C) (.ref PE) = some true
  is : ∀ (n : Nat) x, EXN[n]? = some x → ∃ T, mg x = some (.ref T) ∧ ∀ (b : Nat) C, cl b = some C → PySem.W.kitOne K (.ref C) (.ref T) = some (decide ((b : Int) = (n : Int)))
/-! ### which refusal -/
abbrev hotC (N : List Str) : Cxt := { N := N, fn := fun _ => none, gl := fun _ => none, ex := fun i => EXN[i]?, hot := true }
def hotG (a b : Nat) : List D := List.replicate 50 .none ++ [.tuple [.int a, .int b]]
def esI (l : List Nat) : Es := l.foldr (fun n es => .cons (.isE 0 n) es) .nil
def esS (l : List Str) : Es := l.foldr (fun x es => .cons (.cn (.str x)) es) .nil
def kindH : List S := [.asg 1 (.lst (esI [0, 1, 2, 3])) false, .asg 1 (.bin .Add (.var 1) (.lst (esI [4, 5, 6, 7]))) false, .asg 1 (.bin .Add (.var 1) (.lst (esI [8, 9, 10, 11]))) false, .asg 1 (.bin .Add (.var 1) (.lst (esI [12, 13, 14, 15]))) false, .asg 1 (.bin .Add (.var 1) (.lst (esI [16, 17, 18]))) false,
  .ife (.or (.not (.isE 0 99)) (.cmp .NotEq (.me .count (.var 1) (.cons (.cn (.bool true)) .nil)) (.cn (.int 1)))) (.cons (.ret (.cn (.str "other"))) .nil) .nil, .asg 2 (.lst (esS (KWORDS.take 11))) false]
def W2 : List Str := ["chain", "part", "kept", "text", "line", "deed", "one", "many"]
def ssOf (l : List S) : Ss := l.foldr .cons .nil
def ixT : E := .me .index (.var 1) (.cons (.cn (.bool true)) .nil)
/-- the two ways in which it is written -/
def kindS (v : Bool) : Ss := ssOf (kindH ++ if v then [.ret (.idx (.bin .Add (.var 2) (.lst (esS W2))) ixT)] else [.asg 2 (.bin .Add (.var 2) (.lst (esS W2))) false, .ret (.idx (.var 2) ixT)])
theorem ev_isE {Φ : Nat → List W → Sto → Res W} {a b n : Nat} {σ : Ev} {st : Sto} (h : σ[0]? = some (some (.e a))) : ev Φ (hotG a b) (.isE 0 n) σ st = .ok (.d (.bool (decide ((b : Int) = (n : Int)) || decide (n = 99)))) st := by
  have hg : (hotG a b)[50]? = some (.tuple [.int a, .int b]) := rfl
  rw [ev, h, hg]
  have : ((a : Int) = (a : Int) ∧ (0 : Int) ≤ (b : Int)) := ⟨rfl, by omega⟩
  simp only [this, and_self, if_true]
section
variable {Φ : Nat → List W → Sto → Res W} {a b : Nat} {σ : Ev} {st : Sto}
theorem evD_esI : ∀ (l : List Nat), (∀ n ∈ l, n ≠ 99) → ∀ {σ : Ev} {st : Sto}, σ[0]? = some (some (.e a)) → evD Φ (hotG a b) (esI l) σ st = .ok (l.map fun n : Nat => PyData.bool (decide ((b : Int) = (n : Int)))) st
  | [], _, σ, st, _ => by
    show evD Φ _ .nil σ st = _
    rw [evD]; rfl
  | n :: l, hn, σ, st, h => by
    show evD Φ _ (.cons (.isE 0 n) (esI l)) σ st = _
    have h9 : decide (n = 99) = false := decide_eq_false (hn n (List.mem_cons_self ..))
    rw [evD, ev_isE h]
    simp only [Res.bind_ok, val_d, evD_esI l (fun m hm => hn m (List.mem_cons_of_mem _ hm)) h, h9, Bool.or_false, List.map_cons]
theorem evD_esS : ∀ (l : List Str) {G : List D} {σ : Ev} {st : Sto}, evD Φ G (esS l) σ st = .ok (l.map .str) st
  | [], G, σ, st => by
    show evD Φ _ .nil σ st = _
    rw [evD]; rfl
  | x :: l, G, σ, st => by
    show evD Φ _ (.cons (.cn (.str x)) (esS l)) σ st = _
    rw [evD, ev]
    simp only [Res.bind_ok, val_d, evD_esS l, List.map_cons]
end
/-- marks of the class b -/
def marksOf (b : Nat) (l : List Nat) : List D := l.map fun n : Nat => PyData.bool (decide ((b : Int) = (n : Int)))
theorem kind_ok (b : Nat) (hb : b < 17) : ∃ x, KWORDS[b]? = some x ∧ shapedB (.list (marksOf b (List.range 19))) = true ∧ (marksOf b (List.range 19)).countP (fun y => PyData.eqv y (.bool true)) = 1 ∧ (marksOf b (List.range 19)).findIdx? (fun y => PyData.eqv y (.bool true)) = some b ∧
    ((KWORDS.take 11).map PyData.str ++ W2.map PyData.str)[b]? = some (.str x) := by
  match b, hb with
  | 0, _ | 1, _ | 2, _ | 3, _ | 4, _ | 5, _ | 6, _ | 7, _ | 8, _ | 9, _ | 10, _ | 11, _ | 12, _ | 13, _ | 14, _ | 15, _ | 16, _ => exact ⟨_, rfl, by decide +kernel, by decide +kernel, by decide +kernel, rfl⟩
  | n + 17, h => omega
section
variable {Φ : Nat → List W → Sto → Res W} {G : List D} {σ : Ev} {st : Sto}
theorem k_asg (i : Nat) (e : E) {d : D} {st2 : Sto} (h : ev Φ G e σ st = .ok (.d d) st2) : ex Φ G (.asg i e false) σ st = .ok (.nx (σ.set i (some (.d d)))) st2 := by
  rw [ex, h]; rfl
theorem k_cons (s : S) (r : Ss) {σ1 : Ev} {st1 : Sto} (h : ex Φ G s σ st = .ok (.nx σ1) st1) : exs Φ G (.cons s r) σ st = exs Φ G r σ1 st1 := by
  rw [exs, h]; rfl
theorem k_lst {es : Es} {xs : List D} (h : evD Φ G es σ st = .ok xs st) : ev Φ G (.lst es) σ st = .ok (.d (.list xs)) st := by rw [ev, h]; rfl
theorem k_add {i : Nat} {es : Es} {xs ys : List D} (hi : σ[i]? = some (some (.d (.list xs)))) (h : evD Φ G es σ st = .ok ys st) (hl : xs.length + ys.length ≤ LIM) : ev Φ G (.bin .Add (.var i) (.lst es)) σ st = .ok (.d (.list (xs ++ ys))) st := by
  rw [ev, ev, hi]
  simp only [Res.bind_ok, k_lst h, peek_d, Option.bind_some, binD, addD, if_pos hl, Option.map_some, ofO_some]
end
/-- the marks and the words do not lean on the store -/
theorem kind_ev {Φ : Nat → List W → Sto → Res W} (v : Bool) (a b : Nat) (x : Str) (hx : KWORDS[b]? = some x) (st : Sto) : exs Φ (hotG a b) (kindS v) [some (.e a), none, none] st = .ok (.rt (.d (.str x))) st := by
  have hlt : b < 17 := (List.getElem?_eq_some_iff.mp hx).1
  obtain ⟨x', e0, e1, e2, e3, e4⟩ := kind_ok b hlt
  rw [hx] at e0
  cases e0
  have M : ∀ l : List Nat, marksOf b l = l.map fun n : Nat => PyData.bool (decide ((b : Int) = (n : Int))) := fun _ => rfl
  have rg : marksOf b (List.range 19) = (((marksOf b [0, 1, 2, 3] ++ marksOf b [4, 5, 6, 7]) ++ marksOf b [8, 9, 10, 11]) ++ marksOf b [12, 13, 14, 15]) ++ marksOf b [16, 17, 18] := rfl
  show exs Φ _ (.cons _ (.cons _ (.cons _ (.cons _ (.cons _ (.cons _ (.cons _ _))))))) _ _ = _
  rw [k_cons _ _ (k_asg 1 _ (k_lst (evD_esI [0, 1, 2, 3] (by decide) rfl)))]
  rw [k_cons _ _ (k_asg 1 _ (k_add (xs := marksOf b [0, 1, 2, 3]) rfl (evD_esI [4, 5, 6, 7] (by decide) rfl) (by show (4 + 4 : Nat) ≤ LIM; decide)))]
  rw [k_cons _ _ (k_asg 1 _ (k_add (xs := marksOf b [0, 1, 2, 3] ++ marksOf b [4, 5, 6, 7]) rfl (evD_esI [8, 9, 10, 11] (by decide) rfl) (by show (8 + 4 : Nat) ≤ LIM; decide)))]
  rw [k_cons _ _ (k_asg 1 _ (k_add (xs := (marksOf b [0, 1, 2, 3] ++ marksOf b [4, 5, 6, 7]) ++ marksOf b [8, 9, 10, 11]) rfl (evD_esI [12, 13, 14, 15] (by decide) rfl) (by show (12 + 4 : Nat) ≤ LIM; decide)))]
  rw [k_cons _ _ (k_asg 1 _ (k_add (xs := ((marksOf b [0, 1, 2, 3] ++ marksOf b [4, 5, 6, 7]) ++ marksOf b [8, 9, 10, 11]) ++ marksOf b [12, 13, 14, 15]) rfl (evD_esI [16, 17, 18] (by decide) rfl) (by show (16 + 3 : Nat) ≤ LIM; decide)))]
  change exs Φ _ (.cons _ (.cons _ _)) [some (W.e a), some (.d (.list ((((marksOf b [0, 1, 2, 3] ++ marksOf b [4, 5, 6, 7]) ++ marksOf b [8, 9, 10, 11]) ++ marksOf b [12, 13, 14, 15]) ++ marksOf b [16, 17, 18]))), none] st = _
  rw [← rg]
  generalize marksOf b (List.range 19) = L at e1 e2 e3
  have hσ : ([some (W.e a), some (.d (.list L)), none] : Ev)[1]? = some (some (.d (.list L))) := rfl
  have hc : ev Φ (hotG a b) (.or (.not (.isE 0 99)) (.cmp .NotEq (.me .count (.var 1) (.cons (.cn (.bool true)) .nil)) (.cn (.int 1)))) [some (W.e a), some (.d (.list L)), none] st = .ok (.d (.bool false)) st := by
    have h1 : ev Φ (hotG a b) (.not (.isE 0 99)) [some (W.e a), some (.d (.list L)), none] st = .ok (.d (.bool false)) st := by
      rw [ev, ev_isE rfl]
      simp [truthW, truthD]
    have h2 : ev Φ (hotG a b) (.me .count (.var 1) (.cons (.cn (.bool true)) .nil)) [some (W.e a), some (.d (.list L)), none] st = .ok (.d (.int 1)) st := by
      rw [ev, ev, hσ]
      simp only [Res.bind_ok, peek_d, Option.bind_some, meTy, ofO_some]
      simp only [evs, ev, Res.bind_ok]
      simp [meD, e1, e2]
    rw [ev, h1]
    simp only [Res.bind_ok]
    rw [ev, h2]
    simp only [Res.bind_ok, ev, peek_d, Option.bind_some, cmpD]
    have s1 : shapedB (.int 1) = true := by decide +kernel
    simp [s1, PyData.eqv]
  have hi : ∀ {σ : Ev}, σ[1]? = some (some (.d (.list L))) → ev Φ (hotG a b) ixT σ st = .ok (.d (.int b)) st := fun {σ} h => by
    show ev Φ _ (.me .index (.var 1) (.cons (.cn (.bool true)) .nil)) σ st = _
    rw [ev, ev, h]
    simp only [Res.bind_ok, peek_d, Option.bind_some, meTy, ofO_some]
    simp only [evs, ev, Res.bind_ok]
    have s2 : shapedB (.bool true) = true := by decide +kernel
    simp [meD, e1, e3, s2]
  have h6 : ex Φ (hotG a b) (.ife (.or (.not (.isE 0 99)) (.cmp .NotEq (.me .count (.var 1) (.cons (.cn (.bool true)) .nil)) (.cn (.int 1)))) (.cons (.ret (.cn (.str "other"))) .nil) .nil) [some (W.e a), some (.d (.list L)), none] st = .ok (.nx [some (W.e a), some (.d (.list L)), none]) st := by
    rw [ex, evT, hc]
    simp [truthW, truthD, exs]
  have lookup : ∀ ys : List D, ys[b]? = some (.str x) → getD (.list ys) (.int b) = some (.str x) := fun ys h => by
    have hb2 : b < ys.length := (List.getElem?_eq_some_iff.mp h).1
    have : placeOf ys.length (b : Int) = some b := by
      unfold placeOf
      rw [if_pos (by omega), if_pos (by omega)]
      rfl
    simp [getD, this, h]
  have step : ∀ (r : Ss) (l : List D), exs Φ (hotG a b) (.cons (.ife (.or (.not (.isE 0 99)) (.cmp .NotEq (.me .count (.var 1) (.cons (.cn (.bool true)) .nil)) (.cn (.int 1)))) (.cons (.ret (.cn (.str "other"))) .nil) .nil) (.cons (.asg 2 (.lst (esS (KWORDS.take 11))) false) r)) [some (W.e a), some (.d (.list L)), none] st =
      exs Φ (hotG a b) r [some (W.e a), some (.d (.list L)), some (.d (.list ((KWORDS.take 11).map .str)))] st := fun r l => by
    rw [k_cons _ _ h6, k_cons _ _ (k_asg 2 _ (k_lst (evD_esS _)))]
    rfl
  have fin : ∀ (e : E) (ys : List D) (σ : Ev), ev Φ (hotG a b) e σ st = .ok (.d (.list ys)) st → σ[1]? = some (some (.d (.list L))) → ys[b]? = some (.str x) → exs Φ (hotG a b) (.cons (.ret (.idx e ixT)) .nil) σ st = .ok (.rt (.d (.str x))) st := fun e ys σ h1 h2 h3 => by
    rw [exs, ex, ev, h1]
    simp only [Res.bind_ok]
    rw [hi h2]
    simp [lookup ys h3]
  refine (step _ []).trans ?_
  cases v with
  | true =>
    exact fin _ _ _ (k_add (xs := (KWORDS.take 11).map .str) rfl (evD_esS _) (by decide)) rfl e4
  | false =>
    show exs Φ _ (.cons (.asg 2 (.bin .Add (.var 2) (.lst (esS W2))) false) (.cons (.ret (.idx (.var 2) ixT)) .nil)) _ _ = _
    rw [k_cons _ _ (k_asg 2 _ (k_add (xs := (KWORDS.take 11).map .str) rfl (evD_esS _) (by decide)))]
    refine fin (.var 2) _ _ ?_ rfl e4
    rw [ev]
    rfl
/-! ### the def that says which refusal it is -/
section
variable {P : Program} {w : World} {K : PySem.W.Frag} {mg : Str → Option Value} {base : Heap}
/-- a def is run where an exception is handled -/
theorem run_hot {CX : CXT} {k : Nat} {f : Addr} {fd : FuncData} {x qual : Str} {params : Arguments} {body : List Stmt} {scope : Scope} {N ps : List Str} (D : FunD K x qual params body scope [] [] f fd) (S : FnScope N ps scope)
    {A : Around} {outer : List Env} {s : Shared} {H : Hp} {us : List Value} {vs : List V} {Q : VK} {E : XK} {p : Addr × Obj} (room : RoomH (k + 1) A) (pin : PinOk outer H s p) (env : Env0 P w K mg base A outer s H) (bind : BindsTo s fd ⟨us, []⟩ (ps.zip us)) (vals : Vals vs us) (len : vs.length = ps.length)
    (walk : ∀ (cd : Value), ∃ t, PSs (cxH CX P w K mg base N qual scope f cd A outer s H E p) body t ∧ t { nx := fun _ H' => Q .non H', rt := Q } (L2.start N vs) H) : codeAny (model P w) A (.call (.ref f) ⟨us, []⟩) (CR CX outer P w H s Q E) s := by
  obtain ⟨oc, od, d1, d2, doc, pm, an, cd, ct, osl, rfl, at_, code, _, _⟩ := D.ex
  obtain ⟨t, W, start⟩ := walk cd
  have here : K.In s.heap := env.mod.kin.keeps fun b o e => (env.bs b o e).1
  have free : s.heap.NoLimit := env.mod.nolimit.keeps fun b o e => (env.bs b o e).1
  have kinds : ∀ y ∈ ps.zip us, scope.names.lookup y.1 = some .local ∨ (scope.names.lookup y.1 = some .cell ∧ ((cellsFrom (s.heap.objs.size + 1) scope.names []).lookup y.1).isSome = true) := by
    rintro ⟨n, v⟩ hy
    exact (S.par n (List.of_mem_zip hy).1).imp id fun z => ⟨z, PySem.W.cellsFrom_some _ _ _ (.inl z)⟩
  refine codeAny_call_function room.depth (here _ _ at_) rfl S.co S.gen rfl (PySem.W.codeRec_of here code) (bind _ _ _ _ (wpAny_newFunctionEnv_cells S.kind kinds fun env1 e1 s1 x => ?_))
  subst e1
  refine ⟨free.keeps x.toInCall.keep, codeAny_func (wpAny_mono (W.run [] s1 _ H _ (inv_startH (CX := CX) (E := E) S pin env len vals x) start) (fun fl s2 end_ => ?_) fun _ _ z => z)⟩
  match fl, end_ with
  | .ret u, ⟨v, σ2, H2, J, rv, q⟩ => exact ⟨v, H2, J.os, J.bare, J.base, J.hok, rv, q⟩
  | .next, ⟨σ2, H2, J, q⟩ => exact ⟨.non, H2, J.os, J.bare, J.base, J.hok, rfl, q⟩
  | .brk, ⟨_, _, _, q⟩ => exact q.elim
  | .cont, ⟨_, _, _, q⟩ => exact q.elim
/-- the text's def of that name -/
structure KindT (K : PySem.W.Frag) (mg : Str → Option Value) : Prop where
  ex : ∃ (v : Bool) (params : Arguments) (body : List Stmt) (scope : Scope) (N ps : List Str) (f : Addr) (fd : FuncData), FunD K "_law_kind" "_law_kind" params body scope [] [] f fd ∧ mg "_law_kind" = some (.ref f) ∧ (∀ (s : Shared) (us : List Value), us.length = ps.length → BindsTo s fd ⟨us, []⟩ (ps.zip us)) ∧
    FnScope N ps scope ∧ ps.length = 1 ∧ N.length = 3 ∧ matchSs (hotC N) (kindS v) scope body = true
theorem kind_run (T : KindT K mg) {cl : Nat → Option Addr} {PE : Addr} (cs : ClsOk K mg cl PE) (blt : ∀ x ∈ bNames, mg x = none) : ∃ f, mg "_law_kind" = some (.ref f) ∧ PySem.W.keepIn K (.ref f) = true ∧
    ∀ {b : Nat} {C : Addr} {x : Str}, cl b = some C → KWORDS[b]? = some x → ∀ {A : Around} {outer : List Env} {s : Shared} {H : Hp} {a : Addr} {oe : Obj} {R : Addr → Prop} {st : Sto} {as : As} {Q : VK}, RoomH 1 A → A.guards = some [] → Hot1 A (a, oe) → PinOk outer H s (a, oe) → Env0 P w K mg base A outer s H → Zc (.ref C) none oe → (∃ vs, oe.data = .fields vs) →
      Wld K H R st as → (∀ H' as', Post K R H st as st H' as' → Q (.str x) H') → codeAny (model P w) A (.call (.ref f) ⟨[.ref a], []⟩) (CR CX0 outer P w H s Q E0) s := by
  obtain ⟨v, params, body, scope, N, ps, f, fd, F, hm, hb, S, h1, h3, mt⟩ := T.ex
  refine ⟨f, hm, F.kp, fun {b C x} hcl hx {A outer s H a oe R st as Q} room gd hot pin env hz hf hw q => ?_⟩
  refine run_hot F S (k := 0) room pin env (hb s [.ref a] h1.symm) (.cons rfl .nil : Vals [V.ref a] [.ref a]) h1.symm fun cd => ?_
  obtain ⟨k1, k2, k3⟩ := cs.own b C hcl
  have hu := (room.deeper (envOfC "_law_kind" scope s.heap.objs.size f cd)).un
  have hG : ∀ (a' b' : Int) xs, (hotG a b)[50]? = some (.tuple (.int a' :: .int b' :: xs)) → a' = a ∧ b' = b := fun a' b' xs e => by
    have e2 : some (PyData.tuple [.int a, .int b]) = some (.tuple (.int a' :: .int b' :: xs)) := e
    cases e2
    exact ⟨rfl, rfl⟩
  refine ⟨tSs K ⟨fun _ _ _ _ => False, fun _ => none⟩ (fun _ _ _ => .bad) (hotG a b) (kindS v), sndSs (kindS v) (c := hotC N) ⟨⟨fun q => Bool.noConfusion (show true = false from q), rfl, S.nd, ?_, gd, blt, fun _ _ q => (by cases q), fun a' b' xs _ e => ?_, fun _ => cs.ve, fun _ q => (by cases q), fun _ _ q => (by cases q)⟩, fun q => Bool.noConfusion (show true = false from q), fun _ _ q => (by cases q), fun q => Bool.noConfusion (show true = false from q), S.kind, fun _ _ => rfl, fun q => Bool.noConfusion (show true = false from q)⟩ body mt, ?_⟩
  · show (A.deeper _).units + 200 < cLine
    omega
  · obtain ⟨rfl, rfl⟩ := hG a' b' xs e
    refine ⟨C, oe, ?_, hz, hf, k1, fun n y hy => ?_, k2⟩
    · show (a, oe) ∈ [(a, oe)]
      exact List.mem_cons_self ..
    · obtain ⟨Tc, t1, t2⟩ := cs.is n y hy
      exact ⟨Tc, t1, t2 b C hcl⟩
  · have hl := start_loc (K := K) (H := H) (as := as) (Z := Zof st as R) (ws := [.e a]) (vs := [V.ref a]) ⟨rfl, trivial⟩ N
    rw [h3] at hl
    refine ⟨R, _, st, as, hl, hw, ?_⟩
    show (exs _ _ _ [some (.e a), none, none] st).wp _
    rw [kind_ev v a b x hx st]
    exact fun v H' as' po r => by
      obtain rfl := relW_str r
      exact q H' as' po
end
/-! ### the def that tells what a lambda says -/
def oneS (x : Str) : S := .ife (.cmp .Eq (.var 3) (.cn (.str x))) (.cons .nvr .nil) .nil
def saidS : Ss := .cons (oneS "one") (.cons (oneS "many") (.cons (.ret (.tup (.cons (.var 3) .nil))) .nil))
def saidB (N : List Str) (sc : Scope) (body : List Stmt) : Bool := match body with
  | [.Try [.Assign [.Name fnd _] (.Call (.Name cal _) [] [] _) _] [.ExceptHandler (some (.Name pe _)) (some en) (.Assign [.Name wd _] (.Call (.Name kn _) [.Name en2 _] [] _) _ :: suite) _] [] [] _, .Return (some (.Tuple [.Constant (.str t) _ _, .Name fnd2 _] _ _)) _] =>
    decide (N = [cal, fnd, en, wd]) && decide (fnd2 = fnd) && decide (en2 = en) && decide (pe = "PairError") && decide (kn = "_law_kind") && decide (t = "told") && visB sc cal && plainN cal && locB sc fnd && plainN fnd && locB sc en && plainN en && locB sc wd && glB sc pe && glB sc kn && matchSs (hotC N) saidS sc suite
  | _ => false
theorem said_ev {Φ : Nat → List W → Sto → Res W} {G : List D} (x : Str) (hx : x ∈ KWORDS) (st : Sto) : exs Φ G saidS [none, none, none, some (.d (.str x))] st = .ok (.rt (.d (.tuple [.str x]))) st := by
  have hn : ∀ x ∈ KWORDS, shapedB (.str x) = true ∧ PyData.eqv (.str x) (.str "one") = false ∧ PyData.eqv (.str x) (.str "many") = false := by decide +kernel
  obtain ⟨h1, h2, h3⟩ := hn x hx
  have s1 : shapedB (.str "one") = true := by decide +kernel
  have s2 : shapedB (.str "many") = true := by decide +kernel
  simp [saidS, oneS, exs, ex, evT, ev, evD, val, truthW, truthD, cmpD, h1, h2, h3, s1, s2]
section
variable {P : Program} {w : World} {K : PySem.W.Frag} {mg : Str → Option Value} {base : Heap}
structure SaidT (K : PySem.W.Frag) (mg : Str → Option Value) : Prop where
  ex : ∃ (params : Arguments) (body : List Stmt) (scope : Scope) (N ps : List Str) (f : Addr) (fd : FuncData), FunD K "_law_said" "_law_said" params body scope [] [] f fd ∧ mg "_law_said" = some (.ref f) ∧ (∀ (s : Shared) (us : List Value), us.length = ps.length → BindsTo s fd ⟨us, []⟩ (ps.zip us)) ∧
    FnScope N ps scope ∧ ps.length = 1 ∧ saidB N scope body = true
theorem frs_off {h : Heap} {e : Env} {x : Addr} {outer : List Env} (he : e.frame = some x) : frs (e :: outer) = x :: frs outer := by
  unfold frs
  rw [List.filterMap_cons, he]
/-- what stays in a callee's frame stays in the caller's -/
theorem Un.nest {fs : List Addr} {x : Addr} {H : Hp} {h h1 h2 : Heap} (a : Un fs [] H H h h1) (b : Un (x :: fs) [] H H h1 h2) (hx : h.get? x = none) : Un fs [] H H h h2 := by
  have ne : ∀ {b : Addr} {o : Obj}, h.get? b = some o → b ≠ x := fun {b o} e z => by rw [z, hx] at e; cases e
  refine ⟨fun y o e n hf hx2 => ?_, fun y o e n hf hx2 => ?_, fun y o e n _ => n, fun y o e hx2 => ?_, fun y xs e => e, fun y o u e => e, fun y ps e => ⟨#[], by simpa using e⟩⟩
  · exact b.keep y o (a.keep y o e n hf hx2) n (fun m => (List.mem_cons.mp m).elim (ne e) hf) hx2
  · obtain ⟨sl, e1⟩ := a.slot y o e n hf hx2
    obtain ⟨sl2, e2⟩ := b.slot y _ e1 n (List.mem_cons_of_mem _ hf) hx2
    exact ⟨sl2, e2⟩
  · obtain ⟨o', e1⟩ := a.there y o e hx2
    exact b.there y o' e1 hx2
/-- what is wished of the lambda's call -/
def teL (f : Addr) (H : Hp) (T : VK → XK → Prop) (W : WX) : TE := fun σ H' Q => σ[0]? = some (some (.ref f)) ∧ H' = H ∧ ∃ Q' E', T Q' E' ∧ (∀ cls d H2, E' cls d H2 → W cls d σ H2) ∧ ∀ v H2, Q' v H2 → Q v H2
theorem pe_lam {X : Cx} {k : Nat} {fs : List Addr} {s0 : Shared} {H : Hp} {f : Addr} {T : VK → XK → Prop} {W : WX} (lam : LamAt X.prog X.w X.K X.mg X.base k fs s0 H f T) (tk : L2N.Takes X W) (room : Room k X.A) (gd : X.A.guards = some [])
    (un : ∀ pins σ s, Inv X pins σ H s → Un fs [] H H s0.heap s.heap) {x : Str} {p pos : Pos} (hN : X.N[0]? = some x) (hv : Vis X.env.scope x) (hd : plainN x = true) : PE X (.Call (.Name x p) [] [] pos) (teL f H T W) := by
  refine ⟨fun pins s σ H1 Q I ⟨h0, hH, Q', E', hT, hW, hQ⟩ => ?_⟩
  subst hH
  refine wpAny_Call_Name_kw (thn ((pe_var (i := 0) hN hv (plain1 hd).1 (plain1 hd).2).run pins s σ H1 (fun v H2 => v = .ref f ∧ H2 = H1) I ⟨.ref f, h0, rfl, rfl⟩) fun u s1 ⟨v, H2, I2, r2, q2, q3⟩ => ?_)
  subst q2 q3
  obtain rfl : u = Value.ref f := r2
  have un1 := un _ _ _ I2
  refine PySem.W.callWith_F0 (lam.fn s1 un1) ?_
  refine wpAny_call (codeAny_mono (lam.run X.A X.stack s1 Q' E' room gd I2.env0 un1 hT) fun res s2 hq => ?_)
  match res, hq with
  | .ok (.ret u), ⟨v, H3, os, bare, un3, hok, rv, q⟩ => exact I2.after ⟨v, H3, os, bare, un3, hok, rv, hQ v H3 q⟩
  | .ok .next, hq => exact False.elim hq
  | .ok .brk, hq => exact False.elim hq
  | .ok .cont, hq => exact False.elim hq
  | .error e, hq => exact tk e s2 (L2N.XE.of_call I2 (fun cls d H2 z => hW cls d H2 z) hq)
/-- what is wished of the suite -/
def tsL (K : PySem.W.Frag) (cl : Nat → Option Addr) (a : Addr) (cls : Value) (d : Option Addr) : TS := fun D σ H => σ[2]? = some (some (.ref a)) ∧ σ.length = 4 ∧ ∃ b C x, cl b = some C ∧ KWORDS[b]? = some x ∧ cls = .ref C ∧ d = none ∧ ∃ R st as, Wld K H R st as ∧ ∀ v H' as', Post K R H st as st H' as' → Rel K H' (Zof st as' R) (.tuple [.str x]) v → D.rt v H'
theorem pe_kind {X : Cx} {cl : Nat → Option Addr} {a : Addr} {oe : Obj} {cls : Value} {d : Option Addr} {pn : List (Addr × Obj)} {kf : Addr} (hk : PySem.W.keepIn X.K (.ref kf) = true) (hm : X.mg "_law_kind" = some (.ref kf))
    (krun : ∀ {b : Nat} {C : Addr} {x : Str}, cl b = some C → KWORDS[b]? = some x → ∀ {A : Around} {outer : List Env} {s : Shared} {H : Hp} {a : Addr} {oe : Obj} {R : Addr → Prop} {st : Sto} {as : As} {Q : VK}, RoomH 1 A → A.guards = some [] → Hot1 A (a, oe) → PinOk outer H s (a, oe) → Env0 X.prog X.w X.K X.mg X.base A outer s H → Zc (.ref C) none oe → (∃ vs, oe.data = .fields vs) →
      Wld X.K H R st as → (∀ H' as', Post X.K R H st as st H' as' → Q (.str x) H') → codeAny (model X.prog X.w) A (.call (.ref kf) ⟨[.ref a], []⟩) (CR CX0 outer X.prog X.w H s Q E0) s)
    (room : RoomH 1 X.A) (gd : X.A.guards = some []) (hz : L2N.Zn cls d oe) (hf : ∃ vs, oe.data = .fields vs) {y : Str} {p p2 pos : Pos} (hg : Gl X "_law_kind") (hN : X.N[2]? = some y) (hv : Vis X.env.scope y) (hd : plainN y = true) :
    PE (X.suite a ((a, oe) :: pn)) (.Call (.Name "_law_kind" p) [.Name y p2] [] pos) (fun σ H Q => σ[2]? = some (some (.ref a)) ∧ ∃ b C x, cl b = some C ∧ KWORDS[b]? = some x ∧ cls = .ref C ∧ d = none ∧ ∃ R st as, Wld X.K H R st as ∧ ∀ H' as', Post X.K R H st as st H' as' → Q (.str x) H') := by
  have pv : PE (X.suite a ((a, oe) :: pn)) (.Name y p2) (tVar 2) := pe_var hN hv (plain1 hd).1 (plain1 hd).2
  refine ⟨fun pins s σ H Q I ⟨h2, b, C, x, hcl, hx, ec, ed, R, st, as, hw, q⟩ => ?_⟩
  subst ec ed
  refine wpAny_Call_Name_kw (ld_glob I hg hm ?_ (by decide))
  refine PySem.W.callWith_K (h₀ := X.base) I.ok.mod.kin hk (thn ((pa_cons pv pa_nil rfl).run pos pins s σ H (fun vs H1 => vs = [.ref a] ∧ H1 = H) I ⟨_, h2, rfl, rfl⟩) fun us s1 ⟨vs, H1, I1, r, q1, q2⟩ => ⟨I1.kIn, ?_⟩) rfl rfl
  subst q1 q2
  obtain ⟨u, rfl, r1⟩ := r.one
  obtain rfl : u = Value.ref a := r1
  obtain ⟨vs, hvs⟩ := hf
  have P1 := I1.pin (a, oe) (List.mem_append_left _ (List.mem_cons_self ..))
  have pin : PinOk (X.suite a ((a, oe) :: pn)).stack H1 s1 (a, oe) := ⟨P1.1, P1.2.1, fun m => (List.mem_cons.mp (I1.stkSub a m)).elim P1.2.2.1 P1.2.2.2.1, P1.2.2.2.2⟩
  refine wpAny_call (codeAny_mono (krun hcl hx ⟨room.dp, room.un⟩ gd ⟨rfl, vs, hvs, hz.2.2 vs hvs⟩ pin I1.env0 hz.zc ⟨vs, hvs⟩ hw q) fun res s2 hq => ?_)
  match res, hq with
  | .ok (.ret u), hq => exact I1.after hq
  | .ok .next, hq => exact False.elim hq
  | .ok .brk, hq => exact False.elim hq
  | .ok .cont, hq => exact False.elim hq
  | .error e, hq => exact False.elim hq
/-- the suite: the word of the refusal -/
theorem suite_ok {X : Cx} {cl : Nat → Option Addr} {N : List Str} {a : Addr} {oe : Obj} {cls : Value} {d : Option Addr} {pn : List (Addr × Obj)} {suite : List Stmt} {wd : Str} {p pos : Pos} {v : Expr} (eN : X.N = N) (nd : X.N.Nodup) (h3 : X.N[3]? = some wd) (blt : ∀ x ∈ bNames, X.mg x = none) (ve : X.mg "ValueError" = none)
    (hu : X.A.units + 200 < cLine) (gd : X.A.guards = some []) (kind : X.env.scope.kind = .function) (fn : ∀ x, X.fn x = true) (hw : L2.Loc X.env.scope wd) (hs : swapsWith v (some (.Name wd p)) pos.line X.env = pure false)
    (pk : PE (X.suite a ((a, oe) :: pn)) v (fun σ H Q => σ[2]? = some (some (.ref a)) ∧ ∃ b C x, cl b = some C ∧ KWORDS[b]? = some x ∧ cls = .ref C ∧ d = none ∧ ∃ R st as, Wld X.K H R st as ∧ ∀ H' as', Post X.K R H st as st H' as' → Q (.str x) H'))
    (mt : matchSs (hotC N) saidS X.env.scope suite = true) : PSs (X.suite a ((a, oe) :: pn)) (.Assign [.Name wd p] v pos :: suite) (tsL X.K cl a cls d) := by
  have h1 : PS (X.suite a ((a, oe) :: pn)) (.Assign [.Name wd p] v pos) _ := ps_set (i := 3) nd h3 hw pk hs (.inl (fn wd))
  have h2 := sndSs (X := X.suite a ((a, oe) :: pn)) (Vx := ⟨fun _ _ _ _ => False, fun _ => none⟩) (Φ := fun _ _ _ => .bad) (G := []) saidS (c := hotC N) ⟨⟨fun q => Bool.noConfusion (show true = false from q), eN, nd, hu, gd, blt, fun _ _ q => (by cases q), fun a' b' xs _ e => (by simp at e), fun _ => ve, fun _ q => (by cases q), fun _ _ q => (by cases q)⟩, fun q => Bool.noConfusion (show true = false from q), fun _ _ q => (by cases q), fun q => Bool.noConfusion (show true = false from q), kind, fun x _ => fn x, fun q => Bool.noConfusion (show true = false from q)⟩ suite mt
  refine PSs.imp (pss_cons h1 h2) fun D σ H ⟨e0, len, b, C, x, hcl, hx, ec, ed, R, st, as, hw, q⟩ => ?_
  refine ⟨e0, b, C, x, hcl, hx, ec, ed, R, st, as, hw, fun H' as' po => ?_⟩
  refine ⟨R, [none, none, none, some (.d (.str x))], st, as', ⟨by simp [len], fun i w hi => ?_⟩, po.wld, ?_⟩
  · match i with
    | 0 => simp at hi
    | 1 => simp at hi
    | 2 => simp at hi
    | 3 =>
      simp at hi
      subst hi
      exact ⟨.str x, by rw [List.getElem?_set_self (by omega)], Rel.str x⟩
    | n + 4 => simp at hi
  · rw [said_ev x (List.mem_of_getElem? hx)]
    exact fun v H2 as2 po2 r2 => q v H2 as2 (po.trans po2) r2
theorem said_run (T : SaidT K mg) (TK : KindT K mg) {cl : Nat → Option Addr} {PE : Addr} (cs : ClsOk K mg cl PE) (blt : ∀ x ∈ bNames, mg x = none) : ∃ g, mg "_law_said" = some (.ref g) ∧ PySem.W.keepIn K (.ref g) = true ∧ ∀ k, GiveOk P w K mg base k cl g false := by
  obtain ⟨params, body, scope, N, ps, g, fd, F, hm, hb, S, h1, hB⟩ := T.ex
  obtain ⟨kf, km, kk, krun⟩ := kind_run (P := P) (w := w) (base := base) TK cs blt
  refine ⟨g, hm, F.kp, fun k A outer s H f R st as r Q room gd e0 lam hw hq => ?_⟩
  have room : Room (k + 1 + 1) A := room
  unfold saidB at hB
  split at hB
  · rename_i fnd p1 cal p2 p3 p4 pe p5 en wd p6 kn p7 en2 p8 p9 p10 suite p11 p12 t j p13 fnd2 p14 j2 p15 p16
    simp only [Bool.and_eq_true, decide_eq_true_eq] at hB
    obtain ⟨⟨⟨⟨⟨⟨⟨⟨⟨⟨⟨⟨⟨⟨⟨rfl, rfl⟩, rfl⟩, rfl⟩, rfl⟩, rfl⟩, v1⟩, v2⟩, v3⟩, v4⟩, v5⟩, v6⟩, v7⟩, v8⟩, v9⟩, mt⟩ := hB
    have bnd := hb s [.ref f] h1.symm
    obtain ⟨oc, od, d1, d2, doc, pm, an, cd, ct, osl, rfl, at_, code, _, _⟩ := F.ex
    refine LamX.run_ofS (vs := [V.ref f]) at_ code S room e0 bnd (.cons rfl .nil) h1.symm fun room' => ?_
    have hu : (A.deeper (envOfC "_law_said" scope s.heap.objs.size g cd)).units + 200 < cLine := by have := room'.un; omega
    have hL : ∀ {x : Str}, locB scope x = true → scope.names.lookup x = some .local := fun h => locB_of h
    refine ⟨_, pss_cons (L2N.ps_try_as (X := cxOf CX0 P w K mg base [cal, fnd2, en2, wd] "_law_said" scope g cd A outer s H E0) (i := 2) (c := .ref PE) (Wout := fun _ _ _ _ => False) (tb := fun W => tAsg (teL f H (ansR K cl R H st as r) W) (gName 1)) (ts := fun a cls d => tsL K cl a cls d) rfl rfl S.nd rfl (hL v5) ⟨gl_of v8, by decide, .inl cs.pe⟩ ?_ (fun W pn xe tk _ => ?_) (fun a oe cls d pn hz hf => ?_))
      (pss_one (ps_ret (pe_tup (pa_cons pe_str (pa_cons (pe_var (i := 1) rfl (.inl (hL v3)) (plain1 v4).1 (plain1 v4).2) pa_nil) rfl)))), ?_⟩
    · exact fun u s' x => by
        obtain ⟨_, _, _, _, _, _, _, _, _, _, _, _, _, _, _, _, z⟩ := x
        exact z.elim
    · refine pss_one (ps_set (i := 1) S.nd rfl (.inl (hL v3)) (pe_lam (X := (cxOf CX0 P w K mg base [cal, fnd2, en2, wd] "_law_said" scope g cd A outer s H E0).tr pn xe) lam tk room' gd (fun pins σ s1 I => I.base) rfl (vis_of v1) v2) rfl (.inl rfl))
    · exact suite_ok (X := cxOf CX0 P w K mg base [cal, fnd2, en2, wd] "_law_said" scope g cd A outer s H E0) rfl S.nd rfl blt cs.ve hu gd S.kind (fun _ => rfl) (.inl (hL v7)) rfl
        (pe_kind (X := cxOf CX0 P w K mg base [cal, fnd2, en2, wd] "_law_said" scope g cd A outer s H E0) kk km krun (roomH_of (room'.mono (Nat.le_add_left 1 k))) gd hz hf (gl_of v9) rfl (.inl (hL v5)) v6) mt
    · show teL f H _ _ _ _ _
      refine ⟨rfl, rfl, ?_⟩
      cases r with
      | bad => exact hq.elim
      | ok y st' =>
        refine ⟨fun v H2 => ∃ as', Post K R H st as st' H2 as' ∧ RelW K H2 (Zof st' as' R) as' y v, fun _ _ _ => False, fun v H' as' po rl => ⟨as', po, rl⟩, fun _ _ _ z => z.elim, fun v H2 ⟨as', po, rl⟩ => ?_⟩
        obtain ⟨d, st1, p2, po2, r2⟩ := val_of po.wld rl (wp_bind hq)
        refine ⟨v, rfl, by show 2 ≤ sizeLine; decide, fun p hp => ?_⟩
        have po3 := (po.trans po2).trans (Post.alloc (o := .tup [.str "told", v]) po2.wld hp)
        obtain ⟨po4, z⟩ := po3.cut hw (po3.longer hw)
        refine p2 _ _ _ po4 ?_
        have gr := (grows_new (Z := Zof st1 as' R) (o := HO.tup [.str "told", v]) hp).trans (grows_less z)
        exact .tup ⟨upd_same, fun zz => po2.wld.notZ hp (z _ zz)⟩ (.cons (.str _) (.cons (r2.grow gr) .nil))
      | exc c xs st' =>
        have hq2 : (match xs, KWORDS[c]? with
          | [], some x => (Res.ok (W.d (.tuple [.str x])) (st'.take st.length) : Res W)
          | _, _ => .bad).wp _ := hq
        split at hq2
        · rename_i x hx
          refine ⟨fun _ _ => False, fun cls d H2 => ∃ as', Post K R H st as st' H2 as' ∧ ExcR cl c [] cls d H2, fun cls d H' as' po e => ⟨as', po, e⟩, fun cls d H2 ⟨as', po, e⟩ => ?_, fun _ _ z => z.elim⟩
          obtain ⟨C, e1, e2, e3⟩ := e
          have ed : d = none := by
            rcases e3 with e3 | e3
            · exact e3.2
            · exact absurd rfl e3.1
          refine ⟨true, by rw [e2]; exact (cs.own c C e1).2.2, fun _ a na => ⟨rfl, rfl, c, C, x, e1, hx, e2, ed, R, st', as', po.wld, fun v H' as2 po2 r2 => ?_⟩, fun z => by cases z⟩
          obtain ⟨po4, z⟩ := (po.trans po2).cut hw ((po.trans po2).longer hw)
          exact hq2 v H' _ po4 (Rel.grow (grows_less z) r2)
        · exact hq2.elim
  · cases hB
/-! ### .. and its word alone -/
def wordB (N : List Str) (sc : Scope) (body : List Stmt) : Bool := match body with
  | [.Return (some (.Subscript (.Call (.Name sn _) [.Name cal _] [] _) (.Constant (.int i) _ _) _)) _] => decide (N = [cal]) && decide (sn = "_law_said") && decide (i = 0) && visB sc cal && plainN cal && glB sc sn
  | _ => false
structure WordT (K : PySem.W.Frag) (mg : Str → Option Value) : Prop where
  ex : ∃ (params : Arguments) (body : List Stmt) (scope : Scope) (N ps : List Str) (f : Addr) (fd : FuncData), FunD K "_law_word" "_law_word" params body scope [] [] f fd ∧ mg "_law_word" = some (.ref f) ∧ (∀ (s : Shared) (us : List Value), us.length = ps.length → BindsTo s fd ⟨us, []⟩ (ps.zip us)) ∧
    FnScope N ps scope ∧ ps.length = 1 ∧ wordB N scope body = true
theorem LamAt.nest {k : Nat} {fs : List Addr} {x : Addr} {s s1 : Shared} {H : Hp} {f : Addr} {T : VK → XK → Prop} (l : LamAt P w K mg base k fs s H f T) (un : Un fs [] H H s.heap s1.heap) (hx : s.heap.get? x = none) : LamAt P w K mg base k (x :: fs) s1 H f T :=
  ⟨fun s2 u => l.fn s2 (Un.nest un u hx), fun A outer s2 Q E room gd e0 u hT => l.run A outer s2 Q E room gd e0 (Un.nest un u hx) hT⟩
/-- the first of what is told -/
theorem saidR_word {n : Nat} {r : Res W} {P : W → Sto → Prop} (h : (saidR n true r).wp P) : (saidR n false r).wp fun y st => ∃ (x : Str) (ds : List D), y = .d (.tuple (.str x :: ds)) ∧ P (.d (.str x)) st := by
  cases r with
  | bad => exact h
  | ok y st =>
    have h1 : ((val y st).bind fun d st1 => Res.ok (W.d (.str "told")) (st1.take n)).wp P := h
    show ((val y st).bind fun d st1 => Res.ok (W.d (.tuple [.str "told", d])) (st1.take n)).wp _
    cases e : val y st with
    | ok d st1 =>
      rw [e] at h1
      exact ⟨_, _, rfl, h1⟩
    | exc c as st1 => rw [e] at h1; exact h1
    | bad => rw [e] at h1; exact h1
  | exc c xs st =>
    have h1 : (match xs, KWORDS[c]? with
      | [], some x => (Res.ok (W.d (.str x)) (st.take n) : Res W)
      | _, _ => .bad).wp P := h
    show (match xs, KWORDS[c]? with
      | [], some x => (Res.ok (W.d (.tuple [.str x])) (st.take n) : Res W)
      | _, _ => .bad).wp _
    split at h1
    · exact ⟨_, _, rfl, h1⟩
    · exact h1.elim
theorem word_run (T : WordT K mg) {cl : Nat → Option Addr} (hs : ∃ g, mg "_law_said" = some (.ref g) ∧ PySem.W.keepIn K (.ref g) = true ∧ ∀ k, GiveOk P w K mg base k cl g false) : ∃ g, mg "_law_word" = some (.ref g) ∧ PySem.W.keepIn K (.ref g) = true ∧ ∀ k, GiveOk P w K mg base k cl g true := by
  obtain ⟨params, body, scope, N, ps, g, fd, F, hm, hb, S, h1, hB⟩ := T.ex
  obtain ⟨sg, sm, sk, srun⟩ := hs
  refine ⟨g, hm, F.kp, fun k A outer s H f R st as r Q room gd e0 lam hw hq => ?_⟩
  have room : Room (k + 2 + 1) A := room
  unfold wordB at hB
  split at hB
  · rename_i sn p1 cal p2 p3 i j p4 p5 p6
    simp only [Bool.and_eq_true, decide_eq_true_eq] at hB
    obtain ⟨⟨⟨⟨⟨rfl, rfl⟩, rfl⟩, v1⟩, v2⟩, v3⟩ := hB
    have bnd := hb s [.ref f] h1.symm
    obtain ⟨oc, od, d1, d2, doc, pm, an, cd, ct, osl, rfl, at_, code, _, _⟩ := F.ex
    refine LamX.run_ofS (vs := [V.ref f]) at_ code S room e0 bnd (.cons rfl .nil) h1.symm fun room' => ?_
    have hu : (A.deeper (envOfC "_law_word" scope s.heap.objs.size g cd)).units + 65 < cLine := by have := room'.un; omega
    have pv : PE (cxOf CX0 P w K mg base [cal] "_law_word" scope g cd A outer s H E0) (.Name cal p2) (tVar 0) := pe_var (i := 0) rfl (vis_of v1) (plain1 v2).1 (plain1 v2).2
    have pc : PE (cxOf CX0 P w K mg base [cal] "_law_word" scope g cd A outer s H E0) (.Call (.Name "_law_said" p1) [.Name cal p2] [] p3) (fun σ H1 Q1 => σ[0]? = some (some (.ref f)) ∧ H1 = H ∧ (saidR st.length false r).wp fun y st' => ∀ v H' as', Post K R H st as st' H' as' → RelW K H' (Zof st' as' R) as' y v → Q1 v H') := by
      refine ⟨fun pins s1 σ H1 Q1 I ⟨z0, zH, z⟩ => ?_⟩
      subst zH
      refine wpAny_Call_Name_kw (ld_glob I (gl_of v3) sm ?_ (by decide))
      refine PySem.W.callWith_K (h₀ := base) I.ok.mod.kin sk (thn ((pa_cons pv pa_nil rfl).run p3 pins s1 σ H1 (fun vs H2 => vs = [.ref f] ∧ H2 = H1) I ⟨_, z0, rfl, rfl⟩) fun us s2 ⟨vs, H2, I2, r2, q1, q2⟩ => ⟨I2.kIn, ?_⟩) rfl rfl
      subst q1 q2
      obtain ⟨u, rfl, r1⟩ := r2.one
      obtain rfl : u = Value.ref f := r1
      have fresh : s.heap.get? s.heap.objs.size = none := by
        cases e : s.heap.get? s.heap.objs.size with
        | none => rfl
        | some o => exact absurd (Heap.lt_size e) (Nat.lt_irrefl _)
      have lam2 : LamAt P w K mg base (k + 1) (frs (cxOf CX0 P w K mg base [cal] "_law_word" scope g cd A outer s H2 E0).stack) s2 H2 f (ansR K cl R H2 st as r) := lam.nest I2.base fresh
      refine wpAny_call (codeAny_mono (srun k _ _ s2 H2 f R st as r Q1 room' gd I2.env0 lam2 hw z) fun res s3 hq => ?_)
      match res, hq with
      | .ok (.ret u), hq => exact I2.after hq
      | .ok .next, hq => exact False.elim hq
      | .ok .brk, hq => exact False.elim hq
      | .ok .cont, hq => exact False.elim hq
      | .error e, hq => exact False.elim hq
    refine ⟨_, pss_one (ps_ret (pe_ix (ix_D (X := cxOf CX0 P w K mg base [cal] "_law_word" scope g cd A outer s H E0) hu) pc pe_int (plainIx_of rfl))), ?_⟩
    refine ⟨rfl, rfl, wp_mono (saidR_word hq) fun y st' ⟨x, ds, ey, q⟩ v H' as' po rl => ?_⟩
    subst ey
    refine ⟨R, st', as', .tuple (.str x :: ds), .int 0, .str x, po.wld, .rel rl, .rel (.int 0), ?_, ans_of po q⟩
    have hp : placeOf (PyData.str x :: ds).length 0 = some 0 := by
      unfold placeOf
      rw [if_pos (by omega), if_pos (by simp)]
      rfl
    simp only [getD, hp]
    rfl
  · cases hB
end
end TB
set_option maxRecDepth 100000
/-! TBFn: the functions of a text. -/
namespace TB
open PySem PySem.Spec PyProof.Rows L2
/-- the defs in which lambdas stand; whether words alone are asked -/
structure Lams where
  names : List Str
  wd : Bool
def Lams.me (L : Lams) (x : Str) : Option Str := if L.names.contains x then some x else none
abbrev cxtOf (N : List Str) (names gl exn : Nat → Option Str) (L : Lams) (x : Str) : Cxt := { N := N, fn := names, gl := gl, ex := exn, hot := false, me := L.me x, wd := L.wd }
/-- a function of the text, and mine -/
structure FnT (K : PySem.W.Frag) (mg : Str → Option Value) (names gl exn : Nat → Option Str) (L : Lams) (fn : Fn) (x : Str) : Prop where
  ex : ∃ (params : Arguments) (body : List Stmt) (scope : Scope) (N ps : List Str) (f : Addr) (fd : FuncData), FunD K x x params body scope [] [] f fd ∧ mg x = some (.ref f) ∧ (∀ (s : Shared) (us : List Value), us.length = ps.length → BindsTo s fd ⟨us, []⟩ (ps.zip us)) ∧ FnScope N ps scope ∧ fn.np = ps.length ∧ fn.nn = N.length ∧ matchSs (cxtOf N names gl exn L x) fn.body scope body = true ∧ f = He.fAd K (x, none)
/-- an exception class of the text -/
def ExcT (K : PySem.W.Frag) (mg : Str → Option Value) (cl : Nat → Option Addr) (n : Nat) (x : Str) : Prop := ∃ C, cl n = some C ∧ PySem.W.excIn K C He.veBase "ValueError.__new__" = true ∧ mg x = some (.ref C) ∧ PySem.W.keepIn K (.ref C) = true ∧ PySem.W.subIn K (.ref C) (.type "BaseException") = some true ∧ PySem.W.typeIn K (.ref C) = some (.type "type")
structure Tab (K : PySem.W.Frag) (mg : Str → Option Value) (fs : Tbl) (G : List D) (names gl exn : Nat → Option Str) (cl : Nat → Option Addr) (L : Lams) : Prop where
  fns : ∀ (i : Nat) x, names i = some x → ∃ fn, fs i = some fn ∧ FnT K mg names gl exn L fn x
  blt : ∀ x ∈ bNames, mg x = none
  glob : ∀ (i : Nat) x, gl i = some x → ∃ u, mg x = some u ∧ GlobOk G[i]? u
  excs : ∀ (n : Nat) x, exn n = some x → ExcT K mg cl n x
  lams : ∀ x ∈ L.names, ∃ PE, ClsOk K mg cl PE ∧ KindT K mg ∧ SaidT K mg ∧ (L.wd = true → WordT K mg)
section
variable {P : Program} {w : World} {K : PySem.W.Frag} {mg : Str → Option Value} {fs : Tbl} {G : List D} {names gl exn : Nat → Option Str} {cl : Nat → Option Addr} {L : Lams}
/-- a call of a function, wherever no repr runs -/
def RunsAt (P : Program) (w : World) (K : PySem.W.Frag) (mg : Str → Option Value) (base : Heap) (k : Nat) (f : Addr) (fd : FuncData) (ps : List Str) (cl : Nat → Option Addr) (F : List W → Sto → Res W) : Prop :=
  ∀ (A : Around) (outer : List Env) (s : Shared) (H : Hp) (us : List Value) (vs : List V) (Q : VK) (E : XK), Room (4 * k) A → A.guards = some [] → Env0 P w K mg base A outer s H → (us.length = ps.length → BindsTo s fd ⟨us, []⟩ (ps.zip us)) → Vals vs us → spX K cl F vs H Q E →
    codeAny (model P w) A (.call (.ref f) ⟨us, []⟩) (CR (L2N.CX P w) outer P w H s Q E) s
/-- from a body's walk -/
theorem runs_body {k : Nat} {f : Addr} {fd : FuncData} {x qual : Str} {params : Arguments} {body : List Stmt} {scope : Scope} {N ps : List Str} {base : Heap} {F : List W → Sto → Res W} (D : FunD K x qual params body scope [] [] f fd) (S : FnScope N ps scope)
    (walk : ∀ (cd : Value) (A : Around) (outer : List Env) (s : Shared) (H : Hp) (vs : List V) (Q : VK) (E : XK), (∀ p, f = He.fAd K p → cd = .ref (He.codeOf K p)) → Room (4 * k + 3) (A.deeper (envOfC qual scope s.heap.objs.size f cd)) → (A.deeper (envOfC qual scope s.heap.objs.size f cd)).guards = some [] → spX K cl F vs H Q E →
      vs.length = ps.length ∧ ∃ t, PSs (cxOf (L2N.CX P w) P w K mg base N qual scope f cd A outer s H E) body t ∧ t { nx := fun _ H' => Q .non H', rt := Q } (L2.start N vs) H) : RunsAt P w K mg base (k + 1) f fd ps cl F := by
  obtain ⟨oc, od, d1, d2, doc, pm, an, cd, ct, osl, rfl, at_, code, _, _⟩ := D.ex
  intro A outer s H us vs Q E room calm env bind vals hs
  have room : Room (4 * k + 3 + 1) A := room
  have hcode : ∀ p, f = He.fAd K p → cd = .ref (He.codeOf K p) := fun p e => by
    obtain ⟨c, ec⟩ := He.codeIn_ref code
    subst e
    rw [He.codeOf_eq at_ ec]
    exact ec
  obtain ⟨len, t, W, start⟩ := walk cd A outer s H vs Q E hcode (room.deeper _) calm hs
  have same : us.length = ps.length := by rw [← vals.length]; exact len
  have here : K.In s.heap := env.mod.kin.keeps fun b o e => (env.bs b o e).1
  have free : s.heap.NoLimit := env.mod.nolimit.keeps fun b o e => (env.bs b o e).1
  have kinds : ∀ y ∈ ps.zip us, scope.names.lookup y.1 = some .local ∨ (scope.names.lookup y.1 = some .cell ∧ ((cellsFrom (s.heap.objs.size + 1) scope.names []).lookup y.1).isSome = true) := by
    rintro ⟨n, v⟩ hy
    exact (S.par n (List.of_mem_zip hy).1).imp id fun z => ⟨z, PySem.W.cellsFrom_some _ _ _ (.inl z)⟩
  refine codeAny_call_function room.depth (here _ _ at_) rfl S.co S.gen rfl (PySem.W.codeRec_of here code) (bind same _ _ _ _ (wpAny_newFunctionEnv_cells S.kind kinds fun env1 e1 s1 x => ?_))
  subst e1
  refine ⟨free.keeps x.toInCall.keep, codeAny_func (wpAny_mono (W.run [] s1 _ H _ (inv_start (CX := L2N.CX P w) (E := E) S room.hd env len vals x) start) (fun fl s2 end_ => ?_) fun _ _ z => z)⟩
  match fl, end_ with
  | .ret u, ⟨v, σ2, H2, J, rv, q⟩ => exact ⟨v, H2, J.os, J.bare, J.base, J.hok, rv, q⟩
  | .next, ⟨σ2, H2, J, q⟩ => exact ⟨.non, H2, J.os, J.bare, J.base, J.hok, rfl, q⟩
  | .brk, ⟨_, _, _, q⟩ => exact q.elim
  | .cont, ⟨_, _, _, q⟩ => exact q.elim
theorem all_fns (T : Tab K mg fs G names gl exn cl L) (base : Heap) (TB : ∀ x ∈ L.names, LamX.TabB base mg (He.cT K (x, none)).1 (He.cT K (x, none)).2) : ∀ n : Nat, ∀ (i : Nat) x, names i = some x → ∀ {params : Arguments} {body : List Stmt} {scope : Scope} {N ps : List Str} {f : Addr} {fd : FuncData} {fn : Fn}, fs i = some fn → FunD K x x params body scope [] [] f fd → mg x = some (.ref f) →
    FnScope N ps scope → fn.np = ps.length → fn.nn = N.length → matchSs (cxtOf N names gl exn L x) fn.body scope body = true → f = He.fAd K (x, none) → RunsAt P w K mg base n f fd ps cl (callF fs G n i) := by
  intro n
  induction n with
  | zero =>
    intro i x hx params body scope N ps f fd fn hfn F hm S np nn mt hf A outer s H us vs Q E _ _ _ _ _ h
    obtain ⟨R, ws, st, as, _, _, h⟩ := h
    rw [callF] at h
    exact h.elim
  | succ n ih =>
    intro i x hx params body scope N ps f fd fn hfn F hm S np nn mt hfa
    refine runs_body F S fun cd A outer s H vs Q E hcd hr hg ⟨R, ws, st, as, r, hw, h⟩ => ?_
    rw [callF, hfn] at h
    simp only at h
    have hl : ws.length = fn.np := Classical.byContradiction fun q => by
      rw [if_neg q] at h
      exact h
    rw [if_pos hl] at h
    cases eb : exs (callF fs G n) G fn.body (startE fn.nn ws) st with
    | exc c xs st1 =>
      rw [eb] at h
      exact h.elim
    | bad =>
      rw [eb] at h
      exact h.elim
    | ok fl st1 =>
      rw [eb] at h
      have calls : ∀ (j : Nat) y, names j = some y → ∃ fa, mg y = some (.ref fa) ∧ PySem.W.keepIn K (.ref fa) = true ∧ ∀ A, Room (4 * n) A → A.guards = some [] → CallsX P w K mg base A fa cl (callF fs G n j) := fun j y hy => by
        obtain ⟨fn', hfn', FT⟩ := T.fns j y hy
        obtain ⟨params', body', scope', N', ps', f', fd', F', hm', hb', S', np', nn', mt', hf'⟩ := FT.ex
        exact ⟨f', hm', F'.kp, fun A' hrA hgA outer' s' H' us' vs' Q' E' e0 hv hsp => ih j y hy hfn' F' hm' S' np' nn' mt' hf' A' outer' s' H' us' vs' Q' E' hrA hgA e0 (hb' s' us') hv hsp⟩
      have fns : ∀ (j : Nat) y, names j = some y → ∃ fa, mg y = some (.ref fa) ∧ PySem.W.keepIn K (.ref fa) = true ∧ CallsX P w K mg base (A.deeper (envOfC x scope s.heap.objs.size f cd)) fa cl (callF fs G n j) := fun j y hy => by
        obtain ⟨fa, h1, h2, h3⟩ := calls j y hy
        exact ⟨fa, h1, h2, h3 _ (hr.mono (by omega)) hg⟩
      refine ⟨by rw [← r.length, hl, np], tSs K ⟨fun cls d _ H => E cls d H, cl⟩ (callF fs G n) G fn.body, sndSs fn.body (c := cxtOf N names gl exn L x) ⟨⟨fun _ => rfl, rfl, S.nd, ?_, hg, T.blt, T.glob, fun _ _ _ q _ => Bool.noConfusion (show false = true from q), fun q => Bool.noConfusion (show false = true from q), fun y hy => ?_, fun j y hy => ?_⟩, fun _ => L2N.takes_of rfl rfl rfl rfl, fns, fun _ m y hy => ?_, S.kind, fun _ _ => rfl, fun _ => passes_of rfl⟩ body mt, ?_⟩
      · have := hr.un
        show (A.deeper _).units + 200 < cLine
        omega
      · have hy : L.me x = some y := hy
        unfold Lams.me at hy
        split at hy
        · rename_i hin
          cases hy
          have hin : x ∈ L.names := by simpa using hin
          obtain ⟨PE, cs, k1, k2, k3⟩ := T.lams x hin
          have sr := said_run (P := P) (w := w) (base := base) k2 k1 cs T.blt
          refine ⟨rfl, hcd _ hfa, TB x hin, 4 * n, cl, hr, calls, fun wd hwd => ?_⟩
          cases wd with
          | false =>
            obtain ⟨g, g1, g2, g3⟩ := sr
            exact ⟨g, g1, g2, g3 _⟩
          | true =>
            obtain ⟨g, g1, g2, g3⟩ := word_run (k3 (hwd rfl)) sr
            exact ⟨g, g1, g2, g3 _⟩
        · cases hy
      · obtain ⟨fa, h1, h2, h3⟩ := fns j y hy
        exact ⟨fa, h1, h2, fun outer' s' H' us' vs' Q' e0 hv hsp => codeAny_mono (h3 outer' s' H' us' vs' Q' (fun _ _ _ => False) e0 hv (spX_of hsp)) fun res s2 q => cr_none q⟩
      · obtain ⟨C, h1, h2, h3, h4, h5, h6⟩ := T.excs m y hy
        exact ⟨C, h1, h2, h3, h4, raises_own h5 h6⟩
      · have hloc := start_loc r N
        rw [← nn] at hloc
        refine ⟨R, _, st, as, hloc, hw, ?_⟩
        rw [eb]
        exact body_end hw h
end
end TB
set_option maxRecDepth 100000
/-! TBEnd: a law from what the evaluator says. -/
namespace TB
open PySem PySem.Spec PyProof.Rows L2
/-- what the evaluator has to say of a law; ls: the defs whose lambdas are served -/
def Says (fs : Tbl) (G : List D) (k i n : Nat) (ls : List Str := []) : Prop := ∀ ns : List Int, ns.length ≤ n → ∃ st, callF fs G k i [.d (.list (ns.map .int))] (ls.map .tb) = .ok (.d (.bool true)) st
/-- the table of the code objects of the def x -/
def tabA (K : PySem.W.Frag) (x : Str) : Addr := (He.cT K (x, none)).2
/-- the tables are empty, no two are one -/
structure TabsAt (K : PySem.W.Frag) (ls : List Str) (h : Heap) : Prop where
  hd : ∀ x ∈ ls, PySem.W.codeHdIn K (He.cT K (x, none)).1 (tabA K x) = true
  out : ∀ x ∈ ls, K.lookup (tabA K x) = none
  empty : ∀ x ∈ ls, h.get? (tabA K x) = some { cls := .none, data := .fields #[] }
  nd : (ls.map (tabA K)).Nodup
section
variable {P : Program} {w : World} {K : PySem.W.Frag} {mg mb : Str → Option Value} {k : Nat} {fa a : Addr} {fd : FuncData} {x : Str} {cl : Nat → Option Addr} {F : List W → Sto → Res W} {s₁ : Shared} {vs : List Value} {ns : List Int} {ls : List Str}
/-- the law's own call, out of a heap H in which the script and the tables alone are told of -/
theorem top_core (H : Hp) (kx : K.In s₁.heap) (gn : s₁.heap.Ns mainGlobals mg) (bn : s₁.heap.Ns builtinsNs mb) (bb : ∀ y : Str, y ≠ "__name__" → mb y = bootBuiltins y) (nl : s₁.heap.NoLimit) (g0 : s₁.gens = #[]) (T : TabsAt K ls s₁.heap)
    (bm : ∃ (m : Addr) (ob : Obj), mg "__builtins__" = some (.ref m) ∧ m ≠ builtinsNs ∧ s₁.heap.get? m = some ob ∧ ob.cls = .type "module" ∧ ob.dict = some builtinsNs ∧ ob.data = .plain)
    (sc : s₁.heap.get? a = some { cls := .type "list", data := .seq vs.toArray }) (room : Room (4 * k) callerA) (runs : ∀ base : Heap, (∀ x ∈ ls, LamX.TabB base mg (He.cT K (x, none)).1 (He.cT K (x, none)).2) → RunsAt P w K mg base k fa fd [x] cl F) (bind : ∀ (s : Shared) (u : Value), BindsTo s fd ⟨[u], []⟩ [(x, u)])
    (only : ∀ b, H b = none ∨ (b = a ∧ ∃ o xs, H b = some (.frz o (.lst xs))) ∨ ∃ x ∈ ls, b = tabA K x) (tabs : ∀ x ∈ ls, H (tabA K x) = some (.tbl #[])) (hok : HOk P w H s₁.heap) (off : H a ≠ none → K.lookup a = none) (says : spF K F [.ref a] H fun v _ => v = .bl true) :
    codeAny (model P w) callerA (.call (.ref fa) ⟨[.ref a], []⟩) (fun r s' => r = .ok (.ret (.bool true)) ∧ OldK s₁.heap s'.heap ∧ s'.os = s₁.os ∧ AllBare s'.gens) s₁ := by
  have hid : ∀ {b : Addr} {o : Obj}, s₁.heap.get? b = some o → b ≠ a → (∀ x ∈ ls, b ≠ tabA K x) → (hidT s₁.heap H).get? b = some o := fun {b o} e n nt => hidT_get e ((only b).resolve_right fun z => z.elim (fun z => n z.1) fun ⟨x, hx, z⟩ => nt x hx z)
  have notT : ∀ {b : Addr} {o : Obj}, s₁.heap.get? b = some o → o.data ≠ .fields #[] → ∀ x ∈ ls, b ≠ tabA K x := fun {b o} e n x hx z => by
    rw [z, T.empty x hx] at e
    cases e
    exact n rfl
  have ns_ : ∀ {b : Addr} {m : Str → Option Value}, s₁.heap.Ns b m → (hidT s₁.heap H).Ns b m := by
    rintro b m ⟨o, es, ep, e, d, r⟩
    refine ⟨o, es, ep, hid e (fun z => ?_) (notT e fun z => ?_), d, r⟩
    · subst z
      rw [sc] at e
      cases e
      exact Data.noConfusion d
    · rw [d] at z
      cases z
  have kin : K.In (hidT s₁.heap H) := by
    intro b o e
    rcases only b with z | ⟨z, o', xs, q⟩ | ⟨x, hx, z⟩
    · exact hidT_get (kx b o e) z
    · subst z
      rw [off (by rw [q]; exact fun z => nomatch z)] at e
      cases e
    · rw [z, T.out x hx] at e
      cases e
  have md : Mod K mg (hidT s₁.heap H) := ⟨kin, ns_ gn, ⟨mb, ns_ bn, bb⟩, nl.imp fun _ z => ⟨ns_ z.1, z.2⟩⟩
  have env : Env0 P w K mg (hidT s₁.heap H) callerA [] s₁ H := ⟨rfl, md, fun _ _ e => of_hidT e, Nat.le_of_eq (hidT_size _ _), trivial, fun b hb => absurd (show b ∈ ([] : List Addr) from hb) (by simp), hok, .of_eq g0⟩
  have tabB : ∀ x ∈ ls, LamX.TabB (hidT s₁.heap H) mg (He.cT K (x, none)).1 (He.cT K (x, none)).2 := fun x hx => by
    have gP : mainGlobals ≠ (He.cT K (x, none)).2 := fun z => by
      obtain ⟨o, es, ep, e, d, _⟩ := gn
      exact notT e (by rw [d]; exact fun z => nomatch z) x hx z
    refine NdefX.tabB_of_K kin (T.hd x hx) ?_ gP
    obtain ⟨m, ob, b1, b2, b3, b4, b5, b6⟩ := bm
    have nG : m ≠ mainGlobals := fun z => by
      obtain ⟨o, es, ep, e, d, _⟩ := gn
      rw [z, e] at b3
      cases b3
      rw [d] at b6
      cases b6
    have nT := notT b3 (by rw [b6]; exact fun z => nomatch z)
    refine ⟨m, ob, b1, b2, nG, nT x hx, hid b3 (fun z => ?_) nT, b4, b5, b6⟩
    rw [z, sc] at b3
    cases b3
    cases b6
  refine codeAny_mono (runs _ tabB callerA [] s₁ H [.ref a] [.ref a] _ (fun _ _ _ => False) room rfl env (fun _ => bind s₁ (.ref a)) (.cons rfl .nil) (spX_of says)) fun r s' z => ?_
  match r, z with
  | .error _, ⟨_, _, _, _, _, _, _, _, _, _, _, _, z⟩ => exact z.elim
  | .ok .next, z => exact z.elim
  | .ok .brk, z => exact z.elim
  | .ok .cont, z => exact z.elim
  | .ok (.ret u), ⟨v, H', os, bare, un, hok', ru, q⟩ =>
    have q : v = .bl true := q
    subst q
    obtain rfl : u = Value.bool true := ru
    have key : ∀ b o, (∀ x ∈ ls, b ≠ tabA K x) → s₁.heap.get? b = some o → s'.heap.get? b = some o := fun b o nt e => by
      rcases only b with z | ⟨_, ou, xs, z⟩ | ⟨x, hx, z⟩
      · exact un.keep b o e z (fun m => absurd (show b ∈ ([] : List Addr) from m) (by simp)) (by simp)
      · have e1 := (hok b _ z).1
        rw [e] at e1
        cases e1
        exact (hok' b _ (un.frzs b _ _ z)).1
      · exact absurd z (nt x hx)
    have grown : ∀ x ∈ ls, ∃ more : Array Value, s'.heap.get? (tabA K x) = some { cls := .none, data := .fields more } := fun x hx => by
      obtain ⟨more, z⟩ := un.tbls _ #[] (tabs x hx)
      exact ⟨_, hok' _ _ z⟩
    refine ⟨rfl, ⟨fun b o e => ?_, fun b o e => ?_⟩, os, bare⟩
    · by_cases hb : ∃ x ∈ ls, b = tabA K x
      · obtain ⟨x, hx, rfl⟩ := hb
        obtain ⟨more, hm⟩ := grown x hx
        have e0 := T.empty x hx
        rw [e0] at e
        cases e
        exact .inr (.inl ⟨((PySem.W.codeHd_of_K kx (T.hd x hx)).tab e0).isCodeTable, rfl, #[], more, rfl, by simpa using hm⟩)
      · exact .inl (key b o (fun x hx z => hb ⟨x, hx, z⟩) e)
    · by_cases hb : ∃ x ∈ ls, b = tabA K x
      · obtain ⟨x, hx, rfl⟩ := hb
        obtain ⟨more, hm⟩ := grown x hx
        exact ⟨_, hm⟩
      · exact ⟨o, key b o (fun x hx z => hb ⟨x, hx, z⟩) e⟩
end
/-- the world at the law's call: the tables alone -/
theorem wld_tabs {K : PySem.W.Frag} {H : Hp} {ls : List Str} (nd : (ls.map (tabA K)).Nodup) (tabs : ∀ x ∈ ls, H (tabA K x) = some (.tbl #[])) : Wld K H (fun _ => False) (ls.map .tb) (ls.map fun x => (tabA K x, [])) := by
  have at_ : ∀ {i : Nat} {ob : Ob}, (ls.map Ob.tb)[i]? = some ob → ∃ x, ls[i]? = some x ∧ ob = .tb x := fun {i ob} e => by
    rw [List.getElem?_map, Option.map_eq_some_iff] at e
    obtain ⟨x, h1, h2⟩ := e
    exact ⟨x, h1, h2.symm⟩
  have as_ : ∀ {i : Nat} {a : Addr} {qs : List Addr} {x : Str}, ls[i]? = some x → (ls.map fun x => (tabA K x, ([] : List Addr)))[i]? = some (a, qs) → a = tabA K x ∧ qs = [] := fun {i a qs x} e e2 => by
    rw [List.getElem?_map, e] at e2
    cases e2
    exact ⟨rfl, rfl⟩
  refine ⟨by simp, fun i ob a qs e1 e2 => ?_, fun i j ob ob' a qs a' qs' p e1 e2 l1 l2 f1 f2 p1 p2 => ?_, fun p z => z.elim, fun p o z => z.elim⟩
  · obtain ⟨x, h1, rfl⟩ := at_ e1
    obtain ⟨rfl, rfl⟩ := as_ h1 e2
    refine .tb ⟨rfl, #[], tabs x (List.mem_of_getElem? h1), True.intro, fun pos cv hc => ?_⟩
    have z : codeAmong pos [] = some cv := hc
    simp [codeAmong] at z
  · obtain ⟨x, h1, rfl⟩ := at_ e1
    obtain ⟨y, h2, rfl⟩ := at_ e2
    obtain ⟨rfl, rfl⟩ := as_ h1 f1
    obtain ⟨rfl, rfl⟩ := as_ h2 f2
    have e : tabA K x = tabA K y := by
      rcases p1 with p1 | p1 <;> rcases p2 with p2 | p2
      · exact p1.symm.trans p2
      · cases p2
      · cases p1
      · cases p1
    have i1 : (ls.map (tabA K))[i]? = some (tabA K x) := by rw [List.getElem?_map, h1]; rfl
    have i2 : (ls.map (tabA K))[j]? = some (tabA K x) := by rw [List.getElem?_map, h2, e]; rfl
    have l1 := (List.getElem?_eq_some_iff.mp i1).1
    exact (List.getElem?_inj l1 nd).mp (i1.trans i2.symm)
theorem walk_mine {l : PySem.W.OpenLaw} {n k : Nat} {q : Program} {loose : List Str} {XP : (Str → Option Value) → Heap → Prop} {YP : World → Heap → Prop} {d : DefRec} {ls : List Str}
    (hn : l.most = some n) (hn2 : n ≤ sizeLine) (hdf : d.params.defaults = []) (hr : Room (4 * k) callerA)
    (F : ∀ (w : World) (mg : Str → Option Value) (h : Heap), YP w h → h.Ns mainGlobals mg → ∃ (K : PySem.W.Frag) (fs : Tbl) (G : List D) (names gl exn : Nat → Option Str) (cl : Nat → Option Addr) (wd : Bool) (i : Nat), K.In h ∧ Tab K mg fs G names gl exn cl ⟨ls, wd⟩ ∧ TabsAt K ls h ∧ names i = some d.name ∧ Says fs G k i n ls) :
    PySem.W.WalkO q loose XP YP l.row.toRowW d [] (fun f vs => PySem.call f vs) := by
  refine Att.attach_call hn hdf fun w s₀ s₁ mg mb fa o pm cd doc a vs ns Gd Y ho hd hcd hmg hobj hints hlen hg => ?_
  obtain ⟨K, fs, G, names, gl, exn, cl, wd, i, KX, T, TA, hx, says⟩ := F w mg _ Y Gd.T.g
  obtain ⟨fn, hfn, FT⟩ := T.fns i _ hx
  obtain ⟨params, body, scope, N, ps, f, fd, FD, hm, hb, S, np, nn, mt, hfa⟩ := FT.ex
  have ef : fa = f := by
    have e := hmg.symm.trans hm
    cases e
    rfl
  subst ef
  have one : ps.length = 1 := by
    obtain ⟨st, e⟩ := says [] (Nat.zero_le _)
    cases k with
    | zero => rw [callF] at e; cases e
    | succ k =>
      rw [callF, hfn] at e
      simp only at e
      split at e
      · rename_i hl
        rw [← np, ← hl]
        rfl
      · cases e
  have rv := vals_ints hints
  have lenV := hints.length
  have lim : ns.length ≤ sizeLine := Nat.le_trans hlen hn2
  have aT : ∀ x ∈ ls, a ≠ tabA K x := fun x hx z => by
    rw [z, TA.empty x hx] at hobj
    cases hobj
  match ps, one with
  | [x], _ =>
    have nz : ∀ p, Zof (ls.map Ob.tb) (ls.map fun x => (tabA K x, ([] : List Addr))) (fun _ => False) p → ∃ x ∈ ls, p = tabA K x := fun p z => by
      rcases z with ⟨j, ob, b, qs, e1, _, e2, e3⟩ | z
      · rw [List.getElem?_map, Option.map_eq_some_iff] at e2
        obtain ⟨y, h1, h2⟩ := e2
        cases h2
        rcases e3 with e3 | e3
        · exact ⟨y, List.mem_of_getElem? h1, e3⟩
        · cases e3
      · exact z.elim
    have hsp : ∀ H : Hp, (∀ x ∈ ls, H (tabA K x) = some (.tbl #[])) → StL K H (Zof (ls.map Ob.tb) (ls.map fun x => (tabA K x, [])) fun _ => False) a (ns.map V.int) → spF K (callF fs G k i) [.ref a] H fun v _ => v = .bl true := fun H hT hL => by
      obtain ⟨st, e⟩ := says ns hlen
      refine ⟨fun _ => False, [.d (.list (ns.map .int))], ls.map .tb, ls.map fun x => (tabA K x, []), ⟨.lst hL (RelAll.ofInts ns), True.intro⟩, wld_tabs TA.nd hT, ?_⟩
      rw [e]
      exact fun v H' as' po r => relW_bool r
    have top := fun H => top_core (P := l.prog) (w := w) (ls := ls) H KX Gd.T.g Gd.T.b Gd.T.builtins Gd.T.nolimit hg TA Gd.T.bmain hobj hr (fun base hB => all_fns T base hB k i _ hx hfn FD hm S np nn mt hfa) (fun s u => hb s [u] rfl)
    cases hk : K.lookup a with
    | some o =>
      have e := KX a o hk
      rw [hobj] at e
      cases e
      have at0 : ∀ x ∈ ls, (fun b => if b ∈ ls.map (tabA K) then some (HO.tbl #[]) else none) (tabA K x) = some (.tbl #[]) := fun x hx => if_pos (List.mem_map.mpr ⟨x, hx, rfl⟩)
      have na : a ∉ ls.map (tabA K) := fun z => by
        obtain ⟨x, hx, z⟩ := List.mem_map.mp z
        exact aT x hx z.symm
      refine top (fun b => if b ∈ ls.map (tabA K) then some (HO.tbl #[]) else none) (fun b => ?_) at0 (fun b u z => ?_) (fun z => absurd (if_neg na) z) (hsp _ at0 (.inr ⟨vs.toArray, _, hk, ?_, by simpa using rv⟩))
      · by_cases hb : b ∈ ls.map (tabA K)
        · obtain ⟨x, hx, z⟩ := List.mem_map.mp hb
          exact .inr (.inr ⟨x, hx, z.symm⟩)
        · exact .inl (if_neg hb)
      · have z : (if b ∈ ls.map (tabA K) then some (HO.tbl #[]) else none) = some u := z
        split at z
        · rename_i hb
          cases z
          obtain ⟨x, hx, rfl⟩ := List.mem_map.mp hb
          exact TA.empty x hx
        · cases z
      · rw [List.size_toArray, lenV]
        exact lim
    | none =>
      have na : a ∉ ls.map (tabA K) := fun z => by
        obtain ⟨x, hx, z⟩ := List.mem_map.mp z
        exact aT x hx z.symm
      have at0 : ∀ x ∈ ls, (fun b => if b ∈ ls.map (tabA K) then some (HO.tbl #[]) else if b = a then some (HO.frz { cls := .type "list", data := .seq vs.toArray } (.lst (ns.map V.int))) else none) (tabA K x) = some (.tbl #[]) := fun x hx => if_pos (List.mem_map.mpr ⟨x, hx, rfl⟩)
      refine top (fun b => if b ∈ ls.map (tabA K) then some (HO.tbl #[]) else if b = a then some (HO.frz { cls := .type "list", data := .seq vs.toArray } (.lst (ns.map V.int))) else none) (fun b => ?_) at0 (fun b u z => ?_) (fun _ => hk) (hsp _ at0 (.inl ⟨.inr ⟨_, (if_neg na).trans (if_pos rfl)⟩, fun z => ?_⟩))
      · by_cases hb : b ∈ ls.map (tabA K)
        · obtain ⟨x, hx, z⟩ := List.mem_map.mp hb
          exact .inr (.inr ⟨x, hx, z.symm⟩)
        · by_cases hb2 : b = a
          · exact .inr (.inl ⟨hb2, _, _, (if_neg hb).trans (if_pos hb2)⟩)
          · exact .inl ((if_neg hb).trans (if_neg hb2))
      · have z : (if b ∈ ls.map (tabA K) then some (HO.tbl #[]) else if b = a then some (HO.frz { cls := .type "list", data := .seq vs.toArray } (.lst (ns.map V.int))) else none) = some u := z
        split at z
        · rename_i hb
          cases z
          obtain ⟨x, hx, rfl⟩ := List.mem_map.mp hb
          exact TA.empty x hx
        · split at z
          · rename_i e
            cases z
            subst e
            exact ⟨hobj, by rw [List.length_map]; exact lim, vs, _, rv, hobj⟩
          · cases z
      · obtain ⟨x, hx, e⟩ := nz _ z
        exact aT x hx e
/-! ### the text's facts -/
def psOf (d : He.DefD) : List Str := d.params.args.map (·.arg)
def mkD : Stmt → He.DefD
  | .FunctionDef n a b _ _ _ sc _ _ _ => ⟨(n, none), n, n, a, b, sc, [], []⟩
  | _ => ⟨("", none), "", "", ⟨[], [], none, [], [], none, []⟩, [], ⟨.function, [], false, false, []⟩, [], []⟩
theorem mkD_at (s : Stmt) : (mkD s).at_ = ((mkD s).name, none) ∧ (mkD s).qual = (mkD s).name ∧ (mkD s).dfl = [] ∧ (mkD s).kwd = [] := by
  cases s <;> exact ⟨rfl, rfl, rfl, rfl⟩
/-- whole numbers that are named at the text's top, by their own numbers here -/
def GI : List (Str × Int) := [("MOST_POINT", 9), ("MOST_POINTS", 5), ("MOST_FACES", 60), ("MOST_WAYS", 100), ("MOST_THREES", 10), ("MOST_CORES", 100)]
def GG : List D := GI.map fun p => .int p.2
/-- a text's table: a function's number, mine, its names -/
abbrev Tb := List (Nat × Fn × List Str)
def Tb.fs (tb : Tb) : Tbl := fun i => (tb.lookup i).map (·.1)
def Tb.names (tb : Tb) (ds : List He.DefD) : Nat → Option Str := fun i => ((tb.zip ds).find? fun p => p.1.1 == i).map fun p => p.2.name
def exOf (ep : List Nat) : Nat → Option Str := fun i => if ep.contains i then EXN[i]? else none
def clOf (K : PySem.W.Frag) (ep : List Nat) : Nat → Option Addr := fun i => if ep.contains i then (EXN[i]?).map (He.ga K) else none
def glOf (gp : List Nat) : Nat → Option Str := fun i => if gp.contains i then (GI[i]?).map (·.1) else none
def chkB (nm gl exn : Nat → Option Str) (L : Lams) : List He.DefD → Tb → Bool
  | [], [] => true
  | d :: ds, (_, fn, N) :: tb => C8.scC N (psOf d) d.scope && decide (fn.np = (psOf d).length) && decide (fn.nn = N.length) && matchSs (cxtOf N nm gl exn L d.name) fn.body d.scope d.body && chkB nm gl exn L ds tb
  | _, _ => false
def BindD (d : He.DefD) : Prop := ∀ (kV doc pm : Value) (an : Option Addr) (cdv ct : Value) (us : List Value), us.length = (psOf d).length → bindArgs (PySem.W.fnOf d.name d.qual d.params d.body d.scope .none kV doc pm an cdv ct) ⟨us, []⟩ = pure ((psOf d).zip us)
def BindAll : List He.DefD → Prop
  | [] => True
  | d :: ds => BindD d ∧ BindAll ds
theorem BindAll.get : ∀ {ds : List He.DefD} {i : Nat} {d : He.DefD}, BindAll ds → ds[i]? = some d → BindD d
  | _ :: _, 0, _, h, e => by cases e; exact h.1
  | _ :: ds, i + 1, d, h, e => BindAll.get h.2 (by simpa using e)
  | [], i, d, _, e => by simp at e
theorem find_get {nm gl exn : Nat → Option Str} {L : Lams} {u : Nat} : ∀ {ds : List He.DefD} {tb : Tb} {d : He.DefD}, chkB nm gl exn L ds tb = true → ((tb.zip ds).find? fun p => p.1.1 == u).map (·.2) = some d →
    ∃ (i : Nat) (fn : Fn) (N : List Str), ds[i]? = some d ∧ tb.lookup u = some (fn, N) ∧ FnScope N (psOf d) d.scope ∧ fn.np = (psOf d).length ∧ fn.nn = N.length ∧ matchSs (cxtOf N nm gl exn L d.name) fn.body d.scope d.body = true
  | d :: ds, (v, fn, N) :: tb, d', h, e => by
    simp only [chkB, Bool.and_eq_true, decide_eq_true_eq] at h
    rw [List.zip_cons_cons, List.find?_cons] at e
    by_cases hv : v = u
    · subst hv
      simp only [beq_self_eq_true, Option.map_some, Option.some.injEq] at e
      subst e
      exact ⟨0, fn, N, rfl, by rw [List.lookup_cons]; simp, C8.fnScope_by h.1.1.1.1, h.1.1.1.2, h.1.1.2, h.1.2⟩
    · have hb : (v == u) = false := by simpa using hv
      simp only [hb] at e
      obtain ⟨i, fn', N', h1, h2, h3⟩ := find_get h.2 e
      refine ⟨i + 1, fn', N', by simpa using h1, ?_, h3⟩
      rw [List.lookup_cons]
      have hb' : (u == v) = false := by simpa using fun z : u = v => hv z.symm
      rw [hb']
      exact h2
  | [], tb, d, _, e => by simp at e
  | _ :: _, [], d, _, e => by simp at e
/-- the words' defs: how they are written -/
structure Wds where
  kv : Bool
  nk : List Str
  ns : List Str
  nw : List Str
def kindOk (V : Wds) (d : He.DefD) : Bool := decide (d.name = "_law_kind") && C8.scC V.nk (psOf d) d.scope && decide ((psOf d).length = 1) && decide (V.nk.length = 3) && matchSs (hotC V.nk) (kindS V.kv) d.scope d.body
def saidOk (V : Wds) (d : He.DefD) : Bool := decide (d.name = "_law_said") && C8.scC V.ns (psOf d) d.scope && decide ((psOf d).length = 1) && saidB V.ns d.scope d.body
def wordOk (V : Wds) (d : He.DefD) : Bool := decide (d.name = "_law_word") && C8.scC V.nw (psOf d) d.scope && decide ((psOf d).length = 1) && wordB V.nw d.scope d.body
/-- the words' defs, in the text's order -/
def wdsB (V : Wds) (L : Lams) : List He.DefD → Bool
  | [] => L.names.isEmpty && !L.wd
  | [k, s] => kindOk V k && saidOk V s && !L.wd
  | [k, s, w] => kindOk V k && saidOk V s && wordOk V w
  | _ => false
/-- what is asked of the classes, and of the tables -/
def exc1 (K : PySem.W.Frag) (C : Addr) : Bool := decide (PySem.W.findIn K (.ref C) "__getattribute__" = some (some (.builtin "BaseException.__getattribute__"))) && decide (PySem.W.findIn K (.ref C) "__getattr__" = some none) && decide (PySem.W.subIn K (.ref C) (.type "BaseException") = some true) && PySem.W.hasDictIn K C &&
  decide (PySem.W.findIn K (.ref C) "__class__" = some (some (.builtin "object.__class__"))) && decide (PySem.W.specialIn K (.builtin "object.__class__") "__get__" = some (some (.builtin "getset_descriptor.__get__"))) && decide (PySem.W.takesIn K (.builtin "object.__class__") = some true) && decide (PySem.W.mroIn K C (.type "object") = some true) &&
  decide (PySem.W.kitOne K (.ref C) (.type "ValueError") = some true) && decide (PySem.W.exmOne K (.ref C) (.ref (He.ga K "PairError")) = some true)
def isB1 (K : PySem.W.Frag) (b : Nat) : Bool := (List.range 19).all fun n => decide (PySem.W.kitOne K (.ref (He.ga K (EXN.getD b ""))) (.ref (He.ga K (EXN.getD n ""))) = some (decide ((b : Int) = (n : Int))))
def exB (ep : List Nat) (ls : List Str) (K : PySem.W.Frag) : Bool := ls.isEmpty || (ep.all (fun b => exc1 K (He.ga K (EXN.getD b "")) && isB1 K b) && decide (ls.map (tabA K)).Nodup)
def faOf (names : List Str) (gp ep : List Nat) (ls : List Str) : List He.Fa := (bNames.map .free ++ (names.map .glo ++ ((gp.filterMap fun i => (GI[i]?).map fun p => .int p.1 p.2) ++ ep.flatMap fun i => [.glo (EXN.getD i ""), .exc (EXN.getD i "")]))) ++ if ls.isEmpty then [] else .glo "PairError" :: .free "ValueError" :: EXN.map .glo
theorem exB_at {ep : List Nat} {ls : List Str} {K : PySem.W.Frag} (h : exB ep ls K = true) (hn : ls.isEmpty = false) : (∀ b ∈ ep, exc1 K (He.ga K (EXN.getD b "")) = true ∧ isB1 K b = true) ∧ (ls.map (tabA K)).Nodup := by
  unfold exB at h
  rw [hn, Bool.false_or, Bool.and_eq_true, decide_eq_true_eq] at h
  refine ⟨fun b hb => ?_, h.2⟩
  have := List.all_eq_true.mp h.1 b hb
  rw [Bool.and_eq_true] at this
  exact this
theorem exB_nd {ep : List Nat} {ls : List Str} {K : PySem.W.Frag} (h : exB ep ls K = true) : (ls.map (tabA K)).Nodup := by
  cases hn : ls.isEmpty with
  | true =>
    rw [List.isEmpty_iff.mp hn]
    exact List.nodup_nil
  | false => exact (exB_at h hn).2
section
variable {K : PySem.W.Frag} {w : World} {h : Heap} {mg : Str → Option Value} {sts xts : List Stmt} {tb : Tb} {gp ep : List Nat} {L : Lams} {V : Wds}
abbrev namesOf (sts : List Stmt) : List Str := sts.map fun s => (mkD s).name
/-- a def of the text -/
theorem def_at (X : K.In h) (G : h.Ns mainGlobals mg) (c : He.SaysX (faOf (namesOf (sts ++ xts)) gp ep L.names) ((sts ++ xts).map mkD) [] (L.names.map fun x => (x, none)) (exB ep L.names) w h K) (hb : BindAll ((sts ++ xts).map mkD)) {j : Nat} {s : Stmt} (hs : (sts ++ xts)[j]? = some s) :
    ∃ fd, FunD K (mkD s).name (mkD s).name (mkD s).params (mkD s).body (mkD s).scope [] [] (He.ga K (mkD s).name) fd ∧ mg (mkD s).name = some (.ref (He.ga K (mkD s).name)) ∧ (∀ (s' : Shared) (us : List Value), us.length = (psOf (mkD s)).length → BindsTo s' fd ⟨us, []⟩ ((psOf (mkD s)).zip us)) := by
  have hd : ((sts ++ xts).map mkD)[j]? = some (mkD s) := by rw [List.getElem?_map, hs]; rfl
  obtain ⟨fd, FD⟩ := c.t.d.def_ j hd
  obtain ⟨e1, e2, e3, e4⟩ := mkD_at s
  have d1 : (mkD s).dvs K = [] := by unfold He.DefD.dvs; rw [e3]; rfl
  have d2 : (mkD s).kws K = [] := by unfold He.DefD.kws; rw [e4]; rfl
  have hg := He.glo_ok X G (x := (mkD s).name) (c.t.d.facts (List.mem_append_left _ (List.mem_append_right _ (List.mem_append_left _ (List.mem_map.mpr ⟨_, List.mem_map.mpr ⟨s, List.mem_of_getElem? hs, rfl⟩, rfl⟩)))))
  have d3 : He.fAd K (mkD s).at_ = He.ga K (mkD s).name := by rw [e1]; rfl
  rw [d1, d2, d3, e2] at FD
  have bd := hb.get hd
  unfold BindD at bd
  rw [e2] at bd
  exact ⟨fd, FD, hg, fun s' us hl => FD.bindsA bd s' us hl⟩
theorem tab_of (X : K.In h) (G : h.Ns mainGlobals mg) (c : He.SaysX (faOf (namesOf (sts ++ xts)) gp ep L.names) ((sts ++ xts).map mkD) [] (L.names.map fun x => (x, none)) (exB ep L.names) w h K)
    (hc : chkB (tb.names (sts.map mkD)) (glOf gp) (exOf ep) L (sts.map mkD) tb = true) (hb : BindAll ((sts ++ xts).map mkD)) (hv : wdsB V L (xts.map mkD) = true) :
    Tab K mg tb.fs GG (tb.names (sts.map mkD)) (glOf gp) (exOf ep) (clOf K ep) L ∧ TabsAt K L.names h := by
  have fact : ∀ f ∈ (bNames.map .free ++ ((namesOf (sts ++ xts)).map .glo ++ ((gp.filterMap fun i => (GI[i]?).map fun p => .int p.1 p.2) ++ ep.flatMap fun i => [.glo (EXN.getD i ""), .exc (EXN.getD i "")])) : List He.Fa), f.ok K = true := fun f hf => c.t.d.facts (List.mem_append_left _ hf)
  have blt : ∀ x ∈ bNames, mg x = none := fun x hx => He.free_ok X G (fact _ (List.mem_append_left _ (List.mem_map.mpr ⟨x, hx, rfl⟩)))
  refine ⟨⟨fun i x hx => ?_, blt, fun i x hx => ?_, fun i x hx => ?_, fun x hx => ?_⟩, ⟨fun x hx => c.hd _ (List.mem_map.mpr ⟨x, hx, rfl⟩), fun x hx => c.out _ (List.mem_map.mpr ⟨x, hx, rfl⟩), fun x hx => c.empty _ (List.mem_map.mpr ⟨x, hx, rfl⟩), exB_nd c.more⟩⟩
  · unfold Tb.names at hx
    rw [Option.map_eq_some_iff] at hx
    obtain ⟨p, hp, rfl⟩ := hx
    obtain ⟨j, fn, N, hd, h1, h2, h3, h4, h5⟩ := find_get (u := i) (d := p.2) hc (by rw [hp]; rfl)
    obtain ⟨s, hs, es⟩ : ∃ s, sts[j]? = some s ∧ mkD s = p.2 := by
      rw [List.getElem?_map, Option.map_eq_some_iff] at hd
      exact hd
    have hs2 : (sts ++ xts)[j]? = some s := by
      rw [List.getElem?_append_left (List.getElem?_eq_some_iff.mp hs).1]
      exact hs
    obtain ⟨fd, FD, hg, bd⟩ := def_at X G c hb hs2
    rw [← es] at h2 h3 h5 ⊢
    exact ⟨fn, by unfold Tb.fs; rw [h1]; rfl, ⟨_, _, _, N, psOf (mkD s), _, fd, FD, hg, bd, h2, h3, h4, h5, rfl⟩⟩
  · unfold glOf at hx
    split at hx
    · rename_i hg
      rw [Option.map_eq_some_iff] at hx
      obtain ⟨p, hp, rfl⟩ := hx
      obtain ⟨t, ht⟩ := He.int_ok X G (x := p.1) (i := p.2) (fact _ (List.mem_append_right _ (List.mem_append_right _ (List.mem_append_left _ (List.mem_filterMap.mpr ⟨i, by simpa using hg, by rw [hp]; rfl⟩)))))
      refine ⟨_, ht, ?_⟩
      unfold GG
      rw [List.getElem?_map, hp]
      exact ⟨t, rfl⟩
    · cases hx
  · unfold exOf at hx
    split at hx
    · rename_i hg
      have hx' : EXN.getD i "" = x := by rw [List.getD_eq_getElem?_getD, hx]; rfl
      have hi : i ∈ ep := by simpa using hg
      have m1 : ∀ f, f ∈ ([.glo (EXN.getD i ""), .exc (EXN.getD i "")] : List He.Fa) → f.ok K = true := fun f hf => fact f (List.mem_append_right _ (List.mem_append_right _ (List.mem_append_right _ (List.mem_flatMap.mpr ⟨i, hi, hf⟩))))
      rw [hx'] at m1
      have g1 := He.glo_ok X G (m1 _ (List.mem_cons_self ..))
      have g2 := m1 _ (List.mem_cons_of_mem _ (List.mem_cons_self ..))
      obtain ⟨q1, q2⟩ := He.ba (show (PySem.W.excIn K (He.ga K x) He.veBase "ValueError.__new__" && (PySem.W.keepIn K (.ref (He.ga K x)) && (decide (PySem.W.subIn K (.ref (He.ga K x)) (.type "BaseException") = some true) && decide (PySem.W.typeIn K (.ref (He.ga K x)) = some (.type "type"))))) = true from g2)
      obtain ⟨q2, q3⟩ := He.ba q2
      obtain ⟨q3, q4⟩ := He.ba q3
      exact ⟨He.ga K x, by unfold clOf; rw [if_pos hg, hx]; rfl, q1, g1, q2, of_decide_eq_true q3, of_decide_eq_true q4⟩
    · cases hx
  · have hn : L.names.isEmpty = false := by
      cases e : L.names.isEmpty with
      | false => rfl
      | true => rw [List.isEmpty_iff.mp e] at hx; cases hx
    obtain ⟨E1, _⟩ := exB_at c.more hn
    have more : ∀ f ∈ (.glo "PairError" :: .free "ValueError" :: EXN.map .glo : List He.Fa), f.ok K = true := fun f hf => c.t.d.facts (List.mem_append_right _ (by rw [hn]; exact hf))
    have cs : ClsOk K mg (clOf K ep) (He.ga K "PairError") := by
      refine ⟨He.glo_ok X G (more _ (List.mem_cons_self ..)), He.free_ok X G (more _ (List.mem_cons_of_mem _ (List.mem_cons_self ..))), fun b C hC => ?_, fun n y hy => ?_⟩
      · unfold clOf at hC
        split at hC
        · rename_i hb1
          rw [Option.map_eq_some_iff] at hC
          obtain ⟨y, hy, rfl⟩ := hC
          obtain ⟨q, _⟩ := E1 b (by simpa using hb1)
          have ey : EXN.getD b "" = y := by rw [List.getD_eq_getElem?_getD, hy]; rfl
          rw [ey] at q
          unfold exc1 at q
          simp only [Bool.and_eq_true, decide_eq_true_eq] at q
          obtain ⟨⟨⟨⟨⟨⟨⟨⟨⟨q1, q2⟩, q3⟩, q4⟩, q5⟩, q6⟩, q7⟩, q8⟩, q9⟩, q10⟩ := q
          exact ⟨⟨q1, q2, q3, q4, q5, q6, q7, q8⟩, q9, q10⟩
        · cases hC
      · have hn19 : n < 19 := (List.getElem?_eq_some_iff.mp hy).1
        have ey : EXN.getD n "" = y := by rw [List.getD_eq_getElem?_getD, hy]; rfl
        refine ⟨He.ga K y, He.glo_ok X G (more _ (List.mem_cons_of_mem _ (List.mem_cons_of_mem _ (List.mem_map.mpr ⟨y, List.mem_of_getElem? hy, rfl⟩)))), fun b C hC => ?_⟩
        unfold clOf at hC
        split at hC
        · rename_i hb1
          rw [Option.map_eq_some_iff] at hC
          obtain ⟨z, hz, rfl⟩ := hC
          obtain ⟨_, q⟩ := E1 b (by simpa using hb1)
          have ez : EXN.getD b "" = z := by rw [List.getD_eq_getElem?_getD, hz]; rfl
          have q2 := List.all_eq_true.mp q n (List.mem_range.mpr hn19)
          rw [ez, ey, decide_eq_true_eq] at q2
          exact q2
        · cases hC
    have one : ∀ {j : Nat} {s : Stmt}, xts[j]? = some s → ∃ fd, FunD K (mkD s).name (mkD s).name (mkD s).params (mkD s).body (mkD s).scope [] [] (He.ga K (mkD s).name) fd ∧ mg (mkD s).name = some (.ref (He.ga K (mkD s).name)) ∧ (∀ (s' : Shared) (us : List Value), us.length = (psOf (mkD s)).length → BindsTo s' fd ⟨us, []⟩ ((psOf (mkD s)).zip us)) := fun {j s} hs =>
      def_at X G c hb (j := sts.length + j) (by rw [List.getElem?_append_right (by omega), Nat.add_sub_cancel_left]; exact hs)
    have kd : ∀ (j : Nat) (s : Stmt), xts[j]? = some s → kindOk V (mkD s) = true → KindT K mg := fun j s hs hk => by
      obtain ⟨fd, FD, hg, bd⟩ := one hs
      unfold kindOk at hk
      simp only [Bool.and_eq_true, decide_eq_true_eq] at hk
      obtain ⟨⟨⟨⟨k1, k2⟩, k3⟩, k4⟩, k5⟩ := hk
      rw [k1] at FD hg
      exact ⟨V.kv, _, _, _, V.nk, psOf (mkD s), _, fd, FD, hg, bd, C8.fnScope_by k2, k3, k4, k5⟩
    have sd : ∀ (j : Nat) (s : Stmt), xts[j]? = some s → saidOk V (mkD s) = true → SaidT K mg := fun j s hs hk => by
      obtain ⟨fd, FD, hg, bd⟩ := one hs
      unfold saidOk at hk
      simp only [Bool.and_eq_true, decide_eq_true_eq] at hk
      obtain ⟨⟨⟨k1, k2⟩, k3⟩, k4⟩ := hk
      rw [k1] at FD hg
      exact ⟨_, _, _, V.ns, psOf (mkD s), _, fd, FD, hg, bd, C8.fnScope_by k2, k3, k4⟩
    have wd : ∀ (j : Nat) (s : Stmt), xts[j]? = some s → wordOk V (mkD s) = true → WordT K mg := fun j s hs hk => by
      obtain ⟨fd, FD, hg, bd⟩ := one hs
      unfold wordOk at hk
      simp only [Bool.and_eq_true, decide_eq_true_eq] at hk
      obtain ⟨⟨⟨k1, k2⟩, k3⟩, k4⟩ := hk
      rw [k1] at FD hg
      exact ⟨_, _, _, V.nw, psOf (mkD s), _, fd, FD, hg, bd, C8.fnScope_by k2, k3, k4⟩
    refine ⟨_, cs, ?_⟩
    match xts, hv, kd, sd, wd with
    | [], hv, _, _, _ =>
      have hv : (L.names.isEmpty && !L.wd) = true := hv
      rw [hn] at hv
      cases hv
    | [s1], hv, _, _, _ => cases hv
    | [s1, s2], hv, kd, sd, wd =>
      have hv : (kindOk V (mkD s1) && saidOk V (mkD s2) && !L.wd) = true := hv
      simp only [Bool.and_eq_true, Bool.not_eq_true'] at hv
      exact ⟨kd 0 _ rfl hv.1.1, sd 1 _ rfl hv.1.2, fun e => by rw [hv.2] at e; cases e⟩
    | [s1, s2, s3], hv, kd, sd, wd =>
      have hv : (kindOk V (mkD s1) && saidOk V (mkD s2) && wordOk V (mkD s3)) = true := hv
      simp only [Bool.and_eq_true] at hv
      exact ⟨kd 0 _ rfl hv.1.1, sd 1 _ rfl hv.1.2, fun _ => wd 2 _ rfl hv.2⟩
    | s1 :: s2 :: s3 :: s4 :: r, hv, _, _, _ => cases hv
end
end TB
set_option maxRecDepth 100000
/-! TBRun: running the evaluator. -/
namespace TB
open PySem
theorem ints_map0 : ∀ xs : List Int, intsD (xs.map .int) = some xs
  | [] => rfl
  | x :: xs => by rw [List.map_cons, intsD, ints_map0 xs]; rfl
section
variable {Φ : Nat → List W → Sto → Res W} {G : List D} {σ : Ev} {st st1 st2 : Sto}
@[simp] theorem ev_var (i : Nat) : ev Φ G (.var i) σ st = match σ[i]? with
    | some (some w) => .ok w st
    | _ => .bad := by first | (rw [ev]; done) | (rw [ev] <;> rfl)
@[simp] theorem ev_cn (d : D) : ev Φ G (.cn d) σ st = .ok (.d d) st := by first | (rw [ev]; done) | (rw [ev] <;> rfl)
@[simp] theorem ev_glob (i : Nat) : ev Φ G (.glob i) σ st = match G[i]? with
    | some (.int n) => .ok (.d (.int n)) st
    | _ => .bad := by first | (rw [ev]; done) | (rw [ev] <;> rfl)
@[simp] theorem ev_tup (es : Es) : ev Φ G (.tup es) σ st = (evD Φ G es σ st).bind fun xs st1 => .ok (.d (.tuple xs)) st1 := by first | (rw [ev]; done) | (rw [ev] <;> rfl)
@[simp] theorem ev_lst (es : Es) : ev Φ G (.lst es) σ st = (evD Φ G es σ st).bind fun xs st1 => .ok (.d (.list xs)) st1 := by first | (rw [ev]; done) | (rw [ev] <;> rfl)
@[simp] theorem ev_dnew : ev Φ G .dnew σ st = .ok (.d (.dict [])) st := by first | (rw [ev]; done) | (rw [ev] <;> rfl)
@[simp] theorem ev_bin (op : Operator) (a b : E) : ev Φ G (.bin op a b) σ st = (ev Φ G a σ st).bind fun x st1 => (ev Φ G b σ st1).bind fun y st2 => ofO ((peek x st2).bind fun d => (peek y st2).bind fun e => (binD op d e).map .d) st2 := by first | (rw [ev]; done) | (rw [ev] <;> rfl)
@[simp] theorem ev_neg (a : E) : ev Φ G (.neg a) σ st = (ev Φ G a σ st).bind fun x st1 => match x with
    | .d (.int i) => .ok (.d (.int (-i))) st1
    | _ => .bad := by first | (rw [ev]; done) | (rw [ev] <;> rfl)
@[simp] theorem ev_not (a : E) : ev Φ G (.not a) σ st = (ev Φ G a σ st).bind fun x st1 => (truthW x st1).bind fun k st2 => .ok (.d (.bool (!k))) st2 := by first | (rw [ev]; done) | (rw [ev] <;> rfl)
@[simp] theorem ev_and (a b : E) : ev Φ G (.and a b) σ st = (ev Φ G a σ st).bind fun x st1 => match x with
    | .d (.bool true) => ev Φ G b σ st1
    | .d (.bool false) => .ok (.d (.bool false)) st1
    | _ => .bad := by first | (rw [ev]; done) | (rw [ev] <;> rfl)
@[simp] theorem ev_or (a b : E) : ev Φ G (.or a b) σ st = (ev Φ G a σ st).bind fun x st1 => match x with
    | .d (.bool false) => ev Φ G b σ st1
    | .d (.bool true) => .ok (.d (.bool true)) st1
    | _ => .bad := by first | (rw [ev]; done) | (rw [ev] <;> rfl)
@[simp] theorem ev_cmp (op : CmpOp) (a b : E) : ev Φ G (.cmp op a b) σ st = (ev Φ G a σ st).bind fun x st1 => (ev Φ G b σ st1).bind fun y st2 => ofO ((peek x st2).bind fun d => (peek y st2).bind fun e => (cmpD op d e).map fun k => .d (.bool k)) st2 := by first | (rw [ev]; done) | (rw [ev] <;> rfl)
@[simp] theorem ev_chain (op op' : CmpOp) (a b c : E) : ev Φ G (.chain op op' a b c) σ st = (ev Φ G a σ st).bind fun x st1 => (ev Φ G b σ st1).bind fun y st2 =>
    (ofO ((peek x st2).bind fun d => (peek y st2).bind fun e => cmpD op d e) st2).bind fun k st3 => if k = true then
      (ev Φ G c σ st3).bind fun z st4 => ofO ((peek y st4).bind fun d => (peek z st4).bind fun e => (cmpD op' d e).map fun k => .d (.bool k)) st4
    else .ok (.d (.bool false)) st3 := by first | (rw [ev]; done) | (rw [ev] <;> rfl)
@[simp] theorem ev_ite (c a b : E) : ev Φ G (.ite c a b) σ st = (ev Φ G c σ st).bind fun x st1 => (truthW x st1).bind fun k st1 => if k = true then ev Φ G a σ st1 else ev Φ G b σ st1 := by first | (rw [ev]; done) | (rw [ev] <;> rfl)
@[simp] theorem ev_call (f : Nat) (es : Es) : ev Φ G (.call f es) σ st = (evs Φ G es σ st).bind fun ws st1 => Φ f ws st1 := by first | (rw [ev]; done) | (rw [ev] <;> rfl)
@[simp] theorem ev_bi (b : Bi) (es : Es) : ev Φ G (.bi b es) σ st = (evs Φ G es σ st).bind fun ws st1 => ofO ((ws.mapM fun w => peek w st1).bind fun vs => (biD b vs).map .d) st1 := by first | (rw [ev]; done) | (rw [ev] <;> rfl)
@[simp] theorem ev_isin (a : E) (t : Ty) : ev Φ G (.isin a t) σ st = (ev Φ G a σ st).bind fun x st1 => ofO ((peek x st1).map fun d => .d (.bool (isTy t d))) st1 := by first | (rw [ev]; done) | (rw [ev] <;> rfl)
@[simp] theorem ev_idx (o i : E) : ev Φ G (.idx o i) σ st = (ev Φ G o σ st).bind fun x st1 => (ev Φ G i σ st1).bind fun y st2 => ofO ((peek x st2).bind fun d => (peek y st2).bind fun e => (getD d e).map .d) st2 := by first | (rw [ev]; done) | (rw [ev] <;> rfl)
@[simp] theorem ev_slc (o : E) (a b : Oe) : ev Φ G (.slc o a b) σ st = (ev Φ G o σ st).bind fun x st1 => (evO Φ G a σ st1).bind fun lo st2 => (evO Φ G b σ st2).bind fun hi st3 => ofO ((peek x st3).bind fun d => (sliceD d lo hi).map .d) st3 := by first | (rw [ev]; done) | (rw [ev] <;> rfl)
@[simp] theorem ev_back (o : E) : ev Φ G (.back o) σ st = (ev Φ G o σ st).bind fun x st1 => ofO ((peek x st1).bind fun d => match d with
    | .list xs => some (.d (.list xs.reverse))
    | .tuple xs => some (.d (.tuple xs.reverse))
    | _ => none) st1 := by first | (rw [ev]; done) | (rw [ev] <;> rfl)
@[simp] theorem evs_nil : evs Φ G .nil σ st = .ok [] st := by first | (rw [evs]; done) | (rw [evs] <;> rfl)
@[simp] theorem evs_cons (e : E) (es : Es) : evs Φ G (.cons e es) σ st = (ev Φ G e σ st).bind fun x st1 => (evs Φ G es σ st1).bind fun xs st2 => .ok (x :: xs) st2 := by first | (rw [evs]; done) | (rw [evs] <;> rfl)
@[simp] theorem evD_nil : evD Φ G .nil σ st = .ok [] st := by first | (rw [evD]; done) | (rw [evD] <;> rfl)
@[simp] theorem evD_cons (e : E) (es : Es) : evD Φ G (.cons e es) σ st = (ev Φ G e σ st).bind fun x st1 => (val x st1).bind fun d st2 => (evD Φ G es σ st2).bind fun xs st3 => .ok (d :: xs) st3 := by first | (rw [evD]; done) | (rw [evD] <;> rfl)
@[simp] theorem evO_no : evO Φ G .no σ st = .ok none st := by first | (rw [evO]; done) | (rw [evO] <;> rfl)
@[simp] theorem evO_yes (e : E) : evO Φ G (.yes e) σ st = (ev Φ G e σ st).bind fun x st1 => match x with
    | .d (.int i) => .ok (some i) st1
    | _ => .bad := by first | (rw [evO]; done) | (rw [evO] <;> rfl)
@[simp] theorem evC_no : evC Φ G .no σ st = .ok true st := by first | (rw [evC]; done) | (rw [evC] <;> rfl)
@[simp] theorem evC_yes (e : E) : evC Φ G (.yes e) σ st = (ev Φ G e σ st).bind fun x st1 => truthW x st1 := by first | (rw [evC]; done) | (rw [evC] <;> rfl)
@[simp] theorem evI_e (e : E) : evI Φ G (.e e) σ st = (ev Φ G e σ st).bind fun x st1 => (val x st1).bind fun d st2 => ofO (seqD d) st2 := by first | (rw [evI]; done) | (rw [evI] <;> rfl)
@[simp] theorem evI_r1 (a : E) : evI Φ G (.r1 a) σ st = (ev Φ G a σ st).bind fun x st1 => match x with
    | .d (.int j) => if smallB j then .ok (rangeL 0 1 j.toNat) st1 else .bad
    | _ => .bad := by first | (rw [evI]; done) | (rw [evI] <;> rfl)
@[simp] theorem evI_z2 (a b : E) : evI Φ G (.z2 a b) σ st = (ev Φ G a σ st).bind fun x st1 => (val x st1).bind fun d st2 => (ev Φ G b σ st2).bind fun y st3 => (val y st3).bind fun e st4 => ofO (zipD d e) st4 := by first | (rw [evI]; done) | (rw [evI] <;> rfl)
@[simp] theorem exs_nil : exs Φ G .nil σ st = .ok (.nx σ) st := by first | (rw [exs]; done) | (rw [exs] <;> rfl)
@[simp] theorem exs_cons (s : S) (r : Ss) : exs Φ G (.cons s r) σ st = (ex Φ G s σ st).bind fun f st1 => match f with
    | .nx σ1 => exs Φ G r σ1 st1
    | .rt w => .ok (.rt w) st1
    | .xc c as => .ok (.xc c as) st1 := by first | (rw [exs]; done) | (rw [exs] <;> rfl)
@[simp] theorem ex_asg (i : Nat) (e : E) : ex Φ G (.asg i e false) σ st = (ev Φ G e σ st).bind fun x st1 => (val x st1).bind fun d st2 => .ok (.nx (σ.set i (some (.d d)))) st2 := by
  rw [ex]; simp
@[simp] theorem ex_asgT (is : List Nat) (e : E) : ex Φ G (.asgT is e) σ st = (ev Φ G e σ st).bind fun x st1 => match x with
    | .d (.tuple xs) => ofO ((storeT is xs σ).map .nx) st1
    | _ => .bad := by first | (rw [ex]; done) | (rw [ex] <;> rfl)
@[simp] theorem ex_asgP (is : List Nat) (es : Es) : ex Φ G (.asgP is es) σ st = (evD Φ G es σ st).bind fun xs st1 => ofO ((storeT is xs σ).map .nx) st1 := by first | (rw [ex]; done) | (rw [ex] <;> rfl)
@[simp] theorem ex_rais (c : Nat) (es : Es) : ex Φ G (.rais c es) σ st = (evD Φ G es σ st).bind fun xs st1 => .ok (.xc c xs) st1 := by first | (rw [ex]; done) | (rw [ex] <;> rfl)
@[simp] theorem ex_never : ex Φ G .never σ st = .bad := by first | (rw [ex]; done) | (rw [ex] <;> rfl)
@[simp] theorem ex_exprX (f : Nat) (es : Es) : ex Φ G (.exprX f es) σ st = (evs Φ G es σ st).bind fun ws st1 => thruX (Φ f ws st1) fun _ st2 => .ok (.nx σ) st2 := by first | (rw [ex]; done) | (rw [ex] <;> rfl)
@[simp] theorem ex_retX (f : Nat) (es : Es) : ex Φ G (.retX f es) σ st = (evs Φ G es σ st).bind fun ws st1 => thruX (Φ f ws st1) fun w st2 => (val w st2).bind fun d st3 => .ok (.rt (.d d)) st3 := by first | (rw [ex]; done) | (rw [ex] <;> rfl)
@[simp] theorem ex_asgQ (is : List Nat) (ms : List Bool) (es : Es) : ex Φ G (.asgQ is ms es) σ st = (evQ Φ G ms es σ st).bind fun ws st1 => ofO ((storeW is ws σ).map .nx) st1 := by first | (rw [ex]; done) | (rw [ex] <;> rfl)
@[simp] theorem evQ_nil : evQ Φ G [] .nil σ st = .ok [] st := rfl
@[simp] theorem evQ_cons (m : Bool) (ms : List Bool) (e : E) (es : Es) : evQ Φ G (m :: ms) (.cons e es) σ st = (ev Φ G e σ st).bind fun x st1 => (keepW m e x st1).bind fun w st2 => (evQ Φ G ms es σ st2).bind fun ws st3 => .ok (w :: ws) st3 := rfl
@[simp] theorem ex_ret (e : E) : ex Φ G (.ret e) σ st = (ev Φ G e σ st).bind fun x st1 => (val x st1).bind fun d st2 => .ok (.rt (.d d)) st2 := by first | (rw [ex]; done) | (rw [ex] <;> rfl)
@[simp] theorem ex_ife (c : E) (a b : Ss) : ex Φ G (.ife c a b) σ st = (evT Φ G c σ st).bind fun k st1 => if k = true then exs Φ G a σ st1 else exs Φ G b σ st1 := by first | (rw [ex]; done) | (rw [ex] <;> rfl)
@[simp] theorem ex_seti (i : Nat) (k v : E) : ex Φ G (.seti i k v) σ st = (ofO (atVar σ i) st).bind fun _ st => (ev Φ G v σ st).bind fun x st1 => (val x st1).bind fun d st2 => (ev Φ G k σ st2).bind fun y st3 => (val y st3).bind fun e st4 => (ofO (change σ i (fun ob => setSlot ob e d) st4) st4).bind fun st5 _ => .ok (.nx σ) st5 := by first | (rw [ex]; done) | (rw [ex] <;> rfl)
@[simp] theorem bi_len_list (xs : List D) : biD .len [.list xs] = some (.int xs.length) := rfl
@[simp] theorem bi_len_tup (xs : List D) : biD .len [.tuple xs] = some (.int xs.length) := rfl
@[simp] theorem bi_tuple_list (xs : List D) : biD .tuple [.list xs] = some (.tuple xs) := rfl
@[simp] theorem bi_tuple_tup (xs : List D) : biD .tuple [.tuple xs] = some (.tuple xs) := rfl
@[simp] theorem bi_list_list (xs : List D) : biD .list [.list xs] = some (.list xs) := rfl
@[simp] theorem bi_list_tup (xs : List D) : biD .list [.tuple xs] = some (.list xs) := rfl
@[simp] theorem bi_max2 (i j : Int) : biD .max [.int i, .int j] = some (.int (if j > i then j else i)) := rfl
@[simp] theorem bi_min2 (i j : Int) : biD .min [.int i, .int j] = some (.int (if j < i then j else i)) := rfl
@[simp] theorem bi_int_bool (b : Bool) : biD .int [.bool b] = some (.int (if b then 1 else 0)) := rfl
@[simp] theorem bi_int_int (b : Int) : biD .int [.int b] = some (.int b) := rfl
@[simp] theorem bi_divmod (i j : Int) : biD .divmod [.int i, .int j] = if 0 < j ∧ j < 1073741824 then some (.tuple [.int (i / j), .int (i % j)]) else none := rfl
@[simp] theorem bi_ssetL (xs : List Int) : biD .sortedset [.list (xs.map .int)] = if xs.length < 64 ∨ (xs.length < 4000 ∧ (setSort xs).length < 64) then some (.list ((setSort xs).map .int)) else none := by
  simp [biD, sortedsetD, ints_map0]
@[simp] theorem bi_ssetT (xs : List Int) : biD .sortedset [.tuple (xs.map .int)] = if xs.length < 64 ∨ (xs.length < 4000 ∧ (setSort xs).length < 64) then some (.list ((setSort xs).map .int)) else none := by
  simp [biD, sortedsetD, ints_map0]
theorem ints_map00 : True := trivial
theorem shaped_int (i : Int) : shapedB (.int i) = true := rfl
@[simp] theorem cmp_eq_int (i j : Int) : cmpD .Eq (.int i) (.int j) = some (decide (i = j)) := by
  unfold cmpD
  simp only [shaped_int, Bool.and_self, if_true]
  first | (congr 1; done) | (congr 1; by_cases h : i = j <;> simp [h, PyData.eqv])
@[simp] theorem cmp_lt_int (i j : Int) : cmpD .Lt (.int i) (.int j) = some (decide (i < j)) := rfl
@[simp] theorem cmp_gt_int (i j : Int) : cmpD .Gt (.int i) (.int j) = some (decide (j < i)) := rfl
@[simp] theorem cmp_le_int (i j : Int) : cmpD .LtE (.int i) (.int j) = some (decide (i ≤ j)) := rfl
@[simp] theorem cmp_ge_int (i j : Int) : cmpD .GtE (.int i) (.int j) = some (decide (j ≤ i)) := rfl
@[simp] theorem cmp_ne_bool (i j : Bool) : cmpD .NotEq (.bool i) (.bool j) = some (i != j) := by
  cases i <;> cases j <;> rfl
@[simp] theorem cmp_eq_bool (i j : Bool) : cmpD .Eq (.bool i) (.bool j) = some (i == j) := by
  cases i <;> cases j <;> rfl
@[simp] theorem cmp_isnot_bool (i j : Bool) : cmpD .IsNot (.bool i) (.bool j) = some (i != j) := by
  cases i <;> cases j <;> rfl
@[simp] theorem cmp_is_bool (i j : Bool) : cmpD .Is (.bool i) (.bool j) = some (i == j) := by
  cases i <;> cases j <;> rfl
@[simp] theorem add_int (i j : Int) : binD .Add (.int i) (.int j) = some (.int (i + j)) := rfl
@[simp] theorem sub_int (i j : Int) : binD .Sub (.int i) (.int j) = some (.int (i - j)) := rfl
@[simp] theorem mul_int (i j : Int) : binD .Mult (.int i) (.int j) = if mulOk i j then some (.int (i * j)) else none := rfl
@[simp] theorem mod_int (i j : Int) : binD .Mod (.int i) (.int j) = if 0 < j then some (.int (i % j)) else none := by
  show (if 0 < j then some (i % j) else none).map PyData.int = _
  split <;> rfl
@[simp] theorem fdiv_int (i j : Int) : binD .FloorDiv (.int i) (.int j) = if 0 < j ∧ j < 1073741824 then some (.int (i / j)) else none := by
  show (if 0 < j ∧ j < 1073741824 then some (i / j) else none).map PyData.int = _
  split <;> rfl
@[simp] theorem and_int (i j : Int) : binD .BitAnd (.int i) (.int j) = some (.int (Builtin.bitAnd i j)) := rfl
@[simp] theorem shr_int (i j : Int) : binD .RShift (.int i) (.int j) = if 0 ≤ j then some (.int (i / 2 ^ j.toNat)) else none := by
  show (if 0 ≤ j then some (i / 2 ^ j.toNat) else none).map PyData.int = _
  split <;> rfl
@[simp] theorem pow_int (i j : Int) : binD .Pow (.int i) (.int j) = if powOk i j then some (.int (i ^ j.toNat)) else none := by
  show (if powOk i j then some (i ^ j.toNat) else none).map PyData.int = _
  split <;> rfl
@[simp] theorem add_tup (xs ys : List D) : binD .Add (.tuple xs) (.tuple ys) = if xs.length + ys.length ≤ LIM then some (.tuple (xs ++ ys)) else none := rfl
@[simp] theorem add_list (xs ys : List D) : binD .Add (.list xs) (.list ys) = if xs.length + ys.length ≤ LIM then some (.list (xs ++ ys)) else none := rfl
@[simp] theorem get_list (xs : List D) (i : Int) : TB.getD (.list xs) (.int i) = (placeOf xs.length i).bind fun j => xs[j]? := rfl
@[simp] theorem get_tup (xs : List D) (i : Int) : TB.getD (.tuple xs) (.int i) = (placeOf xs.length i).bind fun j => xs[j]? := rfl
@[simp] theorem slice_tup (xs : List D) (a b : Option Int) : sliceD (.tuple xs) a b = some (.tuple (cutD xs a b)) := rfl
@[simp] theorem slice_list (xs : List D) (a b : Option Int) : sliceD (.list xs) a b = some (.list (cutD xs a b)) := rfl
@[simp] theorem ev_me (m : Me) (o : E) (es : Es) : ev Φ G (.me m o es) σ st = (ev Φ G o σ st).bind fun x st1 => (ofO ((peek x st1).bind (meTy m)) st1).bind fun _ st1 => (evs Φ G es σ st1).bind fun ws st2 => ofO ((peek x st2).bind fun d => (ws.mapM fun w => peek w st2).bind fun vs => (meD m d vs).map .d) st2 := by first | (rw [ev]; done) | (rw [ev] <;> rfl)
@[simp] theorem ev_sum2 (a : E) : ev Φ G (.sum2 a) σ st = (ev Φ G a σ st).bind fun x st1 => ofO ((peek x st1).bind fun d => (sum2D d).map .d) st1 := by first | (rw [ev]; done) | (rw [ev] <;> rfl)
@[simp] theorem ev_step2 (o : E) (lo : Nat) : ev Φ G (.step2 o lo) σ st = (ev Φ G o σ st).bind fun x st1 => ofO ((peek x st1).bind fun d => (step2D lo d).map .d) st1 := by first | (rw [ev]; done) | (rw [ev] <;> rfl)
@[simp] theorem ev_popv (j : Nat) (o : Oe) : ev Φ G (.popv j o) σ st = (ofO (lstAt σ j st) st).bind fun a st => (evO Φ G o σ st).bind fun i st1 => (ofO (popSt a i st1) st1).bind fun p st2 => .ok (.d p.1) p.2 := by first | (rw [ev]; done) | (rw [ev] <;> rfl)
@[simp] theorem ev_popi (j : Nat) (e : E) : ev Φ G (.popi j e) σ st = (ofO (lstAt σ j st) st).bind fun a st => (ev Φ G e σ st).bind fun x st1 => match x with
    | .d (.int i) => (ofO (popSt a (some i) st1) st1).bind fun p st2 => .ok (.d p.1) p.2
    | _ => .bad := by first | (rw [ev]; done) | (rw [ev] <;> rfl)
@[simp] theorem ev_get1 (o k : E) : ev Φ G (.get1 o k) σ st = (ev Φ G o σ st).bind fun x st1 => (ofO ((peek x st1).bind (meTy .get)) st1).bind fun _ st1 => (ev Φ G k σ st1).bind fun y st2 => ofO ((peek x st2).bind fun d => (peek y st2).bind fun e => (meD .get d [e]).map .d) st2 := by first | (rw [ev]; done) | (rw [ev] <;> rfl)
@[simp] theorem ev_get2 (o k v : E) : ev Φ G (.get2 o k v) σ st = (ev Φ G o σ st).bind fun x st1 => (ofO ((peek x st1).bind (meTy .get)) st1).bind fun _ st1 => (ev Φ G k σ st1).bind fun y st2 => (ev Φ G v σ st2).bind fun z st3 => match z with
    | .d e0 => ofO ((peek x st3).bind fun d => (peek y st3).bind fun e => (meD .get d [e, e0]).map .d) st3
    | _ => .bad := by first | (rw [ev]; done) | (rw [ev] <;> rfl)
@[simp] theorem ev_pld : ev Φ G .pld σ st = .ok (.r st.length) (st ++ [.dct []]) := by first | (rw [ev]; done) | (rw [ev] <;> rfl)
@[simp] theorem ty_get (es : List (D × D)) : meTy .get (.dict es) = some () := rfl
@[simp] theorem ev_rep (es : Es) (k : E) : ev Φ G (.rep es k) σ st = (evD Φ G es σ st).bind fun xs st1 => (ev Φ G k σ st1).bind fun y st2 => match y with
    | .d (.int n) => if xs.length * n.toNat ≤ LIM ∧ -(2 ^ 63) ≤ n ∧ n < 2 ^ 63 then .ok (.d (.list (List.replicate n.toNat xs).flatten)) st2 else .bad
    | _ => .bad := by first | (rw [ev]; done) | (rw [ev] <;> rfl)
@[simp] theorem ev_fz (e : E) : ev Φ G (.fz e) σ st = (ev Φ G e σ st).bind fun w st1 => (val w st1).bind fun d st2 => .ok (.d d) (st2.take st.length) := by first | (rw [ev]; done) | (rw [ev] <;> rfl)
@[simp] theorem val_r (a : Nat) : val (.r a) st = match st[a]? with
    | some ob => if ob.isTb = true then .bad else .ok ob.tree (st.set a (.frz ob.tree))
    | none => .bad := rfl
@[simp] theorem isTb_lst (xs : List D) : Ob.isTb (.lst xs) = false := rfl
@[simp] theorem isTb_dct (kvs : List (D × D)) : Ob.isTb (.dct kvs) = false := rfl
@[simp] theorem isTb_dl (kvs : List (D × List D)) : Ob.isTb (.dl kvs) = false := rfl
@[simp] theorem isTb_frz (x : D) : Ob.isTb (.frz x) = false := rfl
@[simp] theorem ev_said (x : Str) (j : Nat) (w : Bool) (f : Nat) (es : Es) : ev Φ G (.said x j w f es) σ st = (ofO (tbAt x j st) st).bind fun _ st => (evs Φ G es σ st).bind fun ws st1 => saidR st.length w (Φ f ws st1) := by first | (rw [ev]; done) | (rw [ev] <;> rfl)
@[simp] theorem ev_orv (a b : E) : ev Φ G (.orv a b) σ st = (ev Φ G a σ st).bind fun x st1 => (truthW x st1).bind fun k st2 => if k = true then .ok x st2 else ev Φ G b σ st2 := by first | (rw [ev]; done) | (rw [ev] <;> rfl)
@[simp] theorem saidR_ok (n : Nat) (w : Bool) (y : W) (st : Sto) : saidR n w (.ok y st) = (val y st).bind fun d st1 => .ok (.d (if w then .str "told" else .tuple [.str "told", d])) (st1.take n) := rfl
theorem saidR_exc (n : Nat) (w : Bool) (c : Nat) {x : Str} (st : Sto) (h : KWORDS[c]? = some x) : saidR n w (.exc c [] st) = .ok (.d (if w then .str x else .tuple [.str x])) (st.take n) := by
  show (match ([] : List D), KWORDS[c]? with
    | [], some x => (Res.ok (W.d (if w then PyData.str x else .tuple [.str x])) (st.take n) : Res W)
    | _, _ => .bad) = _
  rw [h]
@[simp] theorem tree_lst (xs : List D) : Ob.tree (.lst xs) = .list xs := rfl
@[simp] theorem tree_dct (kvs : List (D × D)) : Ob.tree (.dct kvs) = .dict kvs := rfl
@[simp] theorem tree_dl (kvs : List (D × List D)) : Ob.tree (.dl kvs) = .dict (kvs.map fun p => (p.1, .list p.2)) := rfl
@[simp] theorem tree_frz (x : D) : Ob.tree (.frz x) = x := rfl
@[simp] theorem ev_lof (it : I) : ev Φ G (.lof it) σ st = (evI Φ G it σ st).bind fun xs st1 => .ok (.d (.list xs)) st1 := by first | (rw [ev]; done) | (rw [ev] <;> rfl)
@[simp] theorem ev_split (o s : E) : ev Φ G (.split o s) σ st = (ev Φ G o σ st).bind fun x st1 => match x with
    | .d (.str a) => (ev Φ G s σ st1).bind fun y st2 => match y with
      | .d (.str b) => if (b.length == 0) = false ∧ a.length + 2 ≤ LIM then .ok (.d (.list ((Txt.split a b).map .str))) st2 else .bad
      | _ => .bad
    | _ => .bad := by first | (rw [ev]; done) | (rw [ev] <;> rfl)
/-- a comprehension -/
@[simp] theorem ev_lc (elt : E) (t : Tg) (it : I) (own : List Nat) (c : Oe) : ev Φ G (.lc elt t it own c) σ st = (evI Φ G it σ st).bind fun xs st1 =>
    (compL (fun x st => (ofO (bindT t x (wipeE σ own)) st).bind fun σ1 st => (evC Φ G c σ1 st).bind fun k st => if k = true then (ev Φ G elt σ1 st).bind fun w st => (val w st).bind fun d st => .ok (some d) st else .ok none st) xs st1).bind fun ys st2 => .ok (.d (.list ys)) st2 := by first | (rw [ev]; done) | (rw [ev] <;> rfl)
/-- a whole number -/
def intW : W → Option Int
  | .d (.int i) => some i
  | _ => none
@[simp] theorem intW_int (i : Int) : intW (.d (.int i)) = some i := rfl
/-- range(i, j) -/
@[irreducible] def rangeI (i j : Int) : Option (List D) := if smallB i && smallB j then some (rangeL i 1 (j - i).toNat) else none
theorem rangeI_of (i j : Int) (st : Sto) : ofO (rangeI i j) st = if smallB i && smallB j then .ok (rangeL i 1 (j - i).toNat) st else .bad := by
  unfold rangeI
  split <;> rfl
@[simp] theorem rangeI_ok {i j : Int} (h1 : smallB i = true) (h2 : smallB j = true) : rangeI i j = some ((List.range (j - i).toNat).map fun k : Nat => PyData.int (i + k)) := by
  unfold rangeI
  rw [h1, h2, Bool.and_self, if_pos rfl]
  congr 1
  generalize (j - i).toNat = n
  induction n generalizing i with
  | zero => rfl
  | succ n ih =>
    rw [rangeL, List.range_succ_eq_map, List.map_cons, List.map_map]
    have key : ∀ (n : Nat) (i : Int), rangeL i 1 n = (List.range n).map fun k : Nat => PyData.int (i + k) := by
      intro n
      induction n with
      | zero => intro i; rfl
      | succ n ih =>
        intro i
        rw [rangeL, ih, List.range_succ_eq_map, List.map_cons, List.map_map]
        congr 1
        · simp
        · apply List.map_congr_left
          intro k _
          simp only [Function.comp]
          congr 1
          push_cast
          omega
    rw [key]
    congr 1
    · simp
    · apply List.map_congr_left
      intro k _
      simp only [Function.comp]
      congr 1
      push_cast
      omega
@[simp] theorem evI_r2 (a b : E) : evI Φ G (.r2 a b) σ st = (ev Φ G a σ st).bind fun x st1 => (ev Φ G b σ st1).bind fun y st2 => ofO ((intW x).bind fun i => (intW y).bind fun j => rangeI i j) st2 := by
  rw [evI]
  congr 1
  funext x st1
  congr 1
  funext y st2
  cases x with
  | r k => rfl
  | e k => rfl
  | d x =>
    cases x <;> try rfl
    cases y with
    | r k => rfl
    | e k => rfl
    | d y =>
      cases y <;> try rfl
      exact (rangeI_of _ _ _).symm
@[simp] theorem evI_en (a : E) : evI Φ G (.en a) σ st = (ev Φ G a σ st).bind fun x st1 => (val x st1).bind fun d st2 => ofO ((listD d).map (enumL 0)) st2 := by first | (rw [evI]; done) | (rw [evI] <;> rfl)
@[simp] theorem ex_fori (t : Tg) (it : I) (b : Ss) (own : List Nat) (cut : Bool) : ex Φ G (.fori t it b own cut) σ st = (evI Φ G it σ st).bind fun xs st1 => forL (fun x σ st => (ofO (bindT t x σ) st).bind fun σ1 st => (exs Φ G b σ1 st).bind fun fl st2 => match fl with
    | .nx σ2 => rest st1.length own cut σ2 st2
    | .rt w => .ok (.rt w) st2
    | .xc c as => .ok (.xc c as) st2) xs σ st1 := by first | (rw [ex]; done) | (rw [ex] <;> rfl)
@[simp] theorem ex_whil (c : E) (b : Ss) (own : List Nat) (cut : Bool) : ex Φ G (.whil c b own cut) σ st = whileL (fun σ st => evT Φ G c σ st) (fun σ st1 => (exs Φ G b σ st1).bind fun fl st2 => match fl with
    | .nx σ2 => rest st.length own cut σ2 st2
    | .rt w => .ok (.rt w) st2
    | .xc c as => .ok (.xc c as) st2) FUEL σ st := by first | (rw [ex]; done) | (rw [ex] <;> rfl)
@[simp] theorem ex_retM (i : Nat) : ex Φ G (.retM i) σ st = match σ[i]? with
    | some (some w) => .ok (.rt w) st
    | _ => .bad := by first | (rw [ex]; done) | (rw [ex] <;> rfl)
@[simp] theorem ex_retN (e : E) : ex Φ G (.retN e) σ st = (ev Φ G e σ st).bind fun x st1 => match x with
    | .d d => if freshE e = true then match newOb d with
      | some ob => .ok (.rt (.r st1.length)) (st1 ++ [ob])
      | none => .bad
      else .bad
    | .r a => .ok (.rt (.r a)) st1
    | .e _ => .bad := by first | (rw [ex]; done) | (rw [ex] <;> rfl)
@[simp] theorem ex_asgM (i : Nat) (e : E) : ex Φ G (.asg i e true) σ st = (ev Φ G e σ st).bind fun x st1 => match x with
      | .d d => if freshE e = true then match newOb d with
        | some ob => .ok (.nx (σ.set i (some (.r st1.length)))) (st1 ++ [ob])
        | none => .bad
        else .bad
      | .r a => .ok (.nx (σ.set i (some (.r a)))) st1
      | .e _ => .bad := by
  rw [ex]
  simp only [if_true]
  first | done | rfl | (congr 1; funext x st1; cases x <;> rfl)
@[simp] theorem ex_pass : ex Φ G .pass σ st = .ok (.nx σ) st := by first | (rw [ex]; done) | (rw [ex] <;> rfl)
@[simp] theorem ex_expr (e : E) : ex Φ G (.expr e) σ st = (ev Φ G e σ st).bind fun _ st1 => .ok (.nx σ) st1 := by first | (rw [ex]; done) | (rw [ex] <;> rfl)
@[simp] theorem ex_app (i : Nat) (e : E) : ex Φ G (.app i e) σ st = (ofO (lstAt σ i st) st).bind fun _ st => (ev Φ G e σ st).bind fun x st1 => (val x st1).bind fun d st2 => (ofO (change σ i (fun ob => appSlot ob d) st2) st2).bind fun st3 _ => .ok (.nx σ) st3 := by first | (rw [ex]; done) | (rw [ex] <;> rfl)
@[simp] theorem ex_ext (i : Nat) (e : E) : ex Φ G (.ext i e) σ st = (ofO (lstAt σ i st) st).bind fun _ st => (ev Φ G e σ st).bind fun x st1 => (val x st1).bind fun d st2 => (ofO (change σ i (fun ob => extSlot ob d) st2) st2).bind fun st3 _ => .ok (.nx σ) st3 := by first | (rw [ex]; done) | (rw [ex] <;> rfl)
@[simp] theorem ex_asgDL (i : Nat) (k : E) (t : Tg) (it : I) (own : List Nat) : ex Φ G (.asgDL i k t it own) σ st = (evI Φ G it σ st).bind fun xs st1 =>
    (compL (fun x st => (ofO (bindT t x (wipeE σ own)) st).bind fun σ1 st => (ev Φ G k σ1 st).bind fun w st => (val w st).bind fun d st => .ok (some d) st) xs st1).bind fun ks st2 =>
      if newKeys ks then .ok (.nx (σ.set i (some (.r st2.length)))) (st2 ++ [.dl (ks.map fun k => (k, []))]) else .bad := by first | (rw [ex]; done) | (rw [ex] <;> rfl)
@[simp] theorem ex_app2 (i : Nat) (k e : E) : ex Φ G (.app2 i k e) σ st = (ofO (dlAt σ i st) st).bind fun _ st => (ev Φ G k σ st).bind fun x st1 => (val x st1).bind fun d st2 => (ofO (dlIdx σ i d st2) st2).bind fun n st2 => (ev Φ G e σ st2).bind fun y st3 => (val y st3).bind fun e st4 => (ofO (change σ i (fun ob => app2Slot ob n e) st4) st4).bind fun st5 _ => .ok (.nx σ) st5 := by first | (rw [ex]; done) | (rw [ex] <;> rfl)
@[simp] theorem ex_rem (i : Nat) (e : E) : ex Φ G (.rem i e) σ st = (ofO (lstAt σ i st) st).bind fun _ st => (ev Φ G e σ st).bind fun x st1 => (val x st1).bind fun d st2 => (ofO (change σ i (fun ob => remSlot ob d) st2) st2).bind fun st3 _ => .ok (.nx σ) st3 := by first | (rw [ex]; done) | (rw [ex] <;> rfl)
@[simp] theorem truthW_b (k : Bool) : truthW (.d (.bool k)) st = .ok k st := rfl
@[simp] theorem truthW_d (x : D) : truthW (.d x) st = ofO (truthD x) st := rfl
@[simp] theorem evT_def (e : E) : evT Φ G e σ st = (ev Φ G e σ st).bind fun x st1 => truthW x st1 := rfl
end
@[simp] theorem truthD_l (xs : List D) : truthD (.list xs) = some (!xs.isEmpty) := rfl
@[simp] theorem truthD_b (b : Bool) : truthD (.bool b) = some b := rfl
@[simp] theorem comp_fun {α β γ : Type} (g : β → γ) (f : α → β) : g ∘ f = fun x => g (f x) := rfl
/-! ### the store -/
@[simp] theorem take_app (st l : Sto) : (st ++ l).take st.length = st := by simp
@[simp] theorem take_app_k (st l : Sto) (k : Nat) : (st ++ l).take (st.length + k) = st ++ l.take k := by rw [List.take_append]; simp [List.take_of_length_le]
@[simp] theorem take_appS_k (st l : Sto) (a : Nat) (y : Ob) (k : Nat) : (st.set a y ++ l).take (st.length + k) = st.set a y ++ l.take k := by rw [List.take_append]; simp [List.take_of_length_le]
@[simp] theorem take_set_app (st l : Sto) (a : Nat) (x : Ob) : (st.set a x ++ l).take st.length = st.set a x := by
  rw [List.take_append_of_le_length (by simp)]; simp [List.take_of_length_le]
@[simp] theorem take_set (st : Sto) (a : Nat) (x : Ob) : (st.set a x).take st.length = st.set a x := by simp [List.take_of_length_le]
@[simp] theorem get_app0 (st l : Sto) : (st ++ l)[st.length]? = l[0]? := by rw [List.getElem?_append_right (Nat.le_refl _)]; simp
@[simp] theorem get_app_k (st l : Sto) (k : Nat) : (st ++ l)[st.length + k]? = l[k]? := by rw [List.getElem?_append_right (by omega)]; simp
@[simp] theorem set_app0 (st l : Sto) (x : Ob) : (st ++ l).set st.length x = st ++ l.set 0 x := by rw [List.set_append_right _ _ (Nat.le_refl _)]; simp
@[simp] theorem set_app_k (st l : Sto) (k : Nat) (x : Ob) : (st ++ l).set (st.length + k) x = st ++ l.set k x := by rw [List.set_append_right _ _ (by omega)]; simp
@[simp] theorem get_appS0 (st l : Sto) (a : Nat) (y : Ob) : (st.set a y ++ l)[st.length]? = l[0]? := by rw [List.getElem?_append_right (by simp)]; simp
@[simp] theorem get_appS_k (st l : Sto) (a : Nat) (y : Ob) (k : Nat) : (st.set a y ++ l)[st.length + k]? = l[k]? := by rw [List.getElem?_append_right (by simp)]; simp
@[simp] theorem set_appS0 (st l : Sto) (a : Nat) (y x : Ob) : (st.set a y ++ l).set st.length x = st.set a y ++ l.set 0 x := by rw [List.set_append_right _ _ (by simp)]; simp
@[simp] theorem set_appS_k (st l : Sto) (a : Nat) (y x : Ob) (k : Nat) : (st.set a y ++ l).set (st.length + k) x = st.set a y ++ l.set k x := by rw [List.set_append_right _ _ (by simp)]; simp
@[simp] theorem finish_d (n : Nat) (st : Sto) (x : D) : finish n (.rt (.d x)) st = .ok (.d x) (st.take n) := rfl
@[simp] theorem finish_n (n : Nat) (st : Sto) (σ : Ev) : finish n (.nx σ) st = .ok (.d .none) (st.take n) := rfl
@[simp] theorem finish_new (st l : Sto) (ob : Ob) : finish st.length (.rt (.r st.length)) (st ++ ob :: l) = .ok (.r st.length) (st ++ [ob]) := by
  simp [finish]
@[simp] theorem finish_newS (st l : Sto) (a : Nat) (y ob : Ob) : finish st.length (.rt (.r st.length)) (st.set a y ++ ob :: l) = .ok (.r st.length) (st.set a y ++ [ob]) := by
  simp [finish]
@[simp] theorem finish_k (st l : Sto) (k : Nat) : finish st.length (.rt (.r (st.length + k))) (st ++ l) = match l[k]? with
    | some ob => .ok (.r st.length) (st ++ [ob])
    | none => .bad := by
  have h : ¬ st.length + k < st.length := by omega
  simp [finish, h]
  all_goals (cases l[k]? <;> rfl)
@[simp] theorem finish_Sk (st l : Sto) (a : Nat) (y : Ob) (k : Nat) : finish st.length (.rt (.r (st.length + k))) (st.set a y ++ l) = match l[k]? with
    | some ob => .ok (.r st.length) (st.set a y ++ [ob])
    | none => .bad := by
  have h : ¬ st.length + k < st.length := by omega
  simp [finish, h]
  all_goals (cases l[k]? <;> rfl)
@[simp] theorem rest_f (n : Nat) (own : List Nat) (σ : Ev) (st : Sto) : rest n own false σ st = .ok (.nx (wipeE σ own)) st := rfl
@[simp] theorem rest_t (n : Nat) (own : List Nat) (σ : Ev) (st : Sto) : rest n own true σ st = .ok (.nx (cutE n (wipeE σ own))) (st.take n) := rfl
@[simp] theorem wipe_nil (σ : Ev) : wipeE σ [] = σ := rfl
@[simp] theorem wipe_cons (σ : Ev) (v : Nat) (vs : List Nat) : wipeE σ (v :: vs) = (wipeE σ vs).set v none := rfl
@[simp] theorem bind_nm (i : Nat) (x : D) (σ : Ev) : bindT (.nm i) x σ = some (σ.set i (some (.d x))) := rfl
@[simp] theorem bind_tp (is : List Nat) (xs : List D) (σ : Ev) : bindT (.tp is) (.tuple xs) σ = storeT is xs σ := rfl
@[simp] theorem storeW_nil (σ : Ev) : storeW [] [] σ = some σ := rfl
@[simp] theorem storeW_cons (i : Nat) (is : List Nat) (w : W) (ws : List W) (σ : Ev) : storeW (i :: is) (w :: ws) σ = storeW is ws (σ.set i (some w)) := rfl
@[simp] theorem keep_f (e : E) (x : W) (st : Sto) : keepW false e x st = (val x st).bind fun d st2 => .ok (.d d) st2 := rfl
@[simp] theorem keep_tr (e : E) (a : Nat) (st : Sto) : keepW true e (.r a) st = .ok (.r a) st := rfl
@[simp] theorem keep_td (e : E) (d : D) (st : Sto) : keepW true e (.d d) st = if freshE e = true then match newOb d with
      | some ob => .ok (.r st.length) (st ++ [ob])
      | none => .bad
      else .bad := rfl
@[simp] theorem store_nil (σ : Ev) : storeT [] [] σ = some σ := rfl
@[simp] theorem store_cons (i : Nat) (is : List Nat) (x : D) (xs : List D) (σ : Ev) : storeT (i :: is) (x :: xs) σ = storeT is xs (σ.set i (some (.d x))) := rfl
@[simp] theorem cutE_nil (n : Nat) : cutE n [] = [] := rfl
@[simp] theorem cutE_none (n : Nat) (σ : Ev) : cutE n (none :: σ) = none :: cutE n σ := rfl
@[simp] theorem cutE_d (n : Nat) (x : D) (σ : Ev) : cutE n (some (.d x) :: σ) = some (.d x) :: cutE n σ := rfl
@[simp] theorem cutE_r (n a : Nat) (σ : Ev) : cutE n (some (.r a) :: σ) = (if a < n then some (.r a) else none) :: cutE n σ := rfl
/-- a function's number in a table -/
class Has (fs : Tbl) (i : Nat) (fn : outParam Fn) : Prop where
  h : fs i = some fn
theorem callF_of {fs : Tbl} {G : List D} {n f : Nat} {ws : List W} {st : Sto} {fn : Fn} [H : Has fs f fn] (hl : ws.length = fn.np) :
    callF fs G (n + 1) f ws st = (noX (exs (callF fs G n) G fn.body (startE fn.nn ws) st)).bind (finish st.length) := by
  rw [callF, H.h]
  simp only
  rw [if_pos hl]
/-! ### loops and comprehensions -/
section
variable {α β : Type} {st : Sto}
@[simp] theorem compL_nil (step : α → Sto → Res (Option D)) : compL step [] st = .ok [] st := rfl
theorem compL_cons (step : α → Sto → Res (Option D)) (x : α) (xs : List α) : compL step (x :: xs) st = (step x st).bind fun o st1 => (compL step xs st1).bind fun ys st2 => .ok (match o with | some y => y :: ys | none => ys) st2 := rfl
@[simp ↓] theorem compL_map (f : α → β) (step : β → Sto → Res (Option D)) (xs : List α) : compL step (xs.map f) st = compL (fun x st => step (f x) st) xs st := by
  induction xs generalizing st with
  | nil => rfl
  | cons x xs ih =>
    rw [List.map_cons, compL_cons, compL_cons]
    simp only [ih]
@[simp] theorem compL_ok (g : α → D) (xs : List α) : compL (fun x st => Res.ok (some (g x)) st) xs st = .ok (xs.map g) st := by
  induction xs with
  | nil => rfl
  | cons x xs ih => rw [compL_cons, Res.bind_ok, ih]; rfl
@[simp] theorem compL_if (p : α → Prop) [DecidablePred p] (g : α → D) (xs : List α) : compL (fun x st => if p x then Res.ok (some (g x)) st else Res.ok none st) xs st = .ok ((xs.filter fun x => decide (p x)).map g) st := by
  induction xs with
  | nil => rfl
  | cons x xs ih =>
    rw [compL_cons]
    by_cases h : p x
    · rw [if_pos h, Res.bind_ok, ih, List.filter_cons_of_pos (by simpa using h)]
      rfl
    · rw [if_neg h, Res.bind_ok, ih, List.filter_cons_of_neg (by simpa using h)]
      rfl
theorem compL_congr {s1 s2 : α → Sto → Res (Option D)} {xs : List α} (h : ∀ x ∈ xs, ∀ st, s1 x st = s2 x st) : compL s1 xs st = compL s2 xs st := by
  induction xs generalizing st with
  | nil => rfl
  | cons x xs ih =>
    rw [compL_cons, compL_cons, h x (List.mem_cons_self ..)]
    congr 1
    funext o st1
    rw [ih fun y hy => h y (List.mem_cons_of_mem _ hy)]
theorem compL_all {step : α → Sto → Res (Option D)} {g : α → D} {xs : List α} (h : ∀ x ∈ xs, step x st = .ok (some (g x)) st) : compL step xs st = .ok (xs.map g) st := by
  induction xs with
  | nil => rfl
  | cons x xs ih =>
    rw [compL_cons, h x (List.mem_cons_self ..), Res.bind_ok, ih fun y hy => h y (List.mem_cons_of_mem _ hy)]
    rfl
@[simp ↓] theorem forL_map (f : α → β) (step : β → Ev → Sto → Res Fl) (xs : List α) {σ : Ev} : forL step (xs.map f) σ st = forL (fun x σ st => step (f x) σ st) xs σ st := by
  induction xs generalizing σ st with
  | nil => rfl
  | cons x xs ih =>
    rw [List.map_cons, forL, forL]
    congr 1
    funext fl st1
    cases fl with
    | nx σ1 => exact ih
    | rt w => rfl
    | xc c as => rfl
/-- a walk whose state is told by s -/
theorem forL_fold {S : Type} (e : S → Ev) (o : S → Sto) (g : S → α → S) {step : α → Ev → Sto → Res Fl} {xs : List α} (s : S) (h : ∀ x ∈ xs, ∀ s, step x (e s) (o s) = .ok (.nx (e (g s x))) (o (g s x))) : forL step xs (e s) (o s) = .ok (.nx (e (xs.foldl g s))) (o (xs.foldl g s)) := by
  induction xs generalizing s with
  | nil => rfl
  | cons x xs ih =>
    rw [forL, h x (List.mem_cons_self ..), Res.bind_ok]
    exact ih (g s x) fun y hy => h y (List.mem_cons_of_mem _ hy)
/-- .. with something that stays true -/
theorem forL_inv {S : Type} (e : S → Ev) (o : S → Sto) (P : S → Prop) {step : α → Ev → Sto → Res Fl} {xs : List α} (s : S) (h0 : P s) (h : ∀ x ∈ xs, ∀ s, P s → ∃ s', step x (e s) (o s) = .ok (.nx (e s')) (o s') ∧ P s') : ∃ s', forL step xs (e s) (o s) = .ok (.nx (e s')) (o s') ∧ P s' := by
  induction xs generalizing s with
  | nil => exact ⟨s, rfl, h0⟩
  | cons x xs ih =>
    obtain ⟨s1, e1, h1⟩ := h x (List.mem_cons_self ..) s h0
    obtain ⟨s2, e2, h2⟩ := ih s1 h1 fun y hy => h y (List.mem_cons_of_mem _ hy)
    exact ⟨s2, by rw [forL, e1, Res.bind_ok]; exact e2, h2⟩
/-- .. by the place in the list: what is so before the list's rest is walked -/
theorem forL_pre {S : Type} (e : S → Ev) (o : S → Sto) (P : List α → S → Prop) {step : α → Ev → Sto → Res Fl} : ∀ (done xs : List α) (s : S), P done s → (∀ (d : List α) (x : α) (s : S), (∃ r, done ++ xs = d ++ x :: r) → P d s → ∃ s', step x (e s) (o s) = .ok (.nx (e s')) (o s') ∧ P (d ++ [x]) s') →
    ∃ s', forL step xs (e s) (o s) = .ok (.nx (e s')) (o s') ∧ P (done ++ xs) s'
  | done, [], s, h0, _ => ⟨s, rfl, by simpa using h0⟩
  | done, x :: xs, s, h0, h => by
    obtain ⟨s1, e1, h1⟩ := h done x s ⟨xs, rfl⟩ h0
    obtain ⟨s2, e2, h2⟩ := forL_pre e o P (done ++ [x]) xs s1 h1 fun d y s q => h d y s (by simpa using q)
    exact ⟨s2, by rw [forL, e1, Res.bind_ok]; exact e2, by simpa using h2⟩
/-- .. as a step of a proof -/
theorem forL_go {S : Type} (e : S → Ev) (o : S → Sto) (P : List α → S → Prop) {step : α → Ev → Sto → Res Fl} {xs : List α} {σ : Ev} {st : Sto} {X : Res Fl} (s0 : S) (hσ : σ = e s0) (ho : st = o s0) (h0 : P [] s0)
    (hs : ∀ (d : List α) (x : α) (s : S), (∃ r, xs = d ++ x :: r) → P d s → ∃ s', step x (e s) (o s) = .ok (.nx (e s')) (o s') ∧ P (d ++ [x]) s') (fin : ∀ s, P xs s → Res.ok (.nx (e s)) (o s) = X) : forL step xs σ st = X := by
  subst hσ ho
  obtain ⟨s, h1, h2⟩ := forL_pre e o P [] xs s0 h0 hs
  rw [h1]
  exact fin s h2
/-- .. where only some state behind it is wanted -/
theorem forL_ex {S : Type} (e : S → Ev) (o : S → Sto) (P : List α → S → Prop) {step : α → Ev → Sto → Res Fl} {xs : List α} {σ : Ev} {st : Sto} (s0 : S) (hσ : σ = e s0) (ho : st = o s0) (h0 : P [] s0)
    (hs : ∀ (d : List α) (x : α) (s : S), (∃ r, xs = d ++ x :: r) → P d s → ∃ s', step x (e s) (o s) = .ok (.nx (e s')) (o s') ∧ P (d ++ [x]) s') : ∃ s, forL step xs σ st = .ok (.nx (e s)) (o s) ∧ P xs s := by
  subst hσ ho
  exact forL_pre e o P [] xs s0 h0 hs
/-- a walk that leaves all as it was -/
theorem forL_stay {step : α → Ev → Sto → Res Fl} {xs : List α} {σ : Ev} (h : ∀ x ∈ xs, step x σ st = .ok (.nx σ) st) : forL step xs σ st = .ok (.nx σ) st := by
  induction xs with
  | nil => rfl
  | cons x xs ih =>
    rw [forL, h x (List.mem_cons_self ..), Res.bind_ok]
    exact ih fun y hy => h y (List.mem_cons_of_mem _ hy)
end
theorem bools_map {α : Type} (f : α → Bool) : ∀ xs : List α, boolsD (xs.map fun x => .bool (f x)) = some (xs.map f)
  | [] => rfl
  | x :: xs => by rw [List.map_cons, boolsD, bools_map f xs]; rfl
@[simp] theorem bi_all {α : Type} (f : α → Bool) (xs : List α) : biD .all [.list (xs.map fun x => .bool (f x))] = some (.bool (xs.all f)) := by
  simp [biD, bools_map, List.all_map]
@[simp] theorem bi_any {α : Type} (f : α → Bool) (xs : List α) : biD .any [.list (xs.map fun x => .bool (f x))] = some (.bool (xs.any f)) := by
  simp [biD, bools_map, List.any_map]
theorem ints_mapF {α : Type} (f : α → Int) : ∀ xs : List α, intsD (xs.map fun x => .int (f x)) = some (xs.map f)
  | [] => rfl
  | x :: xs => by rw [List.map_cons, intsD, ints_mapF f xs]; rfl
@[simp] theorem ints_map (xs : List Int) : intsD (xs.map .int) = some xs := by
  have := ints_mapF id xs
  simpa using this
@[simp] theorem bi_sum {α : Type} (f : α → Int) (xs : List α) : biD .sum [.list (xs.map fun x => .int (f x))] = some (.int (xs.map f).sum) := by
  simp [biD, ints_mapF]
theorem rangeL_map (lo c : Int) : ∀ n : Nat, rangeL lo c n = (List.range n).map fun k : Nat => PyData.int (lo + (k : Int) * c) := by
  intro n
  induction n generalizing lo with
  | zero => rfl
  | succ n ih =>
    rw [rangeL, ih, List.range_succ_eq_map, List.map_cons, List.map_map]
    congr 1
    · simp
    · apply List.map_congr_left
      intro k _
      simp only [Function.comp]
      congr 1
      push_cast
      rw [Int.add_mul]
      omega
@[simp] theorem rangeL_0 (n : Nat) : rangeL 0 1 n = (List.range n).map fun k : Nat => PyData.int k := by
  rw [rangeL_map]
  simp
@[simp] theorem rangeL_1 (lo : Int) (n : Nat) : rangeL lo 1 n = (List.range n).map fun k : Nat => PyData.int (lo + k) := by
  rw [rangeL_map]
  simp
@[simp] theorem zipL_map {α β : Type} (f : α → D) (g : β → D) : ∀ (xs : List α) (ys : List β), zipL (xs.map f) (ys.map g) = (xs.zip ys).map fun p => .tuple [f p.1, g p.2]
  | [], _ => by simp [zipL]
  | _ :: _, [] => by simp [zipL]
  | x :: xs, y :: ys => by
    rw [List.map_cons, List.map_cons, zipL, zipL_map f g xs ys]
    rfl
@[simp] theorem enumL_map {α : Type} (f : α → D) : ∀ (xs : List α) (k : Nat), enumL k (xs.map f) = (xs.zipIdx k).map fun p => .tuple [.int p.2, f p.1]
  | [], _ => rfl
  | x :: xs, k => by
    rw [List.map_cons, enumL, enumL_map f xs (k + 1)]
    rfl
@[simp] theorem cutD_map {α : Type} (f : α → D) (xs : List α) (lo hi : Option Int) : cutD (xs.map f) lo hi = (cutD xs lo hi).map f := by
  simp [cutD]
@[simp] theorem cut_from {α : Type} (xs : List α) (k : Nat) : cutD xs (some (k : Int)) none = xs.drop k := by
  unfold cutD clipD
  simp only
  rw [if_neg (by omega), Int.toNat_natCast]
  by_cases h : k ≤ xs.length
  · rw [Nat.min_eq_left h]
    exact List.take_of_length_le (by simp)
  · rw [Nat.min_eq_right (by omega), List.drop_length, List.drop_eq_nil_of_le (by omega)]
    simp
@[simp] theorem cut_to {α : Type} (xs : List α) (k : Nat) : cutD xs none (some (k : Int)) = xs.take k := by
  unfold cutD clipD
  simp only
  rw [if_neg (by omega), Int.toNat_natCast, List.drop_zero, Nat.sub_zero, Nat.min_comm]
  exact List.take_eq_take_iff.mpr (by omega)
@[simp] theorem cut_1 {α : Type} (xs : List α) : cutD xs (some 1) none = xs.drop 1 := cut_from xs 1
@[simp] theorem cut_k1 {α : Type} (xs : List α) (k : Nat) : cutD xs (some ((k : Int) + 1)) none = xs.drop (k + 1) := cut_from xs (k + 1)
@[simp] theorem isTy_tt (xs : List D) : isTy .tuple (.tuple xs) = true := rfl
@[simp] theorem isTy_ll (xs : List D) : isTy .list (.list xs) = true := rfl
@[simp] theorem isTy_ii (i : Int) : isTy .int (.int i) = true := rfl
@[simp] theorem isTy_bi (i : Int) : isTy .bool (.int i) = false := rfl
@[simp] theorem isTy_bb (b : Bool) : isTy .bool (.bool b) = true := rfl
@[simp] theorem isTy_tl (xs : List D) : isTy .tuple (.list xs) = false := rfl
@[simp] theorem isTy_lt (xs : List D) : isTy .list (.tuple xs) = false := rfl
end TB
set_option maxRecDepth 100000
/-! TBTyp: faces, lists of faces, pairs of faces as trees; plain. -/
namespace TB
open PySem PySem.W
abbrev Face := List Int
def fc (f : Face) : D := .tuple (f.map .int)
def pr (p : Face × Face) : D := .tuple [fc p.1, fc p.2]
/-- trees of a kind: flat enough, alike just where equal -/
class Enc {α : Type} (e : α → D) (k : outParam Nat) : Prop where
  lay : ∀ a, (e a).canLay0 = true
  dep : ∀ a, (e a).depth ≤ k
  eqv : ∀ a b, PyData.eqv (e a) (e b) = true ↔ a = b
section
variable {α : Type} {e : α → D} {k : Nat}
theorem layAll [Enc e k] : ∀ L : List α, PyData.canLayAll0 (L.map e) = true
  | [] => rfl
  | a :: L => by rw [List.map_cons, PyData.canLayAll0, Enc.lay (e := e) a, layAll L]; rfl
theorem depAll [Enc e k] : ∀ L : List α, PyData.depthAll (L.map e) ≤ k
  | [] => by rw [List.map_nil, PyData.depthAll]; omega
  | a :: L => by
    rw [List.map_cons, PyData.depthAll]
    have := Enc.dep (e := e) a
    have := depAll L
    omega
theorem eqvAll_iff [Enc e k] : ∀ L M : List α, PyData.eqvAll (L.map e) (M.map e) = true ↔ L = M
  | [], [] => by simp [PyData.eqvAll]
  | [], _ :: _ => by simp [PyData.eqvAll]
  | _ :: _, [] => by simp [PyData.eqvAll]
  | a :: L, b :: M => by
    rw [List.map_cons, List.map_cons, PyData.eqvAll, Bool.and_eq_true, Enc.eqv (e := e), eqvAll_iff L M]
    simp
theorem encL [Enc e k] : Enc (fun L : List α => PyData.list (L.map e)) (k + 1) where
  lay L := by rw [PyData.canLay0]; exact layAll L
  dep L := by
    have := depAll (e := e) L
    rw [PyData.depth]
    omega
  eqv L M := by rw [PyData.eqv]; exact eqvAll_iff L M
theorem encT [Enc e k] : Enc (fun L : List α => PyData.tuple (L.map e)) (k + 1) where
  lay L := by rw [PyData.canLay0]; exact layAll L
  dep L := by
    have := depAll (e := e) L
    rw [PyData.depth]
    omega
  eqv L M := by rw [PyData.eqv]; exact eqvAll_iff L M
theorem shaped_enc [Enc e k] (hk : k ≤ 64) (a : α) : shapedB (e a) = true := by
  unfold shapedB SeqAt.shaped
  rw [Enc.lay (e := e) a, Bool.true_and, decide_eq_true_eq]
  exact Nat.le_trans (Enc.dep (e := e) a) hk
theorem shaped_l [Enc e k] (hk : k < 64 := by decide) (L : List α) : shapedB (.list (L.map e)) = true := @shaped_enc _ _ _ (encL (e := e)) hk L
theorem shaped_t [Enc e k] (hk : k < 64 := by decide) (L : List α) : shapedB (.tuple (L.map e)) = true := @shaped_enc _ _ _ (encT (e := e)) hk L
theorem eqv_dec [DecidableEq α] [Enc e k] (a b : α) : PyData.eqv (e a) (e b) = decide (a = b) := by
  rw [Bool.eq_iff_iff, Enc.eqv (e := e)]
  simp
theorem cmp_eqE [DecidableEq α] [Enc e k] (hk : k ≤ 64) (a b : α) : cmpD .Eq (e a) (e b) = some (decide (a = b)) := by
  unfold cmpD
  simp only [shaped_enc hk, Bool.and_self, if_true, eqv_dec]
theorem cmp_neE [DecidableEq α] [Enc e k] (hk : k ≤ 64) (a b : α) : cmpD .NotEq (e a) (e b) = some (!decide (a = b)) := by
  unfold cmpD
  simp only [shaped_enc hk, Bool.and_self, if_true, eqv_dec]
theorem any_dec [DecidableEq α] [Enc e k] (a : α) (L : List α) : ((L.map e).any fun z => PyData.eqv z (e a)) = decide (a ∈ L) := by
  rw [Bool.eq_iff_iff, List.any_map, List.any_eq_true]
  simp only [Function.comp, Enc.eqv (e := e), decide_eq_true_eq]
  constructor
  · rintro ⟨x, hx, rfl⟩; exact hx
  · intro h; exact ⟨a, h, rfl⟩
theorem memL [DecidableEq α] [Enc e k] (hk : k < 64) (a : α) (L : List α) : memD (e a) (.list (L.map e)) = some (decide (a ∈ L)) := by
  unfold memD
  simp only [shaped_enc (Nat.le_of_lt hk), shaped_l hk, Bool.and_self, if_true, any_dec]
theorem memT [DecidableEq α] [Enc e k] (hk : k < 64) (a : α) (L : List α) : memD (e a) (.tuple (L.map e)) = some (decide (a ∈ L)) := by
  unfold memD
  simp only [shaped_enc (Nat.le_of_lt hk), shaped_t hk, Bool.and_self, if_true, any_dec]
end
instance enc_int : Enc PyData.int 0 where
  lay _ := rfl
  dep _ := Nat.le_refl 0
  eqv a b := by rw [PyData.eqv]; simp
instance enc_fc : Enc fc 1 := encT (e := PyData.int)
instance enc_pr : Enc pr 2 where
  lay p := by simp [pr, PyData.canLay0, PyData.canLayAll0, Enc.lay (e := fc)]
  dep p := by
    have := Enc.dep (e := fc) p.1
    have := Enc.dep (e := fc) p.2
    simp only [pr, PyData.depth, PyData.depthAll]
    omega
  eqv p q := by
    simp only [pr, PyData.eqv, PyData.eqvAll, Bool.and_true, Bool.and_eq_true, Enc.eqv (e := fc), Prod.ext_iff]
/-- a block, a list of faces, a pairing, a list of pairs -/
abbrev Bk := List Face
abbrev Pg := List (Face × Face)
section
@[simp] theorem eq_fc (a b : Face) : cmpD .Eq (fc a) (fc b) = some (decide (a = b)) := cmp_eqE (by decide) a b
@[simp] theorem ne_fc (a b : Face) : cmpD .NotEq (fc a) (fc b) = some (!decide (a = b)) := cmp_neE (by decide) a b
@[simp] theorem eq_pr (a b : Face × Face) : cmpD .Eq (pr a) (pr b) = some (decide (a = b)) := cmp_eqE (by decide) a b
@[simp] theorem ne_pr (a b : Face × Face) : cmpD .NotEq (pr a) (pr b) = some (!decide (a = b)) := cmp_neE (by decide) a b
@[simp] theorem ne_int (a b : Int) : cmpD .NotEq (.int a) (.int b) = some (!decide (a = b)) := cmp_neE (e := PyData.int) (by decide) a b
@[simp] theorem eq_fl (a b : Bk) : cmpD .Eq (.list (a.map fc)) (.list (b.map fc)) = some (decide (a = b)) := @cmp_eqE _ _ _ _ (encL (e := fc)) (by decide) a b
@[simp] theorem ne_fl (a b : Bk) : cmpD .NotEq (.list (a.map fc)) (.list (b.map fc)) = some (!decide (a = b)) := @cmp_neE _ _ _ _ (encL (e := fc)) (by decide) a b
@[simp] theorem eq_ft (a b : Bk) : cmpD .Eq (.tuple (a.map fc)) (.tuple (b.map fc)) = some (decide (a = b)) := @cmp_eqE _ _ _ _ (encT (e := fc)) (by decide) a b
@[simp] theorem ne_ft (a b : Bk) : cmpD .NotEq (.tuple (a.map fc)) (.tuple (b.map fc)) = some (!decide (a = b)) := @cmp_neE _ _ _ _ (encT (e := fc)) (by decide) a b
@[simp] theorem eq_pl (a b : Pg) : cmpD .Eq (.list (a.map pr)) (.list (b.map pr)) = some (decide (a = b)) := @cmp_eqE _ _ _ _ (encL (e := pr)) (by decide) a b
@[simp] theorem ne_pl (a b : Pg) : cmpD .NotEq (.list (a.map pr)) (.list (b.map pr)) = some (!decide (a = b)) := @cmp_neE _ _ _ _ (encL (e := pr)) (by decide) a b
@[simp] theorem eq_pt (a b : Pg) : cmpD .Eq (.tuple (a.map pr)) (.tuple (b.map pr)) = some (decide (a = b)) := @cmp_eqE _ _ _ _ (encT (e := pr)) (by decide) a b
@[simp] theorem ne_pt (a b : Pg) : cmpD .NotEq (.tuple (a.map pr)) (.tuple (b.map pr)) = some (!decide (a = b)) := @cmp_neE _ _ _ _ (encT (e := pr)) (by decide) a b
@[simp] theorem eq_il (a b : List Int) : cmpD .Eq (.list (a.map .int)) (.list (b.map .int)) = some (decide (a = b)) := @cmp_eqE _ _ _ _ (encL (e := PyData.int)) (by decide) a b
@[simp] theorem ne_il (a b : List Int) : cmpD .NotEq (.list (a.map .int)) (.list (b.map .int)) = some (!decide (a = b)) := @cmp_neE _ _ _ _ (encL (e := PyData.int)) (by decide) a b
@[simp] theorem eq_fl0 (a : Bk) : cmpD .Eq (.list (a.map fc)) (.list []) = some (decide (a = [])) := eq_fl a []
@[simp] theorem ne_fl0 (a : Bk) : cmpD .NotEq (.list (a.map fc)) (.list []) = some (!decide (a = [])) := ne_fl a []
@[simp] theorem eq_pl0 (a : Pg) : cmpD .Eq (.list (a.map pr)) (.list []) = some (decide (a = [])) := eq_pl a []
@[simp] theorem ne_pl0 (a : Pg) : cmpD .NotEq (.list (a.map pr)) (.list []) = some (!decide (a = [])) := ne_pl a []
@[simp] theorem eq_ft0 (a : Bk) : cmpD .Eq (.tuple (a.map fc)) (.tuple []) = some (decide (a = [])) := eq_ft a []
@[simp] theorem eq_pt0 (a : Pg) : cmpD .Eq (.tuple (a.map pr)) (.tuple []) = some (decide (a = [])) := eq_pt a []
@[simp] theorem ne_pt0 (a : Pg) : cmpD .NotEq (.tuple (a.map pr)) (.tuple []) = some (!decide (a = [])) := ne_pt a []
@[simp] theorem cmp_in (x y : D) : cmpD .In x y = memD x y := rfl
@[simp] theorem cmp_notin (x y : D) : cmpD .NotIn x y = (memD x y).map (!·) := rfl
@[simp] theorem mem_fl (a : Face) (L : Bk) : memD (fc a) (.list (L.map fc)) = some (decide (a ∈ L)) := by rw [memL (e := fc) (by decide)]; congr
@[simp] theorem mem_ft (a : Face) (L : Bk) : memD (fc a) (.tuple (L.map fc)) = some (decide (a ∈ L)) := by rw [memT (e := fc) (by decide)]; congr
@[simp] theorem mem_pl (a : Face × Face) (L : Pg) : memD (pr a) (.list (L.map pr)) = some (decide (a ∈ L)) := by rw [memL (e := pr) (by decide)]; congr
@[simp] theorem mem_pt (a : Face × Face) (L : Pg) : memD (pr a) (.tuple (L.map pr)) = some (decide (a ∈ L)) := by rw [memT (e := pr) (by decide)]; congr
@[simp] theorem mem_il (a : Int) (L : List Int) : memD (.int a) (.list (L.map .int)) = some (decide (a ∈ L)) := memL (e := PyData.int) (by decide) a L
@[simp] theorem mem_ifc (a : Int) (L : Face) : memD (.int a) (fc L) = some (decide (a ∈ L)) := memT (e := PyData.int) (by decide) a L
@[simp] theorem mem_fpr (a : Face) (p : Face × Face) : memD (fc a) (pr p) = some (decide (a = p.1 ∨ a = p.2)) := by
  have := memT (e := fc) (by decide) a [p.1, p.2]
  simpa [pr] using this
end
/-! ### a face's tuple as it is used -/
@[simp] theorem fc_len (f : Face) : biD .len [fc f] = some (.int f.length) := by simp [fc]
@[simp] theorem fc_get (f : Face) (i : Int) : TB.getD (fc f) (.int i) = (placeOf f.length i).bind fun j => (f[j]?).map .int := by simp [fc]
@[simp] theorem fc_slc (f : Face) (a b : Option Int) : sliceD (fc f) a b = some (fc (cutD f a b)) := by simp [fc]
@[simp] theorem fc_add (f g : Face) : binD .Add (fc f) (fc g) = if f.length + g.length ≤ LIM then some (fc (f ++ g)) else none := by simp [fc]
@[simp] theorem fc_add1 (f : Face) (x : Int) : binD .Add (fc f) (.tuple [.int x]) = if f.length + 1 ≤ LIM then some (fc (f ++ [x])) else none := by simp [fc]
@[simp] theorem fc_ty (f : Face) : isTy .tuple (fc f) = true := rfl
@[simp] theorem fc_seq (f : Face) : seqD (fc f) = some (f.map .int) := rfl
@[simp] theorem seq_l (xs : List D) : seqD (.list xs) = some xs := rfl
@[simp] theorem seq_t (xs : List D) : seqD (.tuple xs) = some xs := rfl
@[simp] theorem fc_nil : PyData.tuple [] = fc [] := rfl
theorem fc_one (x : Int) : PyData.tuple [.int x] = fc [x] := rfl
theorem fc_tup (f : Face) : PyData.tuple (f.map .int) = fc f := rfl
theorem pr_of (a b : Face) : PyData.tuple [fc a, fc b] = pr (a, b) := rfl
@[simp] theorem pr_get0 (p : Face × Face) : TB.getD (pr p) (.int 0) = some (fc p.1) := rfl
@[simp] theorem pr_get1 (p : Face × Face) : TB.getD (pr p) (.int 1) = some (fc p.2) := rfl
@[simp] theorem pr_bind (i j : Nat) (p : Face × Face) (σ : Ev) : bindT (.tp [i, j]) (pr p) σ = some ((σ.set i (some (.d (fc p.1)))).set j (some (.d (fc p.2)))) := rfl
@[simp] theorem pr_ty (p : Face × Face) : isTy .tuple (pr p) = true := rfl
@[simp] theorem pr_len (p : Face × Face) : biD .len [pr p] = some (.int 2) := rfl
/-! ### dicts by faces -/
section
variable {β : Type} (h : β → D)
/-- a dict's rows -/
def rows (m : List (Face × β)) : List (D × D) := m.map fun p => (fc p.1, h p.2)
theorem tup_fc (f : Face) : tupK (fc f) = true := by
  simp only [fc, tupK, List.all_map]
  rw [List.all_eq_true]
  intro x _
  rfl
theorem keys_rows (m : List (Face × β)) (f : Face) : keysOk (rows h m) (fc f) = true := by
  simp only [keysOk, Bool.or_eq_true, Bool.and_eq_true]
  refine .inr ⟨?_, tup_fc f⟩
  rw [rows, List.all_map, List.all_eq_true]
  intro p _
  exact tup_fc p.1
theorem look_rows : ∀ (m : List (Face × β)) (f : Face), lookD (rows h m) (fc f) = (m.lookup f).map h
  | [], _ => rfl
  | (g, b) :: m, f => by
    have ih := look_rows m f
    unfold lookD at ih ⊢
    show ((List.find? _ ((fc g, h b) :: rows h m)).map _) = _
    rw [List.find?_cons, List.lookup_cons]
    simp only
    rw [eqv_dec (e := fc)]
    by_cases e : g = f
    · subst e
      simp
    · have e2 : (f == g) = false := by simpa using fun z : f = g => e z.symm
      rw [decide_eq_false e, e2]
      exact ih
@[simp] theorem mem_rows (f : Face) (m : List (Face × β)) : memD (fc f) (.dict (rows h m)) = some (m.lookup f).isSome := by
  unfold memD
  simp only [keys_rows, if_true, look_rows, Option.isSome_map]
@[simp] theorem get_rows (f : Face) (m : List (Face × β)) : TB.getD (.dict (rows h m)) (fc f) = (m.lookup f).map h := by
  unfold TB.getD
  simp only [keys_rows, if_true, look_rows]
@[simp] theorem mem_dict0 (f : Face) : memD (fc f) (.dict []) = some false := by
  have e : memD (fc f) (.dict []) = if keysOk [] (fc f) then some (lookD [] (fc f)).isSome else none := rfl
  rw [e]
  simp [keysOk, tup_fc, lookD]
/-- a row put in -/
def alPut (m : List (Face × β)) (f : Face) (b : β) : List (Face × β) := if f ∈ m.map (·.1) then m.map fun p => if p.1 = f then (p.1, b) else p else m ++ [(f, b)]
theorem put_rows (m : List (Face × β)) (f : Face) (b : β) : putD (rows h m) (fc f) (h b) = rows h (alPut m f b) := by
  unfold putD alPut
  have e : ((rows h m).any fun p => PyData.eqv p.1 (fc f)) = decide (f ∈ m.map (·.1)) := by
    rw [Bool.eq_iff_iff, rows, List.any_map, List.any_eq_true]
    simp only [Function.comp, Enc.eqv (e := fc), decide_eq_true_eq, List.mem_map]
  rw [e]
  by_cases q : f ∈ m.map (·.1)
  · rw [if_pos q, decide_eq_true q, if_pos rfl]
    rw [rows, rows, List.map_map, List.map_map]
    apply List.map_congr_left
    intro p _
    simp only [Function.comp]
    rw [eqv_dec (e := fc)]
    by_cases z : p.1 = f <;> simp [z]
  · rw [if_neg q, decide_eq_false q, if_neg Bool.false_ne_true]
    simp [rows]
theorem rows_len (m : List (Face × β)) : (rows h m).length = m.length := by simp [rows]
end
theorem merge_new : ∀ (ps acc : List (D × D)), (∀ a ∈ acc, ∀ p ∈ ps, PyData.eqv a.1 p.1 = false) → ps.Pairwise (fun a b => PyData.eqv a.1 b.1 = false) → mergeD acc ps = acc ++ ps
  | [], acc, _, _ => by simp [mergeD]
  | p :: ps, acc, h1, h2 => by
    have hp : putD acc p.1 p.2 = acc ++ [p] := by
      unfold putD
      rw [if_neg]
      rw [Bool.not_eq_true, List.any_eq_false]
      intro a ha
      rw [h1 a ha p (List.mem_cons_self ..)]
      exact Bool.false_ne_true
    obtain ⟨h3, h4⟩ := List.pairwise_cons.mp h2
    rw [mergeD, hp, merge_new ps (acc ++ [p]) ?_ h4]
    · simp
    · intro a ha q hq
      rcases List.mem_append.mp ha with ha | ha
      · exact h1 a ha q (List.mem_cons_of_mem _ hq)
      · rw [List.mem_singleton] at ha
        subst ha
        exact h3 q hq
theorem pairsD_map {α : Type} (f g : α → D) : ∀ L : List α, pairsD (L.map fun x => .tuple [f x, g x]) = some (L.map fun x => (f x, g x))
  | [] => rfl
  | x :: L => by
    rw [List.map_cons, pairsD, pairsD_map f g L]
    rfl
/-- dict([(f, v) for f in L]), each f once -/
theorem dict_map {β : Type} (h : β → D) {α : Type} (f : α → Face) (g : α → β) (L : List α) (nd : (L.map f).Nodup) : biD .dict [.list (L.map fun x => .tuple [fc (f x), h (g x)])] = some (.dict (rows h (L.map fun x => (f x, g x)))) := by
  unfold biD
  simp only
  rw [dictD, pairsD_map]
  simp only [Option.bind_some]
  have a1 : ((L.map fun x => (fc (f x), h (g x))).all fun p => tupK p.1) = true := by
    rw [List.all_map, List.all_eq_true]
    intro x _
    exact tup_fc (f x)
  rw [a1, Bool.true_or, if_pos rfl, merge_new _ [] (fun a ha => by cases ha) ?_]
  · simp [rows]
  · rw [List.pairwise_map]
    have := List.pairwise_map.mp nd
    refine this.imp fun {a b} n => ?_
    simp only
    rw [eqv_dec (e := fc), decide_eq_false n]
/-! ### order -/
theorem dataLt_fc (a b : Face) : dataLt (fc a) (fc b) = decide (a < b) := by
  unfold fc
  rw [dataLt_tuple]
  exact dataLt_ints a b
theorem alike_ints : ∀ a b : List Int, alikeAll (a.map .int) (b.map .int) = true
  | [], _ => by simp [alikeAll]
  | _ :: _, [] => by simp [alikeAll]
  | x :: xs, y :: ys => by
    rw [List.map_cons, List.map_cons, alikeAll, alike_ints xs ys]
    simp [alike]
theorem alike_fc (a b : Face) : alike (fc a) (fc b) = true := by
  unfold fc
  rw [alike]
  exact alike_ints a b
theorem alike_pr (p q : Face × Face) : alike (pr p) (pr q) = true := by
  unfold pr
  simp [alike, alikeAll, alike_fc]
/-- pairs in order -/
def prLt (p q : Face × Face) : Bool := decide (p.1 < q.1) || (decide (p.1 = q.1) && decide (p.2 < q.2))
theorem dataLt_pr (p q : Face × Face) : dataLt (pr p) (pr q) = prLt p q := by
  unfold pr prLt
  rw [dataLt_pair (alike_fc _ _) (alike_fc _ _), eqv_dec (e := fc), eqv_dec (e := fc), dataLt_fc, dataLt_fc]
  by_cases h : p.1 = q.1
  · have : ¬ p.1 < q.1 := by rw [h]; exact List.lt_irrefl _
    by_cases h2 : p.2 = q.2
    · have : ¬ p.2 < q.2 := by rw [h2]; exact List.lt_irrefl _
      simp [h, h2, List.lt_irrefl]
    · simp [h, h2, List.lt_irrefl]
  · simp [h]
@[simp] theorem lt_fc (a b : Face) : cmpD .Lt (fc a) (fc b) = some (decide (a < b)) := by
  have s : ∀ f : Face, shapedB (fc f) = true := shaped_enc (e := fc) (by decide)
  have e : cmpD .Lt (fc a) (fc b) = if shapedB (fc a) && shapedB (fc b) && alike (fc a) (fc b) then some (dataLt (fc a) (fc b)) else none := rfl
  rw [e, s, s, alike_fc, dataLt_fc]
  rfl
@[simp] theorem lt_pr (a b : Face × Face) : cmpD .Lt (pr a) (pr b) = some (prLt a b) := by
  have s : ∀ f : Face × Face, shapedB (pr f) = true := shaped_enc (e := pr) (by decide)
  have e : cmpD .Lt (pr a) (pr b) = if shapedB (pr a) && shapedB (pr b) && alike (pr a) (pr b) then some (dataLt (pr a) (pr b)) else none := rfl
  rw [e, s, s, alike_pr, dataLt_pr]
  rfl
/-- sorted, of faces, of pairs -/
def leF (a b : Face) : Bool := !decide (b < a)
def srt (L : Bk) : Bk := L.mergeSort leF
def leP (a b : Face × Face) : Bool := !prLt b a
def srtP (L : Pg) : Pg := L.mergeSort leP
theorem sortD_fc (L : Bk) : sortD (L.map fc) = (srt L).map fc := by
  unfold sortD srt
  rw [List.map_mergeSort (s := dataLe false id)]
  intro a _ b _
  rw [dataLe_eq]
  simp only [id, cond_false]
  rw [dataLt_fc]
  rfl
theorem sortD_pr (L : Pg) : sortD (L.map pr) = (srtP L).map pr := by
  unfold sortD srtP
  rw [List.map_mergeSort (s := dataLe false id)]
  intro a _ b _
  rw [dataLe_eq]
  simp only [id, cond_false]
  rw [dataLt_pr]
  rfl
theorem sorted_fc {L : Bk} (hn : ∀ f ∈ L, f ≠ []) (hl : L.length ≤ LIM) : sortedD (L.map fc) = some (.list ((srt L).map fc)) := by
  unfold sortedD
  have a1 : alikeAllB (L.map fc) = true := by
    simp only [alikeAllB, List.all_map, List.all_eq_true, Function.comp]
    intro a _ b _
    exact alike_fc a b
  have a2 : sortableB (L.map fc) = true := by
    unfold sortableB
    rw [Bool.or_eq_true]
    left
    rw [List.all_map, List.all_eq_true]
    intro f hf
    have := hn f hf
    cases f with
    | nil => exact absurd rfl this
    | cons x xs => rfl
  have a3 : (L.map fc).all shapedB = true := by
    rw [List.all_map, List.all_eq_true]
    intro f _
    exact shaped_enc (e := fc) (by decide) f
  rw [a1, a2, a3, List.length_map, decide_eq_true hl, sortD_fc]
  rfl
theorem sorted_pr {L : Pg} (hl : L.length ≤ LIM) : sortedD (L.map pr) = some (.list ((srtP L).map pr)) := by
  unfold sortedD
  have a1 : alikeAllB (L.map pr) = true := by
    simp only [alikeAllB, List.all_map, List.all_eq_true, Function.comp]
    intro a _ b _
    exact alike_pr a b
  have a2 : sortableB (L.map pr) = true := by
    unfold sortableB
    rw [Bool.or_eq_true]
    left
    rw [List.all_map, List.all_eq_true]
    intro f _
    rfl
  have a3 : (L.map pr).all shapedB = true := by
    rw [List.all_map, List.all_eq_true]
    intro f _
    exact shaped_enc (e := pr) (by decide) f
  rw [a1, a2, a3, List.length_map, decide_eq_true hl, sortD_pr]
  rfl
@[simp] theorem bi_sorted_l (xs : List D) : biD .sorted [.list xs] = sortedD xs := rfl
@[simp] theorem bi_sorted_t (xs : List D) : biD .sorted [.tuple xs] = sortedD xs := rfl
theorem sorted_rows {β : Type} (h : β → D) {m : List (Face × β)} (h0 : m ≠ []) (hn : ∀ p ∈ m, p.1 ≠ []) (hl : m.length ≤ LIM) : biD .sorted [.dict (rows h m)] = some (.list ((srt (m.map (·.1))).map fc)) := by
  have e1 : (rows h m).isEmpty = false := by
    cases m with
    | nil => exact absurd rfl h0
    | cons p m => rfl
  have e2 : ((rows h m).all fun p => tupK p.1) = true := by
    rw [rows, List.all_map, List.all_eq_true]
    intro p _
    exact tup_fc p.1
  have e3 : (rows h m).map (·.1) = (m.map (·.1)).map fc := by simp [rows]
  have e4 : biD .sorted [.dict (rows h m)] = if !(rows h m).isEmpty && (rows h m).all (fun p => tupK p.1) then sortedD ((rows h m).map (·.1)) else none := rfl
  rw [e4, e1, e2, e3]
  show sortedD _ = _
  exact sorted_fc (by simpa using fun a b hab => hn (a, b) hab) (by simpa using hl)
end TB
set_option maxHeartbeats 0
set_option maxRecDepth 100000
set_option maxHeartbeats 2000000
namespace TB
open PySem PySem.W
/-! LBase: faces and rims. -/
theorem compL_filt {α : Type} {st : Sto} {step : α → Sto → Res (Option D)} {p : α → Bool} {g : α → D} : ∀ {xs : List α}, (∀ x ∈ xs, step x st = .ok (if p x = true then some (g x) else none) st) → compL step xs st = .ok ((xs.filter p).map g) st
  | [], _ => rfl
  | x :: xs, h => by
    rw [compL_cons, h x (List.mem_cons_self ..), Res.bind_ok, compL_filt fun y hy => h y (List.mem_cons_of_mem _ hy), List.filter_cons]
    by_cases q : p x = true <;> simp [q]
@[simp] theorem zipL_tail {α β : Type} (f : α → D) (g : β → D) (xs : List α) (ys : List β) : zipL (xs.map f) ((ys.map g).tail) = (xs.zip ys.tail).map fun p => .tuple [f p.1, g p.2] := by
  rw [← List.map_tail, zipL_map]
/-- rims, that without the first point first -/
def rims (f : Face) : Bk := if f.length = 1 then [] else (List.range f.length).map fun k => f.take k ++ f.drop (k + 1)
def wholeB (d : D) : Bool := isTy .int d && !isTy .bool d
theorem wholeB_of {d : D} (h : wholeB d = true) : ∃ i, d = .int i := by
  cases d <;> simp [wholeB, isTy] at h
  exact ⟨_, rfl⟩
def fromB (lo hi : Int) : D → Bool
  | .int i => decide (lo ≤ i) && decide (i ≤ hi)
  | _ => false
/-- number 0: is_whole -/
def f0 : TB.Fn := ⟨1, 1, (.cons (.ret (.and (.isin (.var 0) .int) (.not (.isin (.var 0) .bool)))) .nil)⟩
section
variable {fs : Tbl} [Has fs 0 f0] {n : Nat} {st : Sto}
theorem run_whole (d : D) : callF fs GG (n + 1) 0 [.d d] st = .ok (.d (.bool (wholeB d))) st := by
  rw [callF_of rfl]
  cases h1 : isTy .int d <;> simp [f0, startE, h1, wholeB]
end
/-- number 1: is_from -/
def f1 : TB.Fn := ⟨3, 3, (.cons (.ret (.and (.call 0 (.cons (.var 0) .nil)) (.chain .LtE .LtE (.var 1) (.var 0) (.var 2)))) .nil)⟩
section
variable {fs : Tbl} [Has fs 0 f0] [Has fs 1 f1] {n : Nat} {st : Sto}
theorem run_from (d : D) (lo hi : Int) : callF fs GG (n + 2) 1 [.d d, .d (.int lo), .d (.int hi)] st = .ok (.d (.bool (fromB lo hi d))) st := by
  rw [callF_of rfl]
  cases hd : wholeB d with
  | false => cases d <;> simp [wholeB, isTy] at hd <;> simp [f1, startE, run_whole, wholeB, isTy, fromB]
  | true =>
    obtain ⟨j, rfl⟩ := wholeB_of hd
    by_cases h1 : lo ≤ j <;> simp [f1, startE, run_whole, wholeB, isTy, fromB, h1]
end
/-- number 13: rims_of -/
def f13_c0 : TB.E := .lc (.bin .Add (.slc (.var 0) .no (.yes (.var 1))) (.slc (.var 0) (.yes (.bin .Add (.var 1) (.cn (.int 1)))) .no)) (.nm 1) (.r1 (.bi .len (.cons (.var 0) .nil))) [1] .no
def f13 : TB.Fn := ⟨1, 2, (.cons (.ife (.cmp .Eq (.bi .len (.cons (.var 0) .nil)) (.cn (.int 1))) (.cons (.ret (.lst .nil)) .nil) .nil) (.cons (.ret f13_c0) .nil))⟩
section
variable {fs : Tbl} [Has fs 13 f13] {n : Nat} {st : Sto}
theorem run_rims (f : Face) (hf : f.length ≤ 1000) : callF fs GG (n + 1) 13 [.d (fc f)] st = .ok (.d (.list ((rims f).map fc))) st := by
  rw [callF_of rfl]
  have h1 : smallB f.length = true := by simp [smallB]; omega
  have h2 : ∀ k, min k f.length + (f.length - (k + 1)) ≤ LIM := fun k => by unfold LIM; omega
  by_cases h : f.length = 1
  · simp [f13, startE, h, rims]
  · have h' : ¬ (f.length : Int) = 1 := by omega
    simp [f13, f13_c0, startE, h', h, rims, h1, h2]
end
end TB
set_option maxRecDepth 100000
set_option maxHeartbeats 2000000
namespace TB
open PySem PySem.W
/-! LBlock: what faces and blocks are. -/
/-- each is less than the next -/
def adj {α : Type} (lt : α → α → Bool) (L : List α) : Bool := (L.zip (L.drop 1)).all fun p => lt p.1 p.2
theorem adj_cons {α : Type} (lt : α → α → Bool) (a b : α) (L : List α) : adj lt (a :: b :: L) = (lt a b && adj lt (b :: L)) := rfl
theorem adj_pw {α : Type} {lt : α → α → Bool} (tr : ∀ a b c, lt a b = true → lt b c = true → lt a c = true) : ∀ {L : List α}, adj lt L = true ↔ L.Pairwise fun a b => lt a b = true
  | [] => by simp [adj]
  | [a] => by simp [adj]
  | a :: b :: L => by
    rw [adj_cons, Bool.and_eq_true, adj_pw tr (L := b :: L), List.pairwise_cons (a := a)]
    constructor
    · rintro ⟨h1, h2⟩
      refine ⟨fun c hc => ?_, h2⟩
      rcases List.mem_cons.mp hc with rfl | hc
      · exact h1
      · exact tr a b c h1 ((List.pairwise_cons.mp h2).1 c hc)
    · rintro ⟨h1, h2⟩
      exact ⟨h1 b (List.mem_cons_self ..), h2⟩
def ltI (a b : Int) : Bool := decide (a < b)
def ltF (a b : Face) : Bool := decide (a < b)
theorem ltF_tr (a b c : Face) (h1 : ltF a b = true) (h2 : ltF b c = true) : ltF a c = true := by
  simp only [ltF, decide_eq_true_eq] at *
  exact List.lt_trans h1 h2
/-- a face -/
def isF (f : Face) : Bool := decide (1 ≤ f.length) && decide (f.length ≤ 5) && f.all (fun i => decide (0 ≤ i) && decide (i ≤ 9)) && adj ltI f
def faceOf : D → Option Face
  | .tuple xs => match intsD xs with
    | some f => if isF f then some f else none
    | none => none
  | _ => none
theorem ints_of' : ∀ {xs : List D} {f : List Int}, intsD xs = some f → xs = f.map .int
  | [], f, h => by cases h; rfl
  | x :: xs, f, h => by
    cases x <;> simp only [intsD] at h <;> try (cases h; done)
    rw [Option.map_eq_some_iff] at h
    obtain ⟨g, hg, rfl⟩ := h
    rw [ints_of' hg]
    rfl
theorem faceOf_some {d : D} {f : Face} : faceOf d = some f ↔ d = fc f ∧ isF f = true := by
  constructor
  · intro h
    cases d <;> simp only [faceOf] at h <;> try (cases h; done)
    split at h
    · rename_i xs g hg
      split at h
      · rename_i hF
        cases h
        exact ⟨by rw [ints_of' hg]; rfl, hF⟩
      · cases h
    · cases h
  · rintro ⟨rfl, h⟩
    simp [fc, faceOf, h]
theorem faceOf_fc (f : Face) : faceOf (fc f) = if isF f = true then some f else none := by simp [fc, faceOf]
def faceB (d : D) : Bool := (faceOf d).isSome
theorem faceB_no {xs : List D} (h : ∀ f, xs = f.map .int → isF f = false) : faceB (.tuple xs) = false := by
  unfold faceB
  cases e : faceOf (.tuple xs) with
  | none => rfl
  | some f =>
    obtain ⟨e1, e2⟩ := faceOf_some.mp e
    rw [h f (by simpa [fc] using e1)] at e2
    cases e2
theorem faceB_fc (f : Face) : faceB (fc f) = isF f := by
  unfold faceB
  rw [faceOf_fc]
  split
  · rename_i h; rw [h]; rfl
  · rename_i h
    rw [Bool.not_eq_true] at h
    rw [h]; rfl
theorem from_ints {lo hi : Int} : ∀ {xs : List D}, xs.all (fromB lo hi) = true → ∃ f : List Int, xs = f.map .int ∧ f.all (fun i => decide (lo ≤ i) && decide (i ≤ hi)) = true
  | [], _ => ⟨[], rfl, rfl⟩
  | x :: xs, h => by
    rw [List.all_cons, Bool.and_eq_true] at h
    obtain ⟨f, rfl, h2⟩ := from_ints h.2
    have h1 := h.1
    cases x <;> simp only [fromB] at h1 <;> try (cases h1; done)
    rename_i k
    exact ⟨k :: f, rfl, by rw [List.all_cons, h1, h2]; rfl⟩
theorem from_map {lo hi : Int} (f : List Int) : (f.map PyData.int).all (fromB lo hi) = f.all (fun i => decide (lo ≤ i) && decide (i ≤ hi)) := by
  rw [List.all_map]
  rfl
/-- number 2: are_rising -/
def f2_c0 : TB.E := .lc (.cmp .Lt (.var 1) (.var 2)) (.tp [1, 2]) (.z2 (.var 0) (.slc (.var 0) (.yes (.cn (.int 1))) .no)) [1, 2] .no
def f2_a0 : TB.E := .bi .all (.cons f2_c0 .nil)
def f2 : TB.Fn := ⟨1, 3, (.cons (.ret f2_a0) .nil)⟩
section
variable {fs : Tbl} [Has fs 2 f2] {n : Nat} {st : Sto}
theorem run_rise_i (f : List Int) : callF fs GG (n + 1) 2 [.d (.tuple (f.map .int))] st = .ok (.d (.bool (adj ltI f))) st := by
  rw [callF_of rfl]
  simp [f2, f2_a0, f2_c0, startE, zipD, ← List.map_drop, adj, ltI]
theorem run_rise_fc (f : Face) : callF fs GG (n + 1) 2 [.d (fc f)] st = .ok (.d (.bool (adj ltI f))) st := run_rise_i f
theorem run_rise_f (L : Bk) : callF fs GG (n + 1) 2 [.d (.tuple (L.map fc))] st = .ok (.d (.bool (adj ltF L))) st := by
  rw [callF_of rfl]
  simp [f2, f2_a0, f2_c0, startE, zipD, ← List.map_drop, adj, ltF]
theorem run_rise_p (L : Pg) : callF fs GG (n + 1) 2 [.d (.tuple (L.map pr))] st = .ok (.d (.bool (adj prLt L))) st := by
  rw [callF_of rfl]
  simp [f2, f2_a0, f2_c0, startE, zipD, ← List.map_drop, adj]
end
/-- number 3: a_face -/
def f3_c0 : TB.E := .lc (.call 1 (.cons (.var 1) (.cons (.cn (.int 0)) (.cons (.glob 0) .nil)))) (.nm 1) (.e (.var 0)) [1] .no
def f3_a0 : TB.E := .bi .all (.cons f3_c0 .nil)
def f3 : TB.Fn := ⟨1, 2, (.cons (.ife (.or (.not (.isin (.var 0) .tuple)) (.not (.chain .LtE .LtE (.cn (.int 1)) (.bi .len (.cons (.var 0) .nil)) (.glob 1)))) (.cons (.ret (.cn (.bool false))) .nil) .nil) (.cons (.ret (.and f3_a0 (.call 2 (.cons (.var 0) .nil)))) .nil))⟩
section
variable {fs : Tbl} [Has fs 2 f2] [Has fs 0 f0] [Has fs 1 f1] [Has fs 3 f3] {n : Nat} {st : Sto}
@[simp] theorem gg0 : GG[0]? = some (.int 9) := rfl
@[simp] theorem gg1 : GG[1]? = some (.int 5) := rfl
@[simp] theorem gg2 : GG[2]? = some (.int 60) := rfl
@[simp] theorem gg3 : GG[3]? = some (.int 100) := rfl
@[simp] theorem gg4 : GG[4]? = some (.int 10) := rfl
@[simp] theorem gg5 : GG[5]? = some (.int 100) := rfl
theorem run_face (d : D) : callF fs GG (n + 3) 3 [.d d] st = .ok (.d (.bool (faceB d))) st := by
  rw [callF_of rfl]
  cases ht : isTy .tuple d with
  | false =>
    have hf : faceB d = false := by cases d <;> first | rfl | cases ht
    simp [f3, startE, ht, hf]
  | true =>
    obtain ⟨xs, rfl⟩ : ∃ xs, d = .tuple xs := by cases d <;> first | exact ⟨_, rfl⟩ | cases ht
    by_cases l1 : 1 ≤ xs.length
    · by_cases l2 : xs.length ≤ 5
      · have l1' : (1 : Int) ≤ xs.length := by omega
        have l2' : (xs.length : Int) ≤ 5 := by omega
        have hc : ev (callF fs GG (n + 2)) GG f3_a0 [some (.d (.tuple xs)), none] st = .ok (.d (.bool (xs.all (fromB 0 9)))) st := by
          simp [f3_a0, f3_c0, run_from]
        cases ha : xs.all (fromB 0 9) with
        | false =>
          have hf : faceB (.tuple xs) = false := faceB_no fun f e => by
            subst e
            rw [from_map] at ha
            simp [isF, ha]
          simp [f3, startE, hc, ha, l1', l2', hf]
        | true =>
          obtain ⟨f, rfl, h2⟩ := from_ints ha
          have hf : faceB (.tuple (f.map .int)) = adj ltI f := by
            rw [fc_tup, faceB_fc]
            rw [List.length_map] at l1 l2
            simp [isF, h2, l1, l2]
          rw [List.length_map] at l1' l2'
          simp only [f3, startE]
          rw [ha] at hc
          simp [hc, l1', l2', run_rise_i, hf]
      · have hf : faceB (.tuple xs) = false := faceB_no fun f e => by
          subst e
          rw [List.length_map] at l2
          simp [isF, l2]
        have l2' : ¬ (xs.length : Int) ≤ 5 := by omega
        simp [f3, startE, l2', hf]
    · have hf : faceB (.tuple xs) = false := faceB_no fun f e => by
        subst e
        rw [List.length_map] at l1
        simp [isF, l1]
      have l1' : ¬ (1 : Int) ≤ xs.length := by omega
      simp [f3, startE, l1', hf]
end
/-- all faces of a tuple -/
def facesOf : List D → Option Bk
  | [] => some []
  | x :: xs => (faceOf x).bind fun f => (facesOf xs).map (f :: ·)
theorem facesOf_some : ∀ {xs : List D} {B : Bk}, facesOf xs = some B ↔ xs = B.map fc ∧ ∀ f ∈ B, isF f = true
  | [], B => by
    simp only [facesOf, Option.some.injEq]
    constructor
    · rintro rfl; simp
    · rintro ⟨h, _⟩; simpa using h
  | x :: xs, B => by
    simp only [facesOf, Option.bind_eq_some_iff, Option.map_eq_some_iff, faceOf_some]
    constructor
    · rintro ⟨f, ⟨rfl, hf⟩, C, hC, rfl⟩
      obtain ⟨rfl, h2⟩ := facesOf_some.mp hC
      exact ⟨rfl, by simpa [hf] using h2⟩
    · rintro ⟨h1, h2⟩
      cases B with
      | nil => cases h1
      | cons f B =>
        rw [List.map_cons, List.cons.injEq] at h1
        refine ⟨f, ⟨h1.1, h2 f (List.mem_cons_self ..)⟩, B, facesOf_some.mpr ⟨h1.2, fun g hg => h2 g (List.mem_cons_of_mem _ hg)⟩, rfl⟩
theorem facesOf_all (xs : List D) : xs.all faceB = (facesOf xs).isSome := by
  induction xs with
  | nil => rfl
  | cons x xs ih =>
    rw [List.all_cons, ih, facesOf]
    unfold faceB
    cases faceOf x <;> cases facesOf xs <;> rfl
theorem facesOf_fc (B : Bk) (h : ∀ f ∈ B, isF f = true) : facesOf (B.map fc) = some B := facesOf_some.mpr ⟨rfl, h⟩
/-- each rim of each is in it -/
def whole (B : Bk) : Bool := B.all fun f => (rims f).all fun r => decide (r ∈ B)
def blkB (B : Bk) : Bool := decide (1 ≤ B.length) && decide (B.length ≤ 60) && adj ltF B && whole B
def blockB : D → Bool
  | .tuple xs => match facesOf xs with
    | some B => blkB B
    | none => false
  | _ => false
/-- a block, or no face at all -/
structure IsCl (B : Bk) : Prop where
  face : ∀ f ∈ B, isF f = true
  few : B.length ≤ 60
  rise : B.Pairwise fun a b => ltF a b = true
  whole : ∀ f ∈ B, ∀ r ∈ rims f, r ∈ B
structure IsBk (B : Bk) : Prop extends IsCl B where
  one : 1 ≤ B.length
theorem IsCl.nd {B : Bk} (h : IsCl B) : B.Nodup := h.rise.imp fun {a b} q e => by
  subst e
  simp only [ltF, decide_eq_true_eq] at q
  exact List.lt_irrefl _ q
theorem IsBk.nd {B : Bk} (h : IsBk B) : B.Nodup := h.toIsCl.nd
theorem blockB_of {B : Bk} (h : IsBk B) : blockB (.tuple (B.map fc)) = true := by
  unfold blockB
  simp only [facesOf_fc B h.face]
  unfold blkB TB.whole
  rw [(adj_pw ltF_tr).mpr h.rise, decide_eq_true h.one, decide_eq_true h.few, Bool.true_and, Bool.true_and, Bool.true_and, List.all_eq_true]
  intro f hf
  rw [List.all_eq_true]
  intro r hr
  exact decide_eq_true (h.whole f hf r hr)
theorem blockB_is {d : D} (h : blockB d = true) : ∃ B, d = .tuple (B.map fc) ∧ IsBk B := by
  cases d <;> simp only [blockB] at h <;> try (cases h; done)
  split at h
  · rename_i xs B hB
    obtain ⟨rfl, hF⟩ := facesOf_some.mp hB
    simp only [blkB, Bool.and_eq_true, decide_eq_true_eq, TB.whole, List.all_eq_true] at h
    exact ⟨B, rfl, ⟨hF, h.1.1.2, (adj_pw ltF_tr).mp h.1.2, h.2⟩, h.1.1.1⟩
  · cases h
theorem isF_len {f : Face} (h : isF f = true) : 1 ≤ f.length ∧ f.length ≤ 5 := by
  simp only [isF, Bool.and_eq_true, decide_eq_true_eq] at h
  exact h.1.1
theorem isF_ne {f : Face} (h : isF f = true) : f ≠ [] := by
  have := (isF_len h).1
  intro e
  subst e
  simp at this
theorem look_const {β : Type} (b : β) (f : Face) : ∀ B : Bk, ((B.map fun g => (g, b)).lookup f).isSome = decide (f ∈ B)
  | [] => rfl
  | g :: B => by
    rw [List.map_cons, List.lookup_cons]
    by_cases e : f = g
    · subst e
      simp
    · have e2 : (f == g) = false := by simpa using e
      rw [e2]
      simp only
      rw [look_const b f B]
      simp [e]
/-- number 14: a_block -/
def f14_c0 : TB.E := .lc (.cmp .In (.var 4) (.var 1)) (.nm 4) (.e (.call 13 (.cons (.var 2) .nil))) [4] .no
def f14_a0 : TB.E := .bi .all (.cons f14_c0 .nil)
def f14_c1 : TB.E := .lc f14_a0 (.nm 2) (.e (.var 0)) [2] .no
def f14_a1 : TB.E := .bi .all (.cons f14_c1 .nil)
def f14_c2 : TB.E := .lc (.tup (.cons (.var 2) (.cons (.cn (.bool true)) .nil))) (.nm 2) (.e (.var 0)) [2] .no
def f14_a2 : TB.E := .bi .dict (.cons f14_c2 .nil)
def f14_c3 : TB.E := .lc (.call 3 (.cons (.var 3) .nil)) (.nm 3) (.e (.var 0)) [3] .no
def f14_a3 : TB.E := .bi .all (.cons f14_c3 .nil)
def f14 : TB.Fn := ⟨1, 5, (.cons (.ife (.or (.not (.isin (.var 0) .tuple)) (.not (.chain .LtE .LtE (.cn (.int 1)) (.bi .len (.cons (.var 0) .nil)) (.glob 2)))) (.cons (.ret (.cn (.bool false))) .nil) .nil) (.cons (.ife (.or (.not f14_a3) (.not (.call 2 (.cons (.var 0) .nil)))) (.cons (.ret (.cn (.bool false))) .nil) .nil) (.cons (.asg 1 f14_a2 false) (.cons (.ret f14_a1) .nil))))⟩
section
variable {fs : Tbl} [Has fs 2 f2] [Has fs 0 f0] [Has fs 1 f1] [Has fs 3 f3] [Has fs 13 f13] [Has fs 14 f14] {n : Nat} {st : Sto}
theorem run_block (d : D) : callF fs GG (n + 4) 14 [.d d] st = .ok (.d (.bool (blockB d))) st := by
  rw [callF_of rfl]
  cases ht : isTy .tuple d with
  | false =>
    have hf : blockB d = false := by cases d <;> first | rfl | cases ht
    simp [f14, startE, ht, hf]
  | true =>
    obtain ⟨xs, rfl⟩ : ∃ xs, d = .tuple xs := by cases d <;> first | exact ⟨_, rfl⟩ | cases ht
    by_cases l1 : 1 ≤ xs.length ∧ xs.length ≤ 60
    · obtain ⟨l1, l2⟩ := l1
      have l1' : (1 : Int) ≤ xs.length := by omega
      have l2' : (xs.length : Int) ≤ 60 := by omega
      have hc : ev (callF fs GG (n + 3)) GG f14_a3 [some (.d (.tuple xs)), none, none, none, none] st = .ok (.d (.bool (xs.all faceB))) st := by
        simp [f14_a3, f14_c3, run_face]
      cases ha : facesOf xs with
      | none =>
        have hf : blockB (.tuple xs) = false := by simp [blockB, ha]
        rw [facesOf_all, ha] at hc
        simp [f14, startE, hc, l1', l2', hf]
      | some B =>
        rw [facesOf_all, ha] at hc
        have hf : blockB (.tuple xs) = blkB B := by simp [blockB, ha]
        obtain ⟨rfl, hF⟩ := facesOf_some.mp ha
        rw [List.length_map] at l1 l2 l1' l2'
        cases hr : adj ltF B with
        | false =>
          simp [f14, startE, hc, l1', l2', run_rise_f, hf, blkB, hr]
        | true =>
          have nd : (B.map fun f => f).Nodup := by
            rw [List.map_id']
            refine ((adj_pw ltF_tr).mp hr).imp fun {a b} q e => ?_
            subst e
            simp only [ltF, decide_eq_true_eq] at q
            exact List.lt_irrefl _ q
          have hd : ev (callF fs GG (n + 3)) GG f14_a2 [some (.d (.tuple (B.map fc))), none, none, none, none] st = .ok (.d (.dict (rows PyData.bool (B.map fun f => (f, true))))) st := by
            have := dict_map PyData.bool (fun f : Face => f) (fun _ => true) B nd
            simp [f14_a2, f14_c2, this]
          have hw : ev (callF fs GG (n + 3)) GG f14_a1 [some (.d (.tuple (B.map fc))), some (.d (.dict (rows PyData.bool (B.map fun f => (f, true))))), none, none, none] st = .ok (.d (.bool (whole B))) st := by
            have key : ev (callF fs GG (n + 3)) GG f14_c1 [some (.d (.tuple (B.map fc))), some (.d (.dict (rows PyData.bool (B.map fun f => (f, true))))), none, none, none] st = .ok (.d (.list (B.map fun f => .bool ((rims f).all fun r => decide (r ∈ B))))) st := by
              simp only [f14_c1, ev_lc, evI_e, ev_var, List.getElem?_cons_zero, Res.bind_ok, val_d, seq_t, ofO_some, compL_map]
              rw [compL_all (g := fun f => .bool ((rims f).all fun r => decide (r ∈ B)))]
              · rfl
              · intro f hf2
                have := (isF_len (hF f hf2)).2
                have h1000 : f.length ≤ 1000 := by omega
                simp [f14_a0, f14_c0, run_rims f h1000, look_const]
            simp [f14_a1, key, whole]
          simp [f14, startE, hc, l1', l2', run_rise_f, hr, hd, hw, hf, blkB, l1, l2]
    · have hf : blockB (.tuple xs) = false := by
        unfold blockB
        simp only
        split
        · rename_i B hB
          obtain ⟨rfl, _⟩ := facesOf_some.mp hB
          rw [List.length_map] at l1
          unfold blkB
          rw [Bool.and_assoc, Bool.and_assoc, ← Bool.and_assoc (decide _)]
          have : (decide (1 ≤ B.length) && decide (B.length ≤ 60)) = false := by simpa using l1
          rw [this]
          rfl
        · rfl
      by_cases q1 : 1 ≤ xs.length
      · have q2 : ¬ (xs.length : Int) ≤ 60 := by omega
        simp [f14, startE, q2, hf]
      · have q2 : ¬ (1 : Int) ≤ xs.length := by omega
        simp [f14, startE, q2, hf]
end
/-- number 24: need_block -/
def f24 : TB.Fn := ⟨1, 1, (.cons (.ife (.not (.call 14 (.cons (.var 0) .nil))) (.cons (.rais 1 .nil) .nil) .nil) .nil)⟩
section
variable {fs : Tbl} [Has fs 2 f2] [Has fs 0 f0] [Has fs 1 f1] [Has fs 3 f3] [Has fs 13 f13] [Has fs 14 f14] [Has fs 24 f24] {n : Nat} {st : Sto}
theorem run_needB {B : Bk} (h : IsBk B) : callF fs GG (n + 5) 24 [.d (.tuple (B.map fc))] st = .ok (.d .none) st := by
  rw [callF_of rfl]
  simp [f24, startE, run_block, blockB_of h]
end
/-- number 38: faces_of -/
def f38_c0 : TB.E := .lc (.var 2) (.nm 2) (.e (.var 0)) [2] (.yes (.cmp .Eq (.bi .len (.cons (.var 2) .nil)) (.var 1)))
def f38 : TB.Fn := ⟨2, 3, (.cons (.ret f38_c0) .nil)⟩
section
variable {fs : Tbl} [Has fs 38 f38] {n : Nat} {st : Sto}
/-- the faces of so many points -/
def sized (B : Bk) (k : Int) : Bk := B.filter fun f => decide ((f.length : Int) = k)
theorem run_facesOf (B : Bk) (k : Int) : callF fs GG (n + 1) 38 [.d (.tuple (B.map fc)), .d (.int k)] st = .ok (.d (.list ((sized B k).map fc))) st := by
  rw [callF_of rfl]
  simp [f38, f38_c0, startE, sized]
theorem run_facesOfL (B : Bk) (k : Int) : callF fs GG (n + 1) 38 [.d (.list (B.map fc)), .d (.int k)] st = .ok (.d (.list ((sized B k).map fc))) st := by
  rw [callF_of rfl]
  simp [f38, f38_c0, startE, sized]
end
/-- number 39: most_points -/
def f39_c0 : TB.E := .lc (.bi .len (.cons (.var 1) .nil)) (.nm 1) (.e (.var 0)) [1] .no
def f39_a0 : TB.E := .bi .max (.cons f39_c0 .nil)
def f39 : TB.Fn := ⟨1, 2, (.cons (.ret f39_a0) .nil)⟩
section
variable {fs : Tbl} [Has fs 39 f39] {n : Nat} {st : Sto}
def most (B : Bk) : Nat := (B.map List.length).foldr max 0
theorem max_nat : ∀ (L : List Nat), L ≠ [] → (L.map fun k : Nat => (k : Int)).max? = some ((L.foldr max 0 : Nat) : Int)
  | [k], _ => by simp
  | a :: b :: L, _ => by
    have ih := max_nat (b :: L) (by simp)
    rw [List.map_cons, List.max?_cons, ih]
    simp only [Option.elim_some, List.foldr_cons]
    congr 1
    omega
theorem bi_maxI {α : Type} (f : α → Int) (L : List α) : biD .max [.list (L.map fun x => .int (f x))] = ((L.map f).max?).map .int := by
  show ((intsD _).bind fun ns => ns.max?.map PyData.int) = _
  rw [ints_mapF]
  rfl
theorem run_most {B : Bk} (h : B ≠ []) : callF fs GG (n + 1) 39 [.d (.tuple (B.map fc))] st = .ok (.d (.int (most B))) st := by
  rw [callF_of rfl]
  have e : (B.map fun f : Face => (f.length : Int)).max? = some ((most B : Nat) : Int) := by
    have := max_nat (B.map List.length) (by simpa using h)
    rw [List.map_map] at this
    exact this
  simp [f39, f39_a0, f39_c0, startE, bi_maxI, e]
end
end TB
set_option maxRecDepth 100000
set_option maxHeartbeats 2000000
namespace TB
open PySem PySem.W
/-! LDraw: pens and draws, cells. -/
abbrev Pen := Int × Int
def penO (P : Pen) : Ob := .lst [.int P.1, .int P.2]
def isPen (st : Sto) (a : Nat) : Bool := match st[a]? with
  | some (.lst [.int _, .int _]) => true
  | _ => false
def penAt (st : Sto) (a : Nat) : Pen := match st[a]? with
  | some (.lst [.int p, .int f]) => (p, f)
  | _ => (0, 0)
theorem pen_get {st : Sto} {a : Nat} (h : isPen st a = true) : st[a]? = some (penO (penAt st a)) := by
  unfold isPen at h
  unfold penAt penO
  split at h
  · rename_i p f e
    rw [e]
  · cases h
theorem pen_lt {st : Sto} {a : Nat} (h : isPen st a = true) : a < st.length := (List.getElem?_eq_some_iff.mp (pen_get h)).1
@[simp] theorem isPen_set {st : Sto} {a : Nat} (h : isPen st a = true) (P : Pen) : isPen (st.set a (penO P)) a = true := by
  unfold isPen
  rw [List.getElem?_set_self (pen_lt h)]
  rfl
@[simp] theorem penAt_set {st : Sto} {a : Nat} (h : isPen st a = true) (P : Pen) : penAt (st.set a (penO P)) a = P := by
  unfold penAt
  rw [List.getElem?_set_self (pen_lt h)]
  rfl
@[simp] theorem isPen_app {st l : Sto} {a : Nat} (h : isPen st a = true) : isPen (st ++ l) a = true := by
  unfold isPen at h ⊢
  rwa [List.getElem?_append_left (pen_lt h)]
@[simp] theorem penAt_app {st l : Sto} {a : Nat} (h : isPen st a = true) : penAt (st ++ l) a = penAt st a := by
  unfold penAt
  rw [List.getElem?_append_left (pen_lt h)]
@[simp] theorem set_pen_app {st l : Sto} {a : Nat} (h : isPen st a = true) (P : Pen) : (st ++ l).set a (penO P) = st.set a (penO P) ++ l := List.set_append_left _ _ (pen_lt h)
@[simp] theorem isPen_new (st : Sto) (P : Pen) (l : Sto) : isPen (st ++ penO P :: l) st.length = true := by simp [isPen, penO]
@[simp] theorem penAt_new (st : Sto) (P : Pen) (l : Sto) : penAt (st ++ penO P :: l) st.length = P := by simp [penAt, penO]
def stir (p : Int) : Int := ((((p % 2147483647 + 40503) * 69621 % 2147483629) * ((p % 2147483647 + 40503) * 69621 % 2147483629) + 7817) % 2147483587 * 48271 + 11) % 2147483629
def drawV (P : Pen) (m : Int) : Int := if P.2 = 1 then P.1 % m else stir P.1 / 32 % m
def drawP (P : Pen) (m : Int) : Pen := if P.2 = 1 then (P.1 / m, P.2) else (stir P.1, P.2)
theorem drawV_lt (P : Pen) {m : Int} (hm : 0 < m) : 0 ≤ drawV P m ∧ drawV P m < m := by
  unfold drawV
  split <;> exact ⟨Int.emod_nonneg _ (by omega), Int.emod_lt_of_pos _ hm⟩
/-- number 5: law_draw -/
def f5 : TB.Fn := ⟨2, 5, (.cons (.ife (.cmp .Eq (.idx (.var 0) (.cn (.int 1))) (.cn (.int 1))) (.cons (.asgT [3, 4] (.bi .divmod (.cons (.idx (.var 0) (.cn (.int 0))) (.cons (.var 1) .nil)))) (.cons (.seti 0 (.cn (.int 0)) (.var 3)) (.cons (.ret (.var 4)) .nil))) .nil) (.cons (.asg 2 (.bin .Mod (.bin .Mult (.bin .Add (.bin .Mod (.idx (.var 0) (.cn (.int 0))) (.cn (.int 2147483647))) (.cn (.int 40503))) (.cn (.int 69621))) (.cn (.int 2147483629))) false) (.cons (.asg 2 (.bin .Mod (.bin .Add (.bin .Mult (.var 2) (.var 2)) (.cn (.int 7817))) (.cn (.int 2147483587))) false) (.cons (.seti 0 (.cn (.int 0)) (.bin .Mod (.bin .Add (.bin .Mult (.var 2) (.cn (.int 48271))) (.cn (.int 11))) (.cn (.int 2147483629)))) (.cons (.ret (.bin .Mod (.bin .FloorDiv (.idx (.var 0) (.cn (.int 0))) (.cn (.int 32))) (.var 1))) .nil)))))⟩
section
variable {fs : Tbl} [Has fs 5 f5] {n : Nat} {st : Sto}
theorem run_draw {a : Nat} {m : Int} (h : isPen st a = true) (h1 : 0 < m) (h2 : m < 1073741824) : callF fs GG (n + 1) 5 [.r a, .d (.int m)] st = .ok (.d (.int (drawV (penAt st a) m))) (st.set a (penO (drawP (penAt st a) m))) := by
  rw [callF_of rfl]
  have hg := pen_get h
  generalize penAt st a = P at hg ⊢
  obtain ⟨p, f⟩ := P
  have hl := pen_lt h
  have pk : peek (.r a) st = some (.list [.int p, .int f]) := by simp [peek, hg, penO]
  have p0 : TB.placeOf 2 0 = some 0 := by decide
  have p1 : TB.placeOf 2 1 = some 1 := by decide
  have ch : ∀ (σ : Ev) (v : Int), σ[0]? = some (some (.r a)) → change σ 0 (fun ob => setSlot ob (.int 0) (.int v)) st = some (st.set a (penO (v, f))) := fun σ v e => by
    simp [change, atVar, e, hg, setSlot, p0, penO]
  by_cases e : f = 1
  · subst e
    simp [f5, startE, pk, p1, p0, h1, h2, atVar, ch, drawV, drawP]
  · obtain ⟨s1, hs1⟩ : ∃ s1, s1 = (p % 2147483647 + 40503) * 69621 % 2147483629 := ⟨_, rfl⟩
    have b1 : 0 ≤ s1 ∧ s1 < 2147483629 := by rw [hs1]; exact ⟨Int.emod_nonneg _ (by decide), Int.emod_lt_of_pos _ (by decide)⟩
    obtain ⟨s2, hs2⟩ : ∃ s2, s2 = (s1 * s1 + 7817) % 2147483587 := ⟨_, rfl⟩
    obtain ⟨s3, hs3⟩ : ∃ s3, s3 = (s2 * 48271 + 11) % 2147483629 := ⟨_, rfl⟩
    have m1 : mulOk (p % 2147483647 + 40503) 69621 = true := by simp [mulOk]
    have m2 : mulOk s1 s1 = true := by simp [mulOk]; omega
    have m3 : mulOk s2 48271 = true := by simp [mulOk]
    have pk3 : peek (.r a) (st.set a (penO (s3, f))) = some (.list [.int s3, .int f]) := by simp [peek, List.getElem?_set_self hl, penO]
    have e3 : stir p = s3 := by unfold stir; rw [← hs1, ← hs2, ← hs3]
    simp [f5, startE, pk, p1, p0, e, m1, ← hs1, m2, ← hs2, m3, ← hs3, atVar, ch, pk3, h1, drawV, drawP, e3]
end
/-- number 6: law_cell -/
def f6 : TB.Fn := ⟨2, 2, (.cons (.ife (.cmp .Lt (.var 1) (.bi .len (.cons (.var 0) .nil))) (.cons (.ret (.idx (.var 0) (.var 1))) .nil) .nil) (.cons (.ret (.cn (.int 0))) .nil))⟩
section
variable {fs : Tbl} [Has fs 6 f6] {n : Nat} {st : Sto}
theorem run_cell (ns : List Int) (k : Int) (hk : 0 ≤ k) : callF fs GG (n + 1) 6 [.d (.list (ns.map .int)), .d (.int k)] st = .ok (.d (.int (ns.getD k.toNat 0))) st := by
  rw [callF_of rfl]
  by_cases h : k < ns.length
  · have p : TB.placeOf ns.length k = some k.toNat := by unfold TB.placeOf; rw [if_pos hk, if_pos h]
    have : k.toNat < ns.length := by omega
    simp [f6, startE, h, p, this]
  · have e : ns.getD k.toNat 0 = 0 := by
      rw [List.getD_eq_getElem?_getD, List.getElem?_eq_none (by omega)]
      rfl
    rw [e]
    simp [f6, startE, h]
end
/-- number 7: law_pen -/
def f7 : TB.Fn := ⟨1, 2, (.cons (.asg 1 (.bi .max (.cons (.var 0) (.cons (.bin .Sub (.cn (.int 0)) (.var 0)) .nil))) false) (.cons (.retN (.lst (.cons (.var 1) (.cons (.bi .int (.cons (.cmp .GtE (.var 1) (.bin .Pow (.cn (.int 10)) (.cn (.int 18)))) .nil)) .nil)))) .nil))⟩
section
variable {fs : Tbl} [Has fs 7 f7] {n : Nat} {st : Sto}
def penOf (c : Int) : Pen := (if 0 - c > c then 0 - c else c, if (10 : Int) ^ 18 ≤ (if 0 - c > c then 0 - c else c) then 1 else 0)
theorem run_pen (c : Int) : callF fs GG (n + 1) 7 [.d (.int c)] st = .ok (.r st.length) (st ++ [penO (penOf c)]) := by
  rw [callF_of rfl]
  have hp : powOk 10 18 = true := by decide
  simp [f7, startE, hp, freshE, newOb, penO, penOf]
end
/-- so many draws -/
def drawN (m : Int) : Nat → Pen → List Int × Pen
  | 0, P => ([], P)
  | k + 1, P => (drawV P m :: (drawN m k (drawP P m)).1, (drawN m k (drawP P m)).2)
theorem drawN_len (m : Int) : ∀ (k : Nat) (P : Pen), (drawN m k P).1.length = k
  | 0, _ => rfl
  | k + 1, P => by rw [drawN, List.length_cons, drawN_len m k]
theorem drawN_lt {m : Int} (hm : 0 < m) : ∀ (k : Nat) (P : Pen), ∀ v ∈ (drawN m k P).1, 0 ≤ v ∧ v < m
  | 0, _ => by intro v hv; cases hv
  | k + 1, P => by
    intro v hv
    rw [drawN] at hv
    rcases List.mem_cons.mp hv with rfl | hv
    · exact drawV_lt P hm
    · exact drawN_lt hm k _ v hv
/-- draws in a row, told by a step -/
theorem compL_draws {α : Type} {step : α → Sto → Res (Option D)} {a : Nat} {m : Int} {s0 : Sto} (h0 : isPen s0 a = true) (hs : ∀ x P, step x (s0.set a (penO P)) = .ok (some (.int (drawV P m))) (s0.set a (penO (drawP P m)))) : ∀ (xs : List α) (P : Pen),
    compL step xs (s0.set a (penO P)) = .ok ((drawN m xs.length P).1.map .int) (s0.set a (penO (drawN m xs.length P).2))
  | [], P => rfl
  | x :: xs, P => by
    rw [compL_cons, hs, Res.bind_ok, compL_draws h0 hs xs, Res.bind_ok]
    rfl
theorem set_self {st : Sto} {a : Nat} (h : isPen st a = true) : st.set a (penO (penAt st a)) = st := by
  have hl := pen_lt h
  have hg := pen_get h
  rw [List.getElem?_eq_getElem hl] at hg
  rw [← Option.some.inj hg]
  exact List.set_getElem_self hl
end TB
set_option maxRecDepth 100000
set_option maxHeartbeats 2000000
namespace TB
open PySem PySem.W
/-! LClosed: all parts of some faces. -/
def subStep (F : Bk) (p : Int) : Bk := F ++ F.map fun g => g ++ [p]
def subs (f : Face) : Bk := f.foldl subStep [[]]
def parts (f : Face) : Bk := (subs f).drop 1
theorem mem_fold_subs : ∀ (f : Face) (F : Bk) (g : Face), g ∈ f.foldl subStep F ↔ ∃ a ∈ F, ∃ b, b.Sublist f ∧ g = a ++ b
  | [], F, g => by
    simp only [List.foldl_nil]
    constructor
    · intro h; exact ⟨g, h, [], List.Sublist.refl _, by simp⟩
    · rintro ⟨a, ha, b, hb, rfl⟩
      rw [List.sublist_nil.mp hb, List.append_nil]
      exact ha
  | p :: f, F, g => by
    rw [List.foldl_cons, mem_fold_subs f]
    constructor
    · rintro ⟨a, ha, b, hb, rfl⟩
      rw [subStep, List.mem_append, List.mem_map] at ha
      rcases ha with ha | ⟨c, hc, rfl⟩
      · exact ⟨a, ha, b, hb.cons p, rfl⟩
      · exact ⟨c, hc, p :: b, hb.cons_cons p, by simp⟩
    · rintro ⟨a, ha, b, hb, rfl⟩
      cases hb with
      | cons _ h => exact ⟨a, List.mem_append_left _ ha, b, h, rfl⟩
      | cons_cons _ h => exact ⟨a ++ [p], List.mem_append_right _ (List.mem_map.mpr ⟨a, ha, rfl⟩), _, h, by simp⟩
theorem mem_subs (f g : Face) : g ∈ subs f ↔ g.Sublist f := by
  unfold subs
  rw [mem_fold_subs]
  constructor
  · rintro ⟨a, ha, b, hb, rfl⟩
    rw [List.mem_singleton] at ha
    subst ha
    simpa using hb
  · intro h
    exact ⟨[], List.mem_singleton.mpr rfl, g, h, by simp⟩
theorem fold_subs_len : ∀ (f : Face) (F : Bk), (f.foldl subStep F).length = 2 ^ f.length * F.length
  | [], F => by simp
  | p :: f, F => by
    rw [List.foldl_cons, fold_subs_len f, subStep, List.length_append, List.length_map, List.length_cons, Nat.pow_succ]
    rw [Nat.mul_assoc]
    congr 1
    omega
theorem subs_len (f : Face) : (subs f).length = 2 ^ f.length := by simp [subs, fold_subs_len]
theorem fold_subs_head : ∀ (f : Face) (R : Bk), (∀ g ∈ R, g ≠ []) → ∃ R', f.foldl subStep ([] :: R) = [] :: R' ∧ ∀ g ∈ R', g ≠ []
  | [], R, h => ⟨R, rfl, h⟩
  | p :: f, R, h => by
    rw [List.foldl_cons]
    have e : subStep ([] :: R) p = [] :: (R ++ ([] :: R).map fun g => g ++ [p]) := rfl
    rw [e]
    refine fold_subs_head f _ fun g hg => ?_
    rcases List.mem_append.mp hg with hg | hg
    · exact h g hg
    · obtain ⟨c, _, rfl⟩ := List.mem_map.mp hg
      simp
theorem mem_parts (f g : Face) : g ∈ parts f ↔ g ≠ [] ∧ g.Sublist f := by
  obtain ⟨R, e, h⟩ := fold_subs_head f [] (by simp)
  have e' : subs f = [] :: R := e
  have hp : parts f = R := by unfold parts; rw [e']; rfl
  rw [hp]
  constructor
  · intro hg
    exact ⟨h g hg, (mem_subs f g).mp (by rw [e']; exact List.mem_cons_of_mem _ hg)⟩
  · rintro ⟨h1, h2⟩
    have := (mem_subs f g).mpr h2
    rw [e'] at this
    exact (List.mem_cons.mp this).resolve_left h1
/-- keys put in -/
def addKey (K : Bk) (g : Face) : Bk := if g ∈ K then K else K ++ [g]
theorem keys_put {β : Type} (m : List (Face × β)) (f : Face) (b : β) : (alPut m f b).map (·.1) = addKey (m.map (·.1)) f := by
  unfold alPut addKey
  by_cases h : f ∈ m.map (·.1)
  · rw [if_pos h, if_pos h, List.map_map]
    apply List.map_congr_left
    intro p _
    simp only [Function.comp]
    by_cases e : p.1 = f <;> simp [e]
  · rw [if_neg h, if_neg h]
    simp
theorem addKey_nd {K : Bk} (h : K.Nodup) (g : Face) : (addKey K g).Nodup := by
  unfold addKey
  split
  · exact h
  · rename_i n
    rw [List.nodup_append]
    refine ⟨h, by simp, fun a ha b hb => ?_⟩
    rw [List.mem_singleton] at hb
    subst hb
    intro e
    subst e
    exact n ha
theorem mem_addKey (K : Bk) (g x : Face) : x ∈ addKey K g ↔ x ∈ K ∨ x = g := by
  unfold addKey
  split
  · rename_i h
    constructor
    · exact .inl
    · rintro (h2 | rfl)
      · exact h2
      · exact h
  · simp
theorem addKeys_nd : ∀ (G : Bk) {K : Bk}, K.Nodup → (G.foldl addKey K).Nodup
  | [], _, h => h
  | g :: G, _, h => addKeys_nd G (addKey_nd h g)
theorem mem_addKeys : ∀ (G K : Bk) (x : Face), x ∈ G.foldl addKey K ↔ x ∈ K ∨ x ∈ G
  | [], K, x => by simp
  | g :: G, K, x => by
    rw [List.foldl_cons, mem_addKeys G, mem_addKey, List.mem_cons, or_assoc]
/-- all parts of some, each once, as they come -/
def keysOf (L : Bk) : Bk := L.foldl (fun K f => (parts f).foldl addKey K) []
theorem keys_fold_nd : ∀ (L : Bk) {K : Bk}, K.Nodup → (L.foldl (fun K f => (parts f).foldl addKey K) K).Nodup
  | [], _, h => h
  | f :: L, _, h => keys_fold_nd L (addKeys_nd _ h)
theorem mem_keys_fold : ∀ (L K : Bk) (x : Face), x ∈ L.foldl (fun K f => (parts f).foldl addKey K) K ↔ x ∈ K ∨ ∃ f ∈ L, x ∈ parts f
  | [], K, x => by simp
  | f :: L, K, x => by
    rw [List.foldl_cons, mem_keys_fold L, mem_addKeys]
    constructor
    · rintro ((h | h) | ⟨g, h1, h2⟩)
      · exact .inl h
      · exact .inr ⟨f, List.mem_cons_self .., h⟩
      · exact .inr ⟨g, List.mem_cons_of_mem _ h1, h2⟩
    · rintro (h | ⟨g, h1, h2⟩)
      · exact .inl (.inl h)
      · rcases List.mem_cons.mp h1 with rfl | h1
        · exact .inl (.inr h2)
        · exact .inr ⟨g, h1, h2⟩
theorem keysOf_nd (L : Bk) : (keysOf L).Nodup := keys_fold_nd L List.nodup_nil
theorem mem_keysOf (L : Bk) (x : Face) : x ∈ keysOf L ↔ ∃ f ∈ L, x ≠ [] ∧ x.Sublist f := by
  unfold keysOf
  rw [mem_keys_fold]
  simp [mem_parts]
/-! sorting -/
theorem leF_tot (a b : Face) : (leF a b || leF b a) = true := by
  unfold leF
  by_cases h : b < a
  · have : ¬ a < b := fun q => List.lt_irrefl _ (List.lt_trans h q)
    simp [this]
  · simp [h]
theorem leF_iff (a b : Face) : leF a b = true ↔ a ≤ b := by
  unfold leF
  rw [Bool.not_eq_true', decide_eq_false_iff_not]
  exact List.not_lt
theorem leF_tr (a b c : Face) (h1 : leF a b = true) (h2 : leF b c = true) : leF a c = true := by
  rw [leF_iff] at *
  exact List.le_trans h1 h2
theorem srt_perm (L : Bk) : (srt L).Perm L := List.mergeSort_perm _ _
theorem mem_srt {L : Bk} {f : Face} : f ∈ srt L ↔ f ∈ L := (srt_perm L).mem_iff
theorem srt_len (L : Bk) : (srt L).length = L.length := (srt_perm L).length_eq
theorem lt_of_le_ne {a b : Face} (h : leF a b = true) (n : a ≠ b) : ltF a b = true := by
  rw [leF_iff] at h
  unfold ltF
  rw [decide_eq_true_eq]
  by_cases q : a < b
  · exact q
  · exact absurd (List.le_antisymm h (List.not_lt.mp q)) n
theorem srt_rise {L : Bk} (nd : L.Nodup) : (srt L).Pairwise fun a b => ltF a b = true := by
  have h1 : (srt L).Pairwise fun a b => leF a b = true := List.pairwise_mergeSort leF_tr leF_tot L
  have h2 : (srt L).Nodup := (srt_perm L).nodup_iff.mpr nd
  exact (h1.and h2).imp fun {a b} h => lt_of_le_ne h.1 h.2
theorem rise_eq {α : Type} {lt : α → α → Bool} (irr : ∀ a, lt a a = false) (tr : ∀ a b c, lt a b = true → lt b c = true → lt a c = true) : ∀ {A B : List α}, A.Pairwise (fun a b => lt a b = true) → B.Pairwise (fun a b => lt a b = true) → (∀ x, x ∈ A ↔ x ∈ B) → A = B
  | [], [], _, _, _ => rfl
  | [], b :: B, _, _, h => absurd ((h b).mpr (List.mem_cons_self ..)) (by simp)
  | a :: A, [], _, _, h => absurd ((h a).mp (List.mem_cons_self ..)) (by simp)
  | a :: A, b :: B, ha, hb, h => by
    obtain ⟨a1, a2⟩ := List.pairwise_cons.mp ha
    obtain ⟨b1, b2⟩ := List.pairwise_cons.mp hb
    have e : a = b := by
      rcases List.mem_cons.mp ((h a).mp (List.mem_cons_self ..)) with e | e
      · exact e
      · rcases List.mem_cons.mp ((h b).mpr (List.mem_cons_self ..)) with e' | e'
        · exact e'.symm
        · have := tr _ _ _ (a1 b e') (b1 a e)
          rw [irr] at this; cases this
    subst e
    rw [rise_eq irr tr a2 b2 fun x => ?_]
    constructor
    · intro hx
      rcases List.mem_cons.mp ((h x).mp (List.mem_cons_of_mem _ hx)) with e | e
      · subst e
        have := a1 x hx
        rw [irr] at this; cases this
      · exact e
    · intro hx
      rcases List.mem_cons.mp ((h x).mpr (List.mem_cons_of_mem _ hx)) with e | e
      · subst e
        have := b1 x hx
        rw [irr] at this; cases this
      · exact e
theorem ltF_irr (a : Face) : ltF a a = false := by simp [ltF, List.lt_irrefl]
theorem bk_eq {A B : Bk} (ha : A.Pairwise fun a b => ltF a b = true) (hb : B.Pairwise fun a b => ltF a b = true) (h : ∀ x, x ∈ A ↔ x ∈ B) : A = B := rise_eq ltF_irr ltF_tr ha hb h
theorem srt_id {B : Bk} (h : B.Pairwise fun a b => ltF a b = true) : srt B = B := by
  have nd : B.Nodup := h.imp fun {a b} q e => by subst e; rw [ltF_irr] at q; cases q
  exact bk_eq (srt_rise nd) h fun x => mem_srt
/-- the block of all parts -/
def closed (L : Bk) : Bk := srt (keysOf L)
theorem mem_closed {L : Bk} {g : Face} : g ∈ closed L ↔ ∃ f ∈ L, g ≠ [] ∧ g.Sublist f := by
  unfold closed
  rw [mem_srt, mem_keysOf]
theorem closed_rise (L : Bk) : (closed L).Pairwise fun a b => ltF a b = true := srt_rise (keysOf_nd L)
theorem ltI_tr (a b c : Int) (h1 : ltI a b = true) (h2 : ltI b c = true) : ltI a c = true := by
  simp only [ltI, decide_eq_true_eq] at *
  omega
theorem isF_iff (f : Face) : isF f = true ↔ 1 ≤ f.length ∧ f.length ≤ 5 ∧ (∀ i ∈ f, 0 ≤ i ∧ i ≤ 9) ∧ f.Pairwise fun a b => a < b := by
  unfold isF
  rw [Bool.and_eq_true, Bool.and_eq_true, Bool.and_eq_true, adj_pw ltI_tr]
  simp only [decide_eq_true_eq, List.all_eq_true, Bool.and_eq_true, ltI, and_assoc]
theorem isF_sub {f g : Face} (h : isF f = true) (hg : g.Sublist f) (hn : g ≠ []) : isF g = true := by
  rw [isF_iff] at h ⊢
  refine ⟨?_, ?_, ?_, h.2.2.2.sublist hg⟩
  · cases g with
    | nil => exact absurd rfl hn
    | cons a g => simp
  · exact Nat.le_trans hg.length_le h.2.1
  · intro i hi
    exact h.2.2.1 i (hg.subset hi)
theorem rim_sub {f r : Face} (h : r ∈ rims f) : r.Sublist f ∧ r.length + 1 = f.length := by
  unfold rims at h
  split at h
  · cases h
  · obtain ⟨k, hk, rfl⟩ := List.mem_map.mp h
    have hk := List.mem_range.mp hk
    refine ⟨?_, by rw [List.length_append, List.length_take, List.length_drop]; omega⟩
    have e : f = f.take k ++ f.drop k := (List.take_append_drop k f).symm
    have : (f.take k ++ f.drop (k + 1)).Sublist (f.take k ++ f.drop k) := by
      refine List.Sublist.append (List.Sublist.refl _) ?_
      rw [← List.drop_drop]
      exact List.drop_sublist _ _
    rwa [← e] at this
theorem rim_ne {f r : Face} (h : r ∈ rims f) : r ≠ [] := by
  intro e
  have h2 := (rim_sub h).2
  subst e
  unfold rims at h
  rw [if_pos (by simpa using h2.symm)] at h
  cases h
theorem closed_bk {L : Bk} (hF : ∀ f ∈ L, isF f = true) (h0 : L ≠ []) (h60 : (keysOf L).length ≤ 60) : IsBk (closed L) where
  face g hg := by
    obtain ⟨f, hf, hn, hs⟩ := mem_closed.mp hg
    exact isF_sub (hF f hf) hs hn
  one := by
    cases L with
    | nil => exact absurd rfl h0
    | cons f L =>
      have : f ∈ closed (f :: L) := mem_closed.mpr ⟨f, List.mem_cons_self .., isF_ne (hF f (List.mem_cons_self ..)), List.Sublist.refl _⟩
      exact List.length_pos_of_mem this
  few := by unfold closed; rw [srt_len]; exact h60
  rise := closed_rise L
  whole g hg r hr := by
    obtain ⟨f, hf, hn, hs⟩ := mem_closed.mp hg
    exact mem_closed.mpr ⟨f, hf, rim_ne hr, (rim_sub hr).1.trans hs⟩
/-- what has no more than something else -/
theorem nd_len {α : Type} [DecidableEq α] : ∀ {A B : List α}, A.Nodup → (∀ x ∈ A, x ∈ B) → A.length ≤ B.length
  | [], _, _, _ => Nat.zero_le _
  | a :: A, B, h, s => by
    obtain ⟨h1, h2⟩ := List.nodup_cons.mp h
    have ha : a ∈ B := s a (List.mem_cons_self ..)
    have := nd_len (B := B.erase a) h2 fun x hx => by
      have n : x ≠ a := fun e => h1 (by rw [← e]; exact hx)
      exact (List.mem_erase_of_ne n).mpr (s x (List.mem_cons_of_mem _ hx))
    rw [List.length_erase_of_mem ha] at this
    have := List.length_pos_of_mem ha
    rw [List.length_cons]
    omega
/-! the walk -/
theorem pow_small {k : Nat} (h : k ≤ 10) : 2 ^ k ≤ 1024 := by
  have : 2 ^ k ≤ 2 ^ 10 := Nat.pow_le_pow_right (by decide) h
  simpa using this
def putAll (m : List (Face × Bool)) (G : Bk) : List (Face × Bool) := G.foldl (fun m g => alPut m g true) m
theorem keys_putAll : ∀ (G : Bk) (m : List (Face × Bool)), (putAll m G).map (·.1) = G.foldl addKey (m.map (·.1))
  | [], _ => rfl
  | g :: G, m => by
    have ih := keys_putAll G (alPut m g true)
    rw [keys_put] at ih
    exact ih
theorem alPut_len {β : Type} (m : List (Face × β)) (g : Face) (b : β) : (alPut m g b).length ≤ m.length + 1 := by
  unfold alPut
  split <;> simp
theorem putAll_len : ∀ (G : Bk) (m : List (Face × Bool)), (putAll m G).length ≤ m.length + G.length
  | [], m => Nat.le_refl _
  | g :: G, m => by
    have h1 := putAll_len G (alPut m g true)
    have h2 := alPut_len m g true
    show (putAll (alPut m g true) G).length ≤ _
    rw [List.length_cons]
    omega
theorem parts_len (f : Face) : (parts f).length ≤ 2 ^ f.length := by
  unfold parts
  rw [List.length_drop, subs_len]
  exact Nat.sub_le _ _
/-- number 20: law_closed -/
def f20_b1 : TB.Ss := (.cons (.seti 1 (.var 5) (.cn (.bool true))) .nil)
def f20_l1 : TB.S := .fori (.nm 5) (.e (.slc (.var 3) (.yes (.cn (.int 1))) .no)) f20_b1 [5] true
def f20_c0 : TB.E := .lc (.bin .Add (.var 5) (.tup (.cons (.var 4) .nil))) (.nm 5) (.e (.var 3)) [5] .no
def f20_b2 : TB.Ss := (.cons (.asg 3 (.bin .Add (.var 3) f20_c0) false) .nil)
def f20_l2 : TB.S := .fori (.nm 4) (.e (.var 2)) f20_b2 [4] true
def f20_b0 : TB.Ss := (.cons (.asg 3 (.lst (.cons (.tup .nil) .nil)) false) (.cons f20_l2 (.cons f20_l1 .nil)))
def f20_l0 : TB.S := .fori (.nm 2) (.e (.var 0)) f20_b0 [2, 3, 4, 5] true
def f20 : TB.Fn := ⟨1, 6, (.cons (.asg 1 .dnew true) (.cons f20_l0 (.cons (.ret (.bi .tuple (.cons (.bi .sorted (.cons (.var 1) .nil)) .nil))) .nil)))⟩
section
variable {fs : Tbl} [Has fs 20 f20] {n : Nat} {st : Sto}
theorem closed_l2 {k : Nat} (f : Face) (hf : f.length ≤ 10) (d0 : TB.D) (s : Sto) (hk : k < s.length) : ex (callF fs GG n) GG f20_l2 [some (.d d0), some (.r k), some (.d (fc f)), some (.d (.list [fc []])), none, none] s =
    .ok (.nx [some (.d d0), some (.r k), some (.d (fc f)), some (.d (.list ((subs f).map fc))), none, none]) s := by
  simp only [f20_l2, ex_fori, evI_e, ev_var, List.getElem?_cons_succ, List.getElem?_cons_zero, Res.bind_ok, val_d, fc_seq, ofO_some, forL_map]
  refine forL_go (fun F : Bk => [some (.d d0), some (.r k), some (.d (fc f)), some (.d (.list (F.map fc))), none, none]) (fun _ => s) (fun d F => F = subs d) [[]] rfl rfl rfl ?_ (fun F hF => by rw [hF])
  rintro d p F ⟨r, hr⟩ rfl
  refine ⟨subStep (subs d) p, ?_, by unfold subs; rw [List.foldl_append]; rfl⟩
  have hd : d.length + 1 ≤ 10 := by
    have := congrArg List.length hr
    simp only [List.length_append, List.length_cons] at this
    omega
  have hl : (subs d).length + (subs d).length ≤ LIM := by
    rw [subs_len]
    have := pow_small (k := d.length) (by omega)
    unfold LIM
    omega
  have hc : ev (callF fs GG n) GG f20_c0 [some (.d d0), some (.r k), some (.d (fc f)), some (.d (.list ((subs d).map fc))), some (.d (.int p)), none] s = .ok (.d (.list (((subs d).map fun g => g ++ [p]).map fc))) s := by
    simp only [f20_c0, ev_lc, evI_e, ev_var, List.getElem?_cons_succ, List.getElem?_cons_zero, Res.bind_ok, val_d, seq_l, ofO_some, compL_map]
    rw [compL_all (g := fun g => fc (g ++ [p]))]
    · simp
    · intro g hg
      have h1 := ((mem_subs d g).mp hg).length_le
      have h2 : g.length + 1 ≤ LIM := by unfold LIM; omega
      simp [h2]
  simp [f20_b2, hc, subStep, hk, hl]
theorem closed_l1 (f : Face) (d0 : TB.D) (m : List (Face × Bool)) (hb : m.length + (parts f).length < LIM) : ex (callF fs GG n) GG f20_l1 [some (.d d0), some (.r st.length), some (.d (fc f)), some (.d (.list ((subs f).map fc))), none, none] (st ++ [.dct (rows .bool m)]) =
    .ok (.nx [some (.d d0), some (.r st.length), some (.d (fc f)), some (.d (.list ((subs f).map fc))), none, none]) (st ++ [.dct (rows .bool (putAll m (parts f)))]) := by
  simp only [f20_l1, ex_fori, evI_e, ev_slc, evO_yes, evO_no, ev_cn, ev_var, List.getElem?_cons_succ, List.getElem?_cons_zero, Res.bind_ok, peek_d, Option.bind_some, slice_list, Option.map_some, cutD_map, cut_1, val_d, seq_l, ofO_some]
  rw [show List.drop 1 (List.map fc (subs f)) = (parts f).map fc from by rw [← List.map_drop]; rfl, forL_map]
  refine forL_go (fun _ => [some (.d d0), some (.r st.length), some (.d (fc f)), some (.d (.list ((subs f).map fc))), none, none]) (fun q : List (Face × Bool) => st ++ [.dct (rows .bool q)]) (fun d q => q = putAll m d) m rfl rfl rfl ?_ (fun q hq => by subst hq; rfl)
  rintro d g q ⟨r, hr⟩ rfl
  refine ⟨alPut (putAll m d) g true, ?_, by unfold putAll; rw [List.foldl_append]; rfl⟩
  have hl : (rows PyData.bool (putAll m d)).length < LIM := by
    rw [rows_len]
    have h1 := putAll_len d m
    have h2 := congrArg List.length hr
    rw [List.length_append, List.length_cons] at h2
    omega
  have hp := put_rows PyData.bool (putAll m d) g true
  simp [f20_b1, atVar, change, setSlot, keys_rows, hl, hp]
theorem run_closed (L : Bk) (hF : ∀ f ∈ L, isF f = true) (h0 : L ≠ []) (hl : L.length ≤ 100) : callF fs GG (n + 1) 20 [.d (.list (L.map fc))] st = .ok (.d (.tuple ((closed L).map fc))) st := by
  rw [callF_of rfl]
  have main : ∃ m : List (Face × Bool), ex (callF fs GG n) GG f20_l0 [some (.d (.list (L.map fc))), some (.r st.length), none, none, none, none] (st ++ [.dct (rows .bool [])]) = .ok (.nx [some (.d (.list (L.map fc))), some (.r st.length), none, none, none, none]) (st ++ [.dct (rows .bool m)]) ∧
      m.map (·.1) = keysOf L ∧ m.length ≤ 32 * L.length := by
    simp only [f20_l0, ex_fori, evI_e, ev_var, List.getElem?_cons_zero, Res.bind_ok, val_d, seq_l, ofO_some, forL_map]
    refine forL_ex (fun _ => [some (.d (.list (L.map fc))), some (.r st.length), none, none, none, none]) (fun q : List (Face × Bool) => st ++ [.dct (rows .bool q)]) (fun d q => q.map (·.1) = keysOf d ∧ q.length ≤ 32 * d.length) [] rfl rfl ⟨rfl, Nat.zero_le _⟩ ?_
    rintro d f q ⟨r, hr⟩ ⟨h1, h2⟩
    have hf : isF f = true := hF f (by rw [hr]; simp)
    have h5 := (isF_len hf).2
    have hp : (parts f).length ≤ 32 := by
      have := parts_len f
      have : 2 ^ f.length ≤ 2 ^ 5 := Nat.pow_le_pow_right (by decide) h5
      omega
    have hd : d.length + 1 ≤ 100 := by
      have := congrArg List.length hr
      rw [List.length_append, List.length_cons] at this
      omega
    refine ⟨putAll q (parts f), ?_, ?_, ?_⟩
    · have a2 := fun s hk => closed_l2 (n := n) (fs := fs) (k := st.length) f (by omega) (.list (L.map fc)) s hk
      have a1 := closed_l1 (n := n) (fs := fs) (st := st) f (.list (L.map fc)) q (by unfold LIM; omega)
      simp [f20_b0, a2, a1]
    · rw [keys_putAll, h1]
      unfold keysOf
      rw [List.foldl_append]
      rfl
    · have := putAll_len (parts f) q
      rw [List.length_append, List.length_singleton]
      omega
  obtain ⟨m, e, hk, hm⟩ := main
  have hne : ∀ p ∈ m, p.1 ≠ [] := by
    intro p hp
    have : p.1 ∈ keysOf L := by rw [← hk]; exact List.mem_map.mpr ⟨p, hp, rfl⟩
    exact ((mem_keysOf L p.1).mp this).choose_spec.2.1
  have h1 : m ≠ [] := by
    intro z
    subst z
    cases L with
    | nil => exact h0 rfl
    | cons f L =>
      have : f ∈ keysOf (f :: L) := (mem_keysOf _ _).mpr ⟨f, List.mem_cons_self .., isF_ne (hF f (List.mem_cons_self ..)), List.Sublist.refl _⟩
      rw [← hk] at this
      cases this
  have hs := sorted_rows PyData.bool h1 hne (by unfold LIM; omega)
  rw [hk] at hs
  have e' : ex (callF fs GG n) GG f20_l0 [some (.d (.list (L.map fc))), some (.r st.length), none, none, none, none] (st ++ [.dct []]) = _ := e
  simp [f20, startE, freshE, newOb, e', hs, closed, peek]
end
end TB
set_option maxRecDepth 100000
set_option maxHeartbeats 2000000
namespace TB
open PySem PySem.W
/-! LBlk: the blocks that laws draw. -/
def knownS : List Str := ["0", "01", "01 12 02", "012", "012 013 023 123", "0123", "01 02 03", "012 023 034 014", "01 23", "0 1 2", "012 34", "012 123 234 034 014", "01 12 23 03 13", "012 013 014", "0123 1234", "01234", "014 015 023 025 034 123 124 135 245 345", "0123 0124 0134 0234 1234", "01 12 02 34 45 35", "013 123 234 024 014 145 125 025 056 016 126 267 027 037 345 356 367"]
def knownT : List (List (List Int)) := [[[0]], [[0, 1]], [[0, 1], [1, 2], [0, 2]], [[0, 1, 2]], [[0, 1, 2], [0, 1, 3], [0, 2, 3], [1, 2, 3]], [[0, 1, 2, 3]], [[0, 1], [0, 2], [0, 3]], [[0, 1, 2], [0, 2, 3], [0, 3, 4], [0, 1, 4]], [[0, 1], [2, 3]], [[0], [1], [2]], [[0, 1, 2], [3, 4]], [[0, 1, 2], [1, 2, 3], [2, 3, 4], [0, 3, 4], [0, 1, 4]], [[0, 1], [1, 2], [2, 3], [0, 3], [1, 3]], [[0, 1, 2], [0, 1, 3], [0, 1, 4]], [[0, 1, 2, 3], [1, 2, 3, 4]], [[0, 1, 2, 3, 4]], [[0, 1, 4], [0, 1, 5], [0, 2, 3], [0, 2, 5], [0, 3, 4], [1, 2, 3], [1, 2, 4], [1, 3, 5], [2, 4, 5], [3, 4, 5]], [[0, 1, 2, 3], [0, 1, 2, 4], [0, 1, 3, 4], [0, 2, 3, 4], [1, 2, 3, 4]], [[0, 1], [1, 2], [0, 2], [3, 4], [4, 5], [3, 5]], [[0, 1, 3], [1, 2, 3], [2, 3, 4], [0, 2, 4], [0, 1, 4], [1, 4, 5], [1, 2, 5], [0, 2, 5], [0, 5, 6], [0, 1, 6], [1, 2, 6], [2, 6, 7], [0, 2, 7], [0, 3, 7], [3, 4, 5], [3, 5, 6], [3, 6, 7]]]
def wordV (w : Str) : Option (List Int) := if w.length ≤ 640 then w.cps.toList.mapM fun c => PySem.intText? ⟨#[c]⟩ else none
def textV (s : Str) : Option (List (List Int)) := (Txt.split s " ").mapM wordV
theorem known_all : ∀ k < 20, (knownS[k]?.bind textV) = knownT[k]? := by decide +kernel
theorem known_len : ∀ k < 20, (knownS[k]?.map fun s => decide (s.length + 2 ≤ LIM)) = some true := by decide +kernel
def ils (W : List (List Int)) : List D := W.map fun f => .list (f.map .int)
theorem mapM_get {α β : Type} {f : α → Option β} : ∀ {xs : List α} {ys : List β}, xs.mapM f = some ys → ∃ zs : List (α × β), xs = zs.map (·.1) ∧ ys = zs.map (·.2) ∧ ∀ z ∈ zs, f z.1 = some z.2
  | [], ys, h => by
    simp at h
    exact ⟨[], rfl, h.symm ▸ rfl, by simp⟩
  | x :: xs, ys, h => by
    simp only [List.mapM_cons, Option.bind_eq_bind, Option.bind_eq_some_iff, Option.pure_def, Option.some.injEq] at h
    obtain ⟨y, hy, zs, hz, rfl⟩ := h
    obtain ⟨ps, e1, e2, e3⟩ := mapM_get hz
    exact ⟨(x, y) :: ps, by rw [e1]; rfl, by rw [e2]; rfl, fun z hz => by
      rcases List.mem_cons.mp hz with rfl | hz
      · exact hy
      · exact e3 z hz⟩
/-- number 19: law_known -/
def f19_c0 : TB.E := .lc (.bi .int (.cons (.var 3) .nil)) (.nm 3) (.e (.var 2)) [3] .no
def f19_c1 : TB.E := .lc f19_c0 (.nm 2) (.e (.split (.idx (.var 1) (.var 0)) (.cn (.str " ")))) [2] .no
def f19 : TB.Fn := ⟨1, 4, (.cons (.asg 1 (.lst (.cons (.cn (.str "0")) (.cons (.cn (.str "01")) (.cons (.cn (.str "01 12 02")) (.cons (.cn (.str "012")) (.cons (.cn (.str "012 013 023 123")) (.cons (.cn (.str "0123")) (.cons (.cn (.str "01 02 03")) (.cons (.cn (.str "012 023 034 014")) (.cons (.cn (.str "01 23")) (.cons (.cn (.str "0 1 2")) .nil))))))))))) true) (.cons (.asg 1 (.bin .Add (.var 1) (.lst (.cons (.cn (.str "012 34")) (.cons (.cn (.str "012 123 234 034 014")) (.cons (.cn (.str "01 12 23 03 13")) (.cons (.cn (.str "012 013 014")) (.cons (.cn (.str "0123 1234")) (.cons (.cn (.str "01234")) .nil)))))))) true) (.cons (.asg 1 (.bin .Add (.var 1) (.lst (.cons (.cn (.str "014 015 023 025 034 123 124 135 245 345")) (.cons (.cn (.str "0123 0124 0134 0234 1234")) (.cons (.cn (.str "01 12 02 34 45 35")) .nil))))) true) (.cons (.app 1 (.cn (.str "013 123 234 024 014 145 125 025 056 016 126 267 027 037 345 356 367"))) (.cons (.retN f19_c1) .nil)))))⟩
section
variable {fs : Tbl} [Has fs 19 f19] {n : Nat} {st : Sto}
theorem known_c0 {w : Str} {f : List Int} (h : wordV w = some f) (x0 x1 x3 : Option W) : ev (callF fs GG n) GG f19_c0 [x0, x1, some (.d (.str w)), x3] st = .ok (.d (.list (f.map .int))) st := by
  unfold wordV at h
  split at h
  · rename_i hl
    have hl2 : w.length ≤ LIM := by unfold LIM; omega
    obtain ⟨zs, e1, rfl, e3⟩ := mapM_get h
    have es : signsD w = zs.map fun z => .str ⟨#[z.1]⟩ := by
      unfold signsD
      rw [e1, List.map_map]
      rfl
    simp only [f19_c0, ev_lc, evI_e, ev_var, List.getElem?_cons_succ, List.getElem?_cons_zero, Res.bind_ok, val_d, seqD, if_pos hl2, ofO_some, es, compL_map]
    rw [compL_all (g := fun z => .int z.2)]
    · simp
    · intro z hz
      have e : biD .int [.str ⟨#[z.1]⟩] = some (.int z.2) := by
        have : (⟨#[z.1]⟩ : Str).length ≤ 640 := by show (1 : Nat) ≤ 640; omega
        simp only [biD, if_pos this, e3 z hz]
        rfl
      simp [e]
  · cases h
theorem run_known (k : Nat) (hk : k < 20) : callF fs GG (n + 1) 19 [.d (.int k)] st = .ok (.r st.length) (st ++ [.lst (ils (knownT.getD k []))]) := by
  rw [callF_of rfl]
  have a1 := known_all k hk
  have a2 := known_len k hk
  have hkl : k < knownS.length := hk
  have hkt : k < knownT.length := hk
  obtain ⟨s, hs⟩ : ∃ s, knownS[k]? = some s := ⟨_, List.getElem?_eq_getElem hkl⟩
  obtain ⟨T, hT⟩ : ∃ T, knownT[k]? = some T := ⟨_, List.getElem?_eq_getElem hkt⟩
  rw [hs, hT, Option.bind_some] at a1
  rw [hs, Option.map_some, Option.some.injEq, decide_eq_true_eq] at a2
  obtain ⟨zs, e1, e2, e3⟩ := mapM_get a1
  have hg : TB.getD (.list (knownS.map .str)) (.int k) = some (.str s) := by
    have p : TB.placeOf knownS.length (k : Int) = some k := by unfold TB.placeOf; rw [if_pos (by omega), if_pos (by omega)]; rfl
    rw [get_list, List.length_map, p, Option.bind_some, List.getElem?_map, hs]
    rfl
  have e0 : knownT.getD k [] = T := by rw [List.getD_eq_getElem?_getD, hT]; rfl
  rw [e0]
  have hc : ∀ (b : Nat) (s0 : Sto), s0[b]? = some (.lst (knownS.map .str)) → ev (callF fs GG n) GG f19_c1 [some (.d (.int k)), some (.r b), none, none] s0 = .ok (.d (.list (ils T))) s0 := by
    intro b s0 hb
    have hcond : ((" " : Str).length == 0) = false ∧ s.length + 2 ≤ LIM := ⟨by decide, a2⟩
    have hp : peek (.r b) s0 = some (.list (knownS.map .str)) := by simp [peek, hb]
    simp only [f19_c1, ev_lc, evI_e, ev_split, ev_idx, ev_var, ev_cn, List.getElem?_cons_succ, List.getElem?_cons_zero, Res.bind_ok, hp, peek_d, Option.bind_some, hg, Option.map_some, ofO_some]
    rw [if_pos hcond]
    simp only [Res.bind_ok, val_d, seq_l, ofO_some, e1, List.map_map, compL_map]
    rw [compL_all (g := fun z => .list (z.2.map .int))]
    · simp [ils, e2]
    · intro z hz
      have := known_c0 (fs := fs) (n := n) (st := s0) (e3 z hz)
      simp [this]
  have hs : (knownS.map PyData.str) = [.str "0", .str "01", .str "01 12 02", .str "012", .str "012 013 023 123", .str "0123", .str "01 02 03", .str "012 023 034 014", .str "01 23", .str "0 1 2"] ++ [.str "012 34", .str "012 123 234 034 014", .str "01 12 23 03 13", .str "012 013 014", .str "0123 1234", .str "01234"] ++ [.str "014 015 023 025 034 123 124 135 245 345", .str "0123 0124 0134 0234 1234", .str "01 12 02 34 45 35"] ++ [.str "013 123 234 024 014 145 125 025 056 016 126 267 027 037 345 356 367"] := rfl
  rw [hs] at hc
  simp only [List.cons_append, List.nil_append] at hc
  simp [f19, startE, freshE, listyE, newOb, peek, lstAt, atVar, change, appSlot, LIM, hc]
  simp [f19_c1]
end
/-! names -/
def rho (s t p : Int) : Int := (p * s + t) % 10
def nameF (s t : Int) (f : List Int) : Face := setSort (f.map (rho s t))
theorem insU_len (x : Int) : ∀ l : List Int, (insU x l).length ≤ l.length + 1
  | [] => by simp [insU]
  | y :: ys => by
    unfold insU
    split
    · simp
    · split
      · simp
      · have := insU_len x ys
        simp only [List.length_cons]
        omega
theorem setSort_len : ∀ l : List Int, (setSort l).length ≤ l.length
  | [] => Nat.zero_le _
  | x :: xs => by
    have h1 := insU_len x (setSort xs)
    have h2 := setSort_len xs
    show (insU x (setSort xs)).length ≤ _
    rw [List.length_cons]
    omega
theorem mem_name {s t : Int} {f : List Int} {k : Int} : k ∈ nameF s t f ↔ ∃ p ∈ f, rho s t p = k := by
  unfold nameF
  rw [setSort_mem, List.mem_map]
theorem named_isF (s t : Int) {f : List Int} (h0 : f ≠ []) (h5 : f.length ≤ 5) : isF (nameF s t f) = true := by
  rw [isF_iff]
  refine ⟨?_, ?_, ?_, setSort_rise _⟩
  · cases f with
    | nil => exact absurd rfl h0
    | cons p f =>
      have : rho s t p ∈ nameF s t (p :: f) := mem_name.mpr ⟨p, List.mem_cons_self .., rfl⟩
      exact List.length_pos_of_mem this
  · have := setSort_len (f.map (rho s t))
    rw [List.length_map] at this
    exact Nat.le_trans this h5
  · intro i hi
    obtain ⟨p, _, rfl⟩ := mem_name.mp hi
    unfold rho
    have := Int.emod_nonneg (p * s + t) (show (10 : Int) ≠ 0 by decide)
    have := Int.emod_lt_of_pos (p * s + t) (show (0 : Int) < 10 by decide)
    omega
theorem key_name {s t : Int} {L : Bk} {g : Face} (h : g ∈ keysOf (L.map (nameF s t))) : g ∈ (keysOf L).map (nameF s t) := by
  obtain ⟨f', hf', hn, hs⟩ := (mem_keysOf _ _).mp h
  obtain ⟨f, hf, rfl⟩ := List.mem_map.mp hf'
  rw [List.mem_map]
  have e : nameF s t (f.filter fun p => decide (rho s t p ∈ g)) = g := by
    refine rise_one (setSort_rise _) ((setSort_rise _).sublist hs) fun k => ?_
    rw [mem_name]
    constructor
    · rintro ⟨p, hp, rfl⟩
      simpa using (List.mem_filter.mp hp).2
    · intro hk
      obtain ⟨p, hp, rfl⟩ := mem_name.mp (hs.subset hk)
      exact ⟨p, List.mem_filter.mpr ⟨hp, by simpa using hk⟩, rfl⟩
  refine ⟨_, (mem_keysOf _ _).mpr ⟨f, hf, ?_, List.filter_sublist⟩, e⟩
  intro z
  rw [z] at e
  exact hn e.symm
theorem keys_name_len (s t : Int) (L : Bk) : (keysOf (L.map (nameF s t))).length ≤ (keysOf L).length := by
  have := nd_len (keysOf_nd (L.map (nameF s t))) fun g hg => key_name hg
  rwa [List.length_map] at this
theorem known_keys : ∀ k < 20, ((keysOf (knownT.getD k [])).length ≤ 60) := by decide +kernel
theorem known_good : ∀ k < 20, (knownT.getD k []) ≠ [] ∧ (knownT.getD k []).length ≤ 100 ∧ ∀ f ∈ knownT.getD k [], f ≠ [] ∧ f.length ≤ 5 := by decide +kernel
def six : List Int := [0, 1, 2, 3, 4, 5]
def canon (f : List Int) : Face := six.filter fun p => decide (p ∈ f)
theorem setSort_eq {a b : List Int} (h : ∀ k, k ∈ a ↔ k ∈ b) : setSort a = setSort b :=
  rise_one (setSort_rise _) (setSort_rise _) fun k => by rw [setSort_mem, setSort_mem, h]
theorem mem_six {p : Int} (h : 0 ≤ p ∧ p < 6) : p ∈ six := by
  have : p = 0 ∨ p = 1 ∨ p = 2 ∨ p = 3 ∨ p = 4 ∨ p = 5 := by omega
  rcases this with rfl | rfl | rfl | rfl | rfl | rfl <;> decide
theorem canon_name {s t : Int} {f : List Int} (h : ∀ p ∈ f, 0 ≤ p ∧ p < 6) : nameF s t (canon f) = nameF s t f := by
  unfold nameF
  refine setSort_eq fun k => ?_
  rw [List.mem_map, List.mem_map]
  constructor
  · rintro ⟨p, hp, rfl⟩
    exact ⟨p, by simpa using (List.mem_filter.mp hp).2, rfl⟩
  · rintro ⟨p, hp, rfl⟩
    exact ⟨p, List.mem_filter.mpr ⟨mem_six (h p hp), by simpa using hp⟩, rfl⟩
theorem six_nd : six.Nodup := by decide
theorem canon_len {f : List Int} : (canon f).length ≤ f.length := nd_len (six_nd.sublist List.filter_sublist) fun x hx => by simpa using (List.mem_filter.mp hx).2
/-- all parts of six points of at most four -/
def all56 : Bk := (parts six).filter fun g => decide (g.length ≤ 4)
theorem all56_len : all56.length = 56 := by decide +kernel
theorem few_keys {L : Bk} (h : ∀ f ∈ L, f.length ≤ 4) : (keysOf (L.map canon)).length ≤ 60 := by
  have := nd_len (B := all56) (keysOf_nd (L.map canon)) fun g hg => by
    obtain ⟨f', hf', hn, hs⟩ := (mem_keysOf _ _).mp hg
    obtain ⟨f, hf, rfl⟩ := List.mem_map.mp hf'
    have h1 := hs.length_le
    have h2 := canon_len (f := f)
    have h3 := h f hf
    exact List.mem_filter.mpr ⟨(mem_parts _ _).mpr ⟨hn, hs.trans List.filter_sublist⟩, by simp; omega⟩
  rw [all56_len] at this
  omega
/-- a block by names -/
theorem named_bk {s t : Int} {L : Bk} (h0 : L ≠ []) (hF : ∀ f ∈ L, f ≠ [] ∧ f.length ≤ 5) (hk : (keysOf (L.map (nameF s t))).length ≤ 60) : IsBk (closed (L.map (nameF s t))) :=
  closed_bk (fun f hf => by
    obtain ⟨g, hg, rfl⟩ := List.mem_map.mp hf
    exact named_isF s t (hF g hg).1 (hF g hg).2) (by simpa using h0) hk
/-- lists of points that a block is made of -/
structure Made (L : List (List Int)) : Prop where
  some : L ≠ []
  few : L.length ≤ 100
  good : ∀ f ∈ L, f ≠ [] ∧ f.length ≤ 5
  keys : ∀ s t, (keysOf (L.map (nameF s t))).length ≤ 60
theorem made_known {k : Nat} (hk : k < 20) : Made (knownT.getD k []) := by
  obtain ⟨h1, h2, h3⟩ := known_good k hk
  exact ⟨h1, h2, h3, fun s t => Nat.le_trans (keys_name_len s t _) (known_keys k hk)⟩
theorem made_drawn {L : List (List Int)} (h0 : L ≠ []) (h1 : L.length ≤ 100) (h2 : ∀ f ∈ L, f ≠ [] ∧ f.length ≤ 4) (h3 : ∀ f ∈ L, ∀ p ∈ f, 0 ≤ p ∧ p < 6) : Made L := by
  refine ⟨h0, h1, fun f hf => ⟨(h2 f hf).1, by have := (h2 f hf).2; omega⟩, fun s t => ?_⟩
  have e : L.map (nameF s t) = (L.map canon).map (nameF s t) := by
    rw [List.map_map]
    apply List.map_congr_left
    intro f hf
    exact (canon_name (h3 f hf)).symm
  rw [e]
  exact Nat.le_trans (keys_name_len s t _) (few_keys fun f hf => (h2 f hf).2)
/-- number 21: law_block -/
def f21_c0 : TB.E := .lc (.bin .Mod (.bin .Add (.bin .Mult (.var 10) (.var 3)) (.var 2)) (.cn (.int 10))) (.nm 10) (.e (.var 8)) [10] .no
def f21_c1 : TB.E := .lc (.bi .tuple (.cons (.bi .sortedset (.cons f21_c0 .nil)) .nil)) (.nm 8) (.e (.var 4)) [8] .no
def f21_c2 : TB.E := .lc (.call 5 (.cons (.var 0) (.cons (.var 5) .nil))) (.nm 9) (.r1 (.var 7)) [9] .no
def f21_b0 : TB.Ss := (.cons (.asg 7 (.bin .Add (.cn (.int 1)) (.call 5 (.cons (.var 0) (.cons (.cn (.int 4)) .nil)))) false) (.cons (.app 4 f21_c2) .nil))
def f21_l0 : TB.S := .fori (.nm 6) (.r1 (.bin .Add (.cn (.int 1)) (.call 5 (.cons (.var 0) (.cons (.cn (.int 7)) .nil))))) f21_b0 [6, 7] true
def f21 : TB.Fn := ⟨1, 11, (.cons (.asgP [1, 2, 3] (.cons (.call 5 (.cons (.var 0) (.cons (.cn (.int 5)) .nil))) (.cons (.call 5 (.cons (.var 0) (.cons (.cn (.int 10)) .nil))) (.cons (.idx (.lst (.cons (.cn (.int 1)) (.cons (.cn (.int 3)) (.cons (.cn (.int 7)) (.cons (.cn (.int 9)) .nil))))) (.call 5 (.cons (.var 0) (.cons (.cn (.int 4)) .nil)))) .nil)))) (.cons (.ife (.cmp .Lt (.var 1) (.cn (.int 2))) (.cons (.asg 4 (.call 19 (.cons (.call 5 (.cons (.var 0) (.cons (.cn (.int 20)) .nil))) .nil)) true) .nil) (.cons (.asg 5 (.bin .Add (.cn (.int 1)) (.call 5 (.cons (.var 0) (.cons (.idx (.lst (.cons (.cn (.int 4)) (.cons (.cn (.int 6)) (.cons (.cn (.int 6)) .nil)))) (.bin .Sub (.var 1) (.cn (.int 2)))) .nil)))) false) (.cons (.asg 4 (.lst .nil) true) (.cons f21_l0 .nil)))) (.cons (.ret (.call 20 (.cons f21_c1 .nil))) .nil)))⟩
section
variable {fs : Tbl} [Has fs 20 f20] [Has fs 5 f5] [Has fs 19 f19] [Has fs 21 f21] {n : Nat} {st : Sto}
theorem block_c1 {L : List (List Int)} {s t : Int} (hL : ∀ f ∈ L, f.length ≤ 5) (hs : -(2 ^ 64) < s ∧ s < 2 ^ 64) (x0 x1 x5 x6 x7 x8 x9 x10 : Option W) {b : Nat} (hb : st[b]? = some (.lst (ils L))) : 
    ev (callF fs GG n) GG f21_c1 [x0, x1, some (.d (.int t)), some (.d (.int s)), some (.r b), x5, x6, x7, x8, x9, x10] st = .ok (.d (.list ((L.map (nameF s t)).map fc))) (st.set b (.frz (.list (ils L)))) := by
  have hv : val (.r b) st = .ok (.list (ils L)) (st.set b (.frz (.list (ils L)))) := by simp [val, hb, Ob.tree]
  have hm : ∀ p : Int, mulOk p s = true := fun p => by simp [mulOk]; right; exact hs
  simp only [f21_c1, ev_lc, evI_e, ev_var, List.getElem?_cons_succ, List.getElem?_cons_zero, Res.bind_ok, hv, seq_l, ofO_some, ils, compL_map]
  rw [compL_all (g := fun f => fc (nameF s t f))]
  · simp
  · intro f hf
    have h64 : f.length < 64 := by have := hL f hf; omega
    have hc : biD .sortedset [.list (f.map fun p => PyData.int ((p * s + t) % 10))] = some (.list ((nameF s t f).map .int)) := by
      have e : (f.map fun p => PyData.int ((p * s + t) % 10)) = (f.map (rho s t)).map .int := by rw [List.map_map]; rfl
      rw [e, bi_ssetL, List.length_map, if_pos (.inl h64)]
      rfl
    simp [f21_c0, hm, hc, fc]
theorem run_knownI (k : Int) (h0 : 0 ≤ k) (h1 : k < 20) : callF fs GG (n + 1) 19 [.d (.int k)] st = .ok (.r st.length) (st ++ [.lst (ils (knownT.getD k.toNat []))]) := by
  have := run_known (fs := fs) (n := n) (st := st) k.toNat (by omega)
  rwa [Int.toNat_of_nonneg h0] at this
theorem step_get {j : Int} (h0 : 0 ≤ j) (h1 : j < 4) : ∃ s : Int, TB.getD (.list [.int 1, .int 3, .int 7, .int 9]) (.int j) = some (.int s) ∧ -(2 ^ 64) < s ∧ s < 2 ^ 64 := by
  have : j = 0 ∨ j = 1 ∨ j = 2 ∨ j = 3 := by omega
  rcases this with rfl | rfl | rfl | rfl
  · exact ⟨1, rfl, by decide, by decide⟩
  · exact ⟨3, rfl, by decide, by decide⟩
  · exact ⟨7, rfl, by decide, by decide⟩
  · exact ⟨9, rfl, by decide, by decide⟩
theorem many_get {j : Int} (h0 : 2 ≤ j) (h1 : j < 5) : ∃ s : Int, TB.getD (.list [.int 4, .int 6, .int 6]) (.int (j - 2)) = some (.int s) ∧ 4 ≤ s ∧ s ≤ 6 := by
  have : j = 2 ∨ j = 3 ∨ j = 4 := by omega
  rcases this with rfl | rfl | rfl
  · exact ⟨4, rfl, by decide, by decide⟩
  · exact ⟨6, rfl, by decide, by decide⟩
  · exact ⟨6, rfl, by decide, by decide⟩
/-- the drawn faces' loop -/
theorem block_l0 {a : Nat} {s t m w : Int} (h : isPen st a = true) (hm : 0 < m) (hm2 : m ≤ 6) (P : Pen) (x8 x9 x10 : Option W) : ∃ (L : List (List Int)) (P' : Pen), ex (callF fs GG (n + 1)) GG f21_l0 [some (.r a), some (.d (.int w)), some (.d (.int t)), some (.d (.int s)), some (.r st.length), some (.d (.int m)), none, none, none, none, none] (st.set a (penO P) ++ [Ob.lst []]) =
    .ok (.nx [some (.r a), some (.d (.int w)), some (.d (.int t)), some (.d (.int s)), some (.r st.length), some (.d (.int m)), none, none, none, none, none]) (st.set a (penO P') ++ [Ob.lst (ils L)]) ∧ Made L := by
  have ha := pen_lt h
  have b7 := drawV_lt P (m := 7) (by decide)
  have hsm : smallB (1 + drawV P 7) = true := by simp [smallB]; omega
  have hpos : 1 ≤ (1 + drawV P 7).toNat := by omega
  have hlt : (1 + drawV P 7).toNat ≤ 7 := by omega
  have hd := run_draw (fs := fs) (n := n) (st := st.set a (penO P) ++ [Ob.lst []]) (a := a) (m := 7) (by simp [h]) (by decide) (by decide)
  have fin : ∃ z : List (List Int) × Pen, ex (callF fs GG (n + 1)) GG f21_l0 [some (.r a), some (.d (.int w)), some (.d (.int t)), some (.d (.int s)), some (.r st.length), some (.d (.int m)), none, none, none, none, none] (st.set a (penO P) ++ [Ob.lst []]) =
      .ok (.nx [some (.r a), some (.d (.int w)), some (.d (.int t)), some (.d (.int s)), some (.r st.length), some (.d (.int m)), none, none, none, none, none]) (st.set a (penO z.2) ++ [.lst (ils z.1)]) ∧ (z.1.length = (List.range (1 + drawV P 7).toNat).length ∧ (∀ f ∈ z.1, f ≠ [] ∧ f.length ≤ 4) ∧ ∀ f ∈ z.1, ∀ p ∈ f, 0 ≤ p ∧ p < 6) := by
    simp only [f21_l0, ex_fori, evI_r1, ev_bin, ev_cn, ev_call, evs_cons, evs_nil, ev_var, List.getElem?_cons_zero, Res.bind_ok, hd]
    simp only [isPen_app, isPen_set, penAt_app, penAt_set, h, set_pen_app, List.set_set, peek_d, Option.bind_some, add_int, Option.map_some, ofO_some, Res.bind_ok, hsm, if_true, rangeL_0, forL_map]
    refine forL_ex (fun _ : List (List Int) × Pen => [some (.r a), some (.d (.int w)), some (.d (.int t)), some (.d (.int s)), some (.r st.length), some (.d (.int m)), none, none, none, none, none]) (fun z => st.set a (penO z.2) ++ [Ob.lst (ils z.1)])
      (fun d z => z.1.length = d.length ∧ (∀ f ∈ z.1, f ≠ [] ∧ f.length ≤ 4) ∧ ∀ f ∈ z.1, ∀ p ∈ f, 0 ≤ p ∧ p < 6) ([], drawP P 7) rfl rfl ⟨rfl, by simp, by simp⟩ ?_
    rintro d k ⟨L, Q⟩ ⟨r, hr⟩ ⟨h1, h2, h3⟩
    have b4 := drawV_lt Q (m := 4) (by decide)
    have hs4 : smallB (1 + drawV Q 4) = true := by simp [smallB]; omega
    have hL : L.length < LIM := by
      have := congrArg List.length hr
      rw [List.length_range, List.length_append, List.length_cons] at this
      simp only at h1
      unfold LIM
      omega
    refine ⟨(L ++ [(drawN m (1 + drawV Q 4).toNat (drawP Q 4)).1], (drawN m (1 + drawV Q 4).toNat (drawP Q 4)).2), ?_, ?_, ?_, ?_⟩
    · have hq := run_draw (fs := fs) (n := n) (st := st.set a (penO Q) ++ [Ob.lst (ils L)]) (a := a) (m := 4) (by simp [h]) (by decide) (by decide)
      have hst : ∀ R : Pen, isPen (st ++ [Ob.lst (ils L)]) a = true := fun _ => by simp [h]
      have hcomp : ∀ x6 x7, ev (callF fs GG (n + 1)) GG f21_c2 [some (.r a), some (.d (.int w)), some (.d (.int t)), some (.d (.int s)), some (.r st.length), some (.d (.int m)), x6, some (.d (.int (1 + drawV Q 4))), x7, none, none] ((st ++ [Ob.lst (ils L)]).set a (penO (drawP Q 4))) =
          .ok (.d (.list ((drawN m (1 + drawV Q 4).toNat (drawP Q 4)).1.map .int))) ((st ++ [Ob.lst (ils L)]).set a (penO (drawN m (1 + drawV Q 4).toNat (drawP Q 4)).2)) := by
        intro x6 x7
        simp only [f21_c2, ev_lc, evI_r1, ev_var, List.getElem?_cons_succ, List.getElem?_cons_zero, Res.bind_ok, hs4, if_true, rangeL_0, compL_map]
        rw [compL_draws (hst Q) (m := m)]
        · rw [List.length_range]
          rfl
        · intro x R
          have hr := run_draw (fs := fs) (n := n) (st := (st ++ [Ob.lst (ils L)]).set a (penO R)) (a := a) (m := m) (isPen_set (hst Q) R) hm (by omega)
          rw [penAt_set (hst Q), List.set_set] at hr
          simp [hr]
      rw [set_pen_app h, set_pen_app h] at hcomp
      have hs5 : smallB (1 + drawV Q 4) = true := hs4
      simp only [ils] at hq hcomp ⊢
      simp [f21_b0, hq, h, hcomp, lstAt, atVar, change, appSlot, hL, show a < st.length + 1 by omega]
    · simp [h1]
    · intro f hf
      rcases List.mem_append.mp hf with hf | hf
      · exact h2 f hf
      · rw [List.mem_singleton] at hf
        subst hf
        have hl := drawN_len m (1 + drawV Q 4).toNat (drawP Q 4)
        refine ⟨fun e => ?_, by omega⟩
        rw [e] at hl
        simp at hl
        omega
    · intro f hf
      rcases List.mem_append.mp hf with hf | hf
      · exact h3 f hf
      · rw [List.mem_singleton] at hf
        subst hf
        intro p hp
        have := drawN_lt hm _ _ p hp
        omega
  obtain ⟨z, e, h1, h2, h3⟩ := fin
  rw [List.length_range] at h1
  refine ⟨z.1, z.2, e, made_drawn (fun q => ?_) (by omega) h2 h3⟩
  rw [q] at h1
  simp at h1
  omega
/-- the block that is drawn -/
theorem run_lblock {a : Nat} (h : isPen st a = true) : ∃ (B : Bk) (P : Pen), IsBk B ∧ callF fs GG (n + 2) 21 [.r a] st = .ok (.d (.tuple (B.map fc))) (st.set a (penO P)) := by
  have ha := pen_lt h
  obtain ⟨P0, hP0⟩ : ∃ P, penAt st a = P := ⟨_, rfl⟩
  have b5 := drawV_lt P0 (m := 5) (by decide)
  have b4 := drawV_lt (drawP (drawP P0 5) 10) (m := 4) (by decide)
  obtain ⟨s, hs, s1, s2⟩ := step_get b4.1 b4.2
  generalize ht : drawV (drawP P0 5) 10 = t
  have d1 := run_draw (fs := fs) (n := n) (st := st) (a := a) (m := 5) h (by decide) (by decide)
  have d2 := fun P => run_draw (fs := fs) (n := n) (st := st.set a (penO P)) (a := a) (m := 10) (isPen_set h P) (by decide) (by decide)
  have d3 := fun P => run_draw (fs := fs) (n := n) (st := st.set a (penO P)) (a := a) (m := 4) (isPen_set h P) (by decide) (by decide)
  have d4 := fun P => run_draw (fs := fs) (n := n) (st := st.set a (penO P)) (a := a) (m := 20) (isPen_set h P) (by decide) (by decide)
  simp only [penAt_set h, List.set_set] at d2 d3 d4
  rw [hP0] at d1
  /- what follows when the faces are there -/
  have tail : ∀ (L : List (List Int)) (Q : Pen) (x5 : Option W), Made L → IsBk (closed (L.map (nameF s t))) ∧ ((ev (callF fs GG (n + 1)) GG (.call 20 (.cons f21_c1 .nil)) [some (.r a), some (.d (.int (drawV P0 5))), some (.d (.int t)), some (.d (.int s)), some (.r st.length), x5, none, none, none, none, none] (st.set a (penO Q) ++ [Ob.lst (ils L)])) =
      .ok (.d (.tuple ((closed (L.map (nameF s t))).map fc))) (st.set a (penO Q) ++ [Ob.frz (.list (ils L))])) := by
    intro L Q x5 hL
    refine ⟨named_bk hL.some hL.good (hL.keys s t), ?_⟩
    have c1 := block_c1 (fs := fs) (n := n + 1) (st := st.set a (penO Q) ++ [Ob.lst (ils L)]) (L := L) (s := s) (t := t) (b := st.length) (fun f hf => (hL.good f hf).2) ⟨s1, s2⟩ (some (.r a)) (some (.d (.int (drawV P0 5)))) x5 none none none none none (by simp)
    have rc := run_closed (fs := fs) (n := n) (st := st.set a (penO Q) ++ [Ob.frz (.list (ils L))]) (L.map (nameF s t)) (fun f hf => by
      obtain ⟨g, hg, rfl⟩ := List.mem_map.mp hf
      exact named_isF s t (hL.good g hg).1 (hL.good g hg).2) (by simpa using hL.some) (by simpa using hL.few)
    simp [c1]
    simpa using rc
  rw [callF_of rfl]
  by_cases hw : drawV P0 5 < 2
  · generalize hk : drawV (drawP (drawP (drawP P0 5) 10) 4) 20 = k
    have b20 := drawV_lt (drawP (drawP (drawP P0 5) 10) 4) (m := 20) (by decide)
    rw [hk] at b20
    have hL := made_known (k := k.toNat) (by omega)
    have kn := fun st' => run_knownI (fs := fs) (n := n) (st := st') k b20.1 b20.2
    generalize knownT.getD k.toNat [] = K at hL kn
    obtain ⟨hB, ht2⟩ := tail _ (drawP (drawP (drawP (drawP P0 5) 10) 4) 20) none hL
    refine ⟨_, drawP (drawP (drawP (drawP P0 5) 10) 4) 20, hB, ?_⟩
    simp only [ev_call, evs_cons, evs_nil, Res.bind_ok] at ht2
    simp [f21, startE, d1, d2, d3, d4, hs, ht, hw, hk, kn, ht2]
  · have hw2 : 2 ≤ drawV P0 5 := by omega
    obtain ⟨q, hq, q1, q2⟩ := many_get hw2 b5.2
    have d5 := fun P => run_draw (fs := fs) (n := n) (st := st.set a (penO P)) (a := a) (m := q) (isPen_set h P) (by omega) (by omega)
    simp only [penAt_set h, List.set_set] at d5
    generalize hm : 1 + drawV (drawP (drawP (drawP P0 5) 10) 4) q = m
    have bq := drawV_lt (drawP (drawP (drawP P0 5) 10) 4) (m := q) (by omega)
    obtain ⟨L, P', e, hL⟩ := block_l0 (fs := fs) (n := n) (st := st) (a := a) (s := s) (t := t) (m := m) (w := drawV P0 5) h (by omega) (by omega) (drawP (drawP (drawP (drawP P0 5) 10) 4) q) none none none
    obtain ⟨hB, ht2⟩ := tail _ P' (some (.d (.int m))) hL
    refine ⟨_, P', hB, ?_⟩
    simp only [ev_call, evs_cons, evs_nil, Res.bind_ok] at ht2
    simp [f21, startE, d1, d2, d3, hs, ht, hw, hq, d5, hm, freshE, newOb, e, ht2]
end
end TB
set_option maxRecDepth 100000
set_option maxHeartbeats 2000000
namespace TB
open PySem PySem.W
/-! LShape: counts, cones. -/
/-! sorted whole numbers -/
def leI (a b : Int) : Bool := !decide (b < a)
theorem sortD_int (L : List Int) : sortD (L.map .int) = (L.mergeSort leI).map .int := by
  unfold sortD
  rw [List.map_mergeSort (s := dataLe false id)]
  intro a _ b _
  rw [dataLe_eq]
  simp only [id, cond_false]
  rw [dataLt_int]
  rfl
theorem sorted_int {L : List Int} (hl : L.length ≤ LIM) : sortedD (L.map .int) = some (.list ((L.mergeSort leI).map .int)) := by
  unfold sortedD
  have a1 : alikeAllB (L.map .int) = true := by
    simp only [alikeAllB, List.all_map, List.all_eq_true, Function.comp]
    intro a _ b _
    simp [alike]
  have a2 : sortableB (L.map .int) = true := by
    unfold sortableB
    rw [Bool.or_eq_true]
    right
    rw [List.all_map, List.all_eq_true]
    intro f _
    rfl
  have a3 : (L.map PyData.int).all shapedB = true := by
    rw [List.all_map, List.all_eq_true]
    intro f _
    exact shaped_enc (e := PyData.int) (by decide) f
  rw [a1, a2, a3, List.length_map, decide_eq_true hl, sortD_int]
  rfl
theorem sortI_rise {L : List Int} (nd : L.Nodup) : (L.mergeSort leI).Pairwise fun a b => a < b := by
  have h1 : (L.mergeSort leI).Pairwise fun a b => leI a b = true := List.pairwise_mergeSort (by
    intro a b c h1 h2
    simp only [leI, Bool.not_eq_true', decide_eq_false_iff_not] at *
    omega) (by
    intro a b
    simp only [leI, Bool.or_eq_true, Bool.not_eq_true', decide_eq_false_iff_not]
    omega) L
  have h2 : (L.mergeSort leI).Nodup := (List.mergeSort_perm _ _).nodup_iff.mpr nd
  refine (h1.and h2).imp fun {a b} h => ?_
  have := h.1
  simp only [leI, Bool.not_eq_true', decide_eq_false_iff_not] at this
  have := h.2
  omega
/-- a face and a point -/
def wp (f : Face) (p : Int) : Face := (f ++ [p]).mergeSort leI
theorem mem_wp {f : Face} {p x : Int} : x ∈ wp f p ↔ x ∈ f ∨ x = p := by
  unfold wp
  rw [(List.mergeSort_perm _ _).mem_iff]
  simp
theorem wp_len (f : Face) (p : Int) : (wp f p).length = f.length + 1 := by
  unfold wp
  rw [(List.mergeSort_perm _ _).length_eq]
  simp
theorem isF_nd {f : Face} (h : isF f = true) : f.Nodup := ((isF_iff f).mp h).2.2.2.imp fun {a b} q e => by omega
theorem wp_rise {f : Face} {p : Int} (h : isF f = true) (hp : p ∉ f) : (wp f p).Pairwise fun a b => a < b := sortI_rise (by
  rw [List.nodup_append]
  refine ⟨isF_nd h, by simp, fun a ha b hb => ?_⟩
  rw [List.mem_singleton] at hb
  subst hb
  intro e
  subst e
  exact hp ha)
/-- number 45: with_point -/
def f45 : TB.Fn := ⟨2, 2, (.cons (.ret (.bi .tuple (.cons (.bi .sorted (.cons (.bin .Add (.var 0) (.tup (.cons (.var 1) .nil))) .nil)) .nil))) .nil)⟩
section
variable {fs : Tbl} [Has fs 45 f45] {n : Nat} {st : Sto}
theorem run_wp (f : Face) (p : Int) (hf : f.length ≤ 1000) : callF fs GG (n + 1) 45 [.d (fc f), .d (.int p)] st = .ok (.d (fc (wp f p))) st := by
  rw [callF_of rfl]
  have h1 : f.length + 1 ≤ LIM := by unfold LIM; omega
  have h2 : biD .sorted [fc (f ++ [p])] = some (.list ((wp f p).map .int)) := sorted_int (L := f ++ [p]) (by simpa using h1)
  simp [f45, startE, h1, h2, fc_tup]
end
/-- number 40: counts_of -/
def f40_c0 : TB.E := .lc (.bi .len (.cons (.call 38 (.cons (.var 0) (.cons (.var 1) .nil))) .nil)) (.nm 1) (.r2 (.cn (.int 1)) (.bin .Add (.call 39 (.cons (.var 0) .nil)) (.cn (.int 1)))) [1] .no
def f40 : TB.Fn := ⟨1, 2, (.cons (.retN f40_c0) .nil)⟩
section
variable {fs : Tbl} [Has fs 38 f38] [Has fs 39 f39] [Has fs 40 f40] {n : Nat} {st : Sto}
def cnts (B : Bk) : List Int := (List.range (most B)).map fun k : Nat => ((sized B (1 + (k : Int))).length : Int)
theorem cnts_len (B : Bk) : (cnts B).length = TB.most B := by simp [cnts]
theorem most_le {B : Bk} {f : Face} (h : f ∈ B) : f.length ≤ most B := by
  induction B with
  | nil => cases h
  | cons g B ih =>
    have e : most (g :: B) = max g.length (most B) := rfl
    rw [e]
    rcases List.mem_cons.mp h with rfl | h
    · exact Nat.le_max_left _ _
    · exact Nat.le_trans (ih h) (Nat.le_max_right _ _)
theorem most_lt {B : Bk} {k : Nat} (h : ∀ f ∈ B, f.length ≤ k) : most B ≤ k := by
  induction B with
  | nil => exact Nat.zero_le _
  | cons g B ih =>
    have e : most (g :: B) = max g.length (most B) := rfl
    rw [e]
    exact Nat.max_le.mpr ⟨h g (List.mem_cons_self ..), ih fun f hf => h f (List.mem_cons_of_mem _ hf)⟩
theorem IsBk.ne {B : Bk} (h : IsBk B) : B ≠ [] := by
  intro e
  have := h.one
  subst e
  simp at this
theorem IsBk.most {B : Bk} (h : IsBk B) : TB.most B ≤ 5 := most_lt fun f hf => (isF_len (h.face f hf)).2
theorem run_countsOf {B : Bk} (h : IsBk B) : callF fs GG (n + 2) 40 [.d (.tuple (B.map fc))] st = .ok (.r st.length) (st ++ [.lst ((cnts B).map .int)]) := by
  rw [callF_of rfl]
  have hm := run_most (fs := fs) (n := n) (st := st) h.ne
  have h5 := h.most
  have hc : cnts B = (List.range (most B)).map fun k : Nat => ((sized B (1 + (k : Int))).length : Int) := rfl
  generalize most B = M at hm h5 hc
  obtain ⟨Z, hZ⟩ : ∃ Z : Int, Z = M := ⟨_, rfl⟩
  rw [← hZ] at hm
  have hs : smallB (Z + 1) = true := by simp [smallB]; omega
  have hs1 : smallB 1 = true := by simp [smallB]
  have e : Z.toNat = M := by omega
  clear hZ h5
  simp [f40, f40_c0, startE, hm, hs, hs1, e, run_facesOf, freshE, newOb, hc]
end
/-- number 42: counts -/
def f42 : TB.Fn := ⟨1, 1, (.cons (.exprX 24 (.cons (.var 0) .nil)) (.cons (.retN (.call 40 (.cons (.var 0) .nil))) .nil))⟩
section
variable {fs : Tbl} [Has fs 2 f2] [Has fs 0 f0] [Has fs 1 f1] [Has fs 3 f3] [Has fs 13 f13] [Has fs 14 f14] [Has fs 24 f24] [Has fs 38 f38] [Has fs 39 f39] [Has fs 40 f40] [Has fs 42 f42] {n : Nat} {st : Sto}
theorem run_counts {B : Bk} (h : IsBk B) : callF fs GG (n + 6) 42 [.d (.tuple (B.map fc))] st = .ok (.r st.length) (st ++ [.lst ((cnts B).map .int)]) := by
  rw [callF_of rfl]
  simp [f42, startE, run_needB h, run_countsOf h]
end
/-- number 41: by_turns -/
def f41_c0 : TB.E := .lc (.bin .Mult (.var 2) (.bin .Sub (.cn (.int 1)) (.bin .Mult (.cn (.int 2)) (.bin .Mod (.var 1) (.cn (.int 2)))))) (.tp [1, 2]) (.en (.var 0)) [1, 2] .no
def f41_a0 : TB.E := .bi .sum (.cons f41_c0 .nil)
def f41 : TB.Fn := ⟨1, 3, (.cons (.ret f41_a0) .nil)⟩
section
variable {fs : Tbl} [Has fs 41 f41] {n : Nat} {st : Sto}
/-- by turns -/
def turns : List Int → Int
  | [] => 0
  | a :: L => a - turns L
theorem turns_idx : ∀ (L : List Int) (k : Nat), ((L.zipIdx k).map fun p : Int × Nat => p.1 * (1 - 2 * ((p.2 : Int) % 2))).sum = (1 - 2 * ((k : Int) % 2)) * turns L
  | [], k => by simp [turns]
  | a :: L, k => by
    rw [List.zipIdx_cons, List.map_cons, List.sum_cons, turns_idx L (k + 1), turns]
    have : ((k : Int) % 2 = 0 ∧ ((k + 1 : Nat) : Int) % 2 = 1) ∨ ((k : Int) % 2 = 1 ∧ ((k + 1 : Nat) : Int) % 2 = 0) := by omega
    rcases this with ⟨h1, h2⟩ | ⟨h1, h2⟩ <;> rw [h1, h2] <;> omega
theorem run_turns (L : List Int) (hl : ∀ x ∈ L, -(2 ^ 64) < x ∧ x < 2 ^ 64) : callF fs GG (n + 1) 41 [.d (.list (L.map .int))] st = .ok (.d (.int (turns L))) st := by
  rw [callF_of rfl]
  have e := turns_idx L 0
  simp only [Int.ofNat_zero] at e
  have hc : ev (callF fs GG n) GG f41_c0 [some (.d (.list (L.map .int))), none, none] st = .ok (.d (.list ((L.zipIdx 0).map fun p => .int (p.1 * (1 - 2 * ((p.2 : Int) % 2)))))) st := by
    simp only [f41_c0, ev_lc, evI_en, ev_var, List.getElem?_cons_zero, Res.bind_ok, val_d, listD, Option.map_some, ofO_some, enumL_map, compL_map]
    rw [compL_all (g := fun p => .int (p.1 * (1 - 2 * ((p.2 : Int) % 2))))]
    · rfl
    · rintro ⟨x, k⟩ hx
      have h1 := hl x (List.fst_mem_of_mem_zipIdx hx)
      have h2 : mulOk 2 ((k : Int) % 2) = true := by simp [mulOk]
      have h3 : mulOk x (1 - 2 * ((k : Int) % 2)) = true := by simp [mulOk]; left; exact h1
      simp [h2, h3]
  simp [f41, f41_a0, startE, hc]
  simpa using e
end
/-- number 43: balance -/
def f43 : TB.Fn := ⟨1, 1, (.cons (.exprX 24 (.cons (.var 0) .nil)) (.cons (.ret (.call 41 (.cons (.fz (.call 40 (.cons (.var 0) .nil))) .nil))) .nil))⟩
section
variable {fs : Tbl} [Has fs 2 f2] [Has fs 0 f0] [Has fs 1 f1] [Has fs 3 f3] [Has fs 13 f13] [Has fs 14 f14] [Has fs 24 f24] [Has fs 41 f41] [Has fs 38 f38] [Has fs 39 f39] [Has fs 40 f40] [Has fs 43 f43] {n : Nat} {st : Sto}
theorem cnts_small {B : Bk} (h : IsBk B) : ∀ x ∈ cnts B, -(2 ^ 64) < x ∧ x < 2 ^ 64 := by
  intro x hx
  obtain ⟨k, _, rfl⟩ := List.mem_map.mp hx
  have h1 : (sized B (1 + (k : Int))).length ≤ B.length := List.length_filter_le _ _
  have := h.few
  omega
theorem run_balance {B : Bk} (h : IsBk B) : callF fs GG (n + 6) 43 [.d (.tuple (B.map fc))] st = .ok (.d (.int (turns (cnts B)))) st := by
  rw [callF_of rfl]
  simp [f43, startE, run_needB h, run_countsOf h, run_turns _ (cnts_small h)]
end
end TB
set_option maxRecDepth 100000
set_option maxHeartbeats 2000000
namespace TB
open PySem PySem.W
/-! LCone: cones. -/
theorem rims_idx {f r : Face} : r ∈ rims f ↔ f.length ≠ 1 ∧ ∃ k, k < f.length ∧ f.eraseIdx k = r := by
  unfold rims
  split
  · rename_i h; simp [h]
  · rename_i h
    rw [List.mem_map]
    constructor
    · rintro ⟨k, hk, rfl⟩
      exact ⟨h, k, List.mem_range.mp hk, List.eraseIdx_eq_take_drop_succ f k⟩
    · rintro ⟨_, k, hk, rfl⟩
      exact ⟨k, List.mem_range.mpr hk, (List.eraseIdx_eq_take_drop_succ f k).symm⟩
theorem sub_idx {s f : Face} (h : s.Sublist f) : s.length + 1 = f.length → ∃ k, k < f.length ∧ f.eraseIdx k = s := by
  induction h with
  | slnil => intro e; simp at e
  | cons a h ih =>
    intro e
    have := h.eq_of_length (by simpa using e)
    subst this
    exact ⟨0, by simp, rfl⟩
  | cons_cons a h ih =>
    intro e
    obtain ⟨k, h1, h2⟩ := ih (by simpa using e)
    exact ⟨k + 1, by simpa using h1, by rw [List.eraseIdx_cons_succ, h2]⟩
theorem sub_rim {s f : Face} (h : s.Sublist f) (e : s.length + 1 = f.length) (n : s ≠ []) : s ∈ rims f := by
  rw [rims_idx]
  refine ⟨fun q => n (List.eq_nil_of_length_eq_zero (by omega)), sub_idx h e⟩
theorem IsBk.pt {B : Bk} (h : IsBk B) {x : Int} : ∀ (n : Nat) {f : Face}, f.length = n → f ∈ B → x ∈ f → [x] ∈ B
  | 0, f, hl, _, hx => by rw [List.eq_nil_of_length_eq_zero hl] at hx; cases hx
  | 1, f, hl, hf, hx => by
    obtain ⟨a, rfl⟩ := List.length_eq_one_iff.mp hl
    rw [List.mem_singleton] at hx
    subst hx
    exact hf
  | n + 2, f, hl, hf, hx => by
    match f, hl with
    | a :: b :: t, hl =>
      by_cases e : x = a
      · refine h.pt (n + 1) (f := a :: t) (by simpa using hl) (h.whole _ hf _ ?_) (by rw [e]; exact List.mem_cons_self ..)
        exact sub_rim (List.Sublist.cons_cons a (List.sublist_cons_self b t)) (by simp) (by simp)
      · refine h.pt (n + 1) (f := b :: t) (by simpa using hl) (h.whole _ hf _ ?_) ((List.mem_cons.mp hx).resolve_left e)
        exact sub_rim (List.sublist_cons_self a _) (by simp) (by simp)
def coneB (B : Bk) (p : Int) : Bk := srt (B ++ [[p]] ++ B.map fun f => wp f p)
theorem mem_cone {B : Bk} {p : Int} {g : Face} : g ∈ coneB B p ↔ g ∈ B ∨ g = [p] ∨ ∃ f ∈ B, wp f p = g := by
  unfold coneB
  rw [mem_srt, List.mem_append, List.mem_append, List.mem_singleton, List.mem_map, or_assoc]
/-- a block and a new point -/
structure Cn (B : Bk) (p : Int) : Prop where
  bk : IsBk B
  lo : 0 ≤ p
  hi : p ≤ 9
  new : [p] ∉ B
  few : B.length ≤ 29
  four : ∀ f ∈ B, f.length ≤ 4
theorem Cn.out {B : Bk} {p : Int} (h : Cn B p) {f : Face} (hf : f ∈ B) : p ∉ f := fun q => h.new (h.bk.pt _ rfl hf q)
theorem Cn.wpF {B : Bk} {p : Int} (h : Cn B p) {f : Face} (hf : f ∈ B) : isF (wp f p) = true := by
  have h1 := h.bk.face f hf
  rw [isF_iff]
  refine ⟨by rw [wp_len]; omega, by have := h.four f hf; rw [wp_len]; omega, fun i hi => ?_, wp_rise h1 (h.out hf)⟩
  rcases mem_wp.mp hi with hi | rfl
  · exact ((isF_iff f).mp h1).2.2.1 i hi
  · exact ⟨h.lo, h.hi⟩
theorem ptF {p : Int} (h1 : 0 ≤ p) (h2 : p ≤ 9) : isF [p] = true := by
  rw [isF_iff]
  simp [h1, h2]
theorem wp_filter {f : Face} {p : Int} (h : isF f = true) (hp : p ∉ f) : (wp f p).filter (fun x => decide (x ≠ p)) = f :=
  rise_one ((wp_rise h hp).sublist List.filter_sublist) ((isF_iff f).mp h).2.2.2 fun k => by
    rw [List.mem_filter, mem_wp, decide_eq_true_eq]
    constructor
    · rintro ⟨h1 | h1, h2⟩
      · exact h1
      · exact absurd h1 h2
    · intro h1
      exact ⟨.inl h1, fun e => hp (by rw [← e]; exact h1)⟩
theorem Cn.nd {B : Bk} {p : Int} (h : Cn B p) : (B ++ [[p]] ++ B.map fun f => wp f p).Nodup := by
  have hin : ∀ f, p ∈ wp f p := fun f => mem_wp.mpr (.inr rfl)
  rw [List.nodup_append, List.nodup_append]
  refine ⟨⟨h.bk.nd, by simp, fun a ha b hb => ?_⟩, ?_, fun a ha b hb => ?_⟩
  · rw [List.mem_singleton] at hb
    subst hb
    intro e
    subst e
    exact h.new ha
  · rw [List.Nodup, List.pairwise_map]
    refine h.bk.nd.imp_of_mem fun {a b} ha hb n e => n ?_
    rw [← wp_filter (h.bk.face a ha) (h.out ha), e, wp_filter (h.bk.face b hb) (h.out hb)]
  · obtain ⟨f, hf, rfl⟩ := List.mem_map.mp hb
    rintro rfl
    rcases List.mem_append.mp ha with ha | ha
    · exact h.out ha (hin f)
    · rw [List.mem_singleton] at ha
      have h1 := wp_len f p
      rw [ha] at h1
      have := (isF_len (h.bk.face f hf)).1
      rw [List.length_singleton] at h1
      omega
theorem Cn.len {B : Bk} {p : Int} : (coneB B p).length = 2 * B.length + 1 := by
  unfold coneB
  rw [srt_len, List.length_append, List.length_append, List.length_map, List.length_singleton]
  omega
theorem Cn.cone {B : Bk} {p : Int} (h : Cn B p) : IsBk (coneB B p) where
  face g hg := by
    rcases mem_cone.mp hg with hg | rfl | ⟨f, hf, rfl⟩
    · exact h.bk.face g hg
    · exact ptF h.lo h.hi
    · exact h.wpF hf
  one := by rw [Cn.len]; omega
  few := by rw [Cn.len]; have := h.few; omega
  rise := srt_rise h.nd
  whole g hg r hr := by
    rw [mem_cone]
    rcases mem_cone.mp hg with hg | rfl | ⟨f, hf, rfl⟩
    · exact .inl (h.bk.whole g hg r hr)
    · unfold rims at hr
      simp at hr
    · have hF := h.bk.face f hf
      obtain ⟨h1, h2⟩ := rim_sub hr
      rw [wp_len] at h2
      have hs : (r.filter fun x => decide (x ≠ p)).Sublist f := by
        have := h1.filter (fun x => decide (x ≠ p))
        rwa [wp_filter hF (h.out hf)] at this
      have rr : r.Pairwise fun a b => a < b := (wp_rise hF (h.out hf)).sublist h1
      have rn : r.Nodup := rr.imp fun {a b} q e => by omega
      by_cases hp : p ∈ r
      · right
        have hl : (r.filter fun x => decide (x ≠ p)).length + 1 = r.length := by
          have e : (r.filter fun x => decide (x ≠ p)) = r.erase p := by
            rw [rn.erase_eq_filter]
            congr 1
            funext x
            by_cases e : x = p <;> simp [e]
          rw [e, List.length_erase_of_mem hp]
          have := List.length_pos_of_mem hp
          omega
        by_cases z : (r.filter fun x => decide (x ≠ p)) = []
        · left
          rw [z] at hl
          obtain ⟨a, rfl⟩ := List.length_eq_one_iff.mp hl.symm
          rw [List.mem_singleton] at hp
          rw [hp]
        · right
          have hB := h.bk.whole f hf _ (sub_rim hs (by omega) z)
          refine ⟨_, hB, ?_⟩
          refine rise_one (wp_rise (h.bk.face _ hB) (h.out hB)) rr fun k => ?_
          rw [mem_wp, List.mem_filter, decide_eq_true_eq]
          by_cases e : k = p
          · subst e; simp [hp]
          · simp [e]
      · left
        have e : (r.filter fun x => decide (x ≠ p)) = r := List.filter_eq_self.mpr fun a ha => by
          rw [decide_eq_true_eq]
          intro q
          exact hp (by rw [← q]; exact ha)
        rw [e] at hs
        rw [hs.eq_of_length (by omega)]
        exact hf
theorem Cn.without {B : Bk} {p : Int} (h : Cn B p) : (coneB B p).filter (fun g => decide (p ∉ g)) = B :=
  bk_eq (h.cone.rise.sublist List.filter_sublist) h.bk.rise fun x => by
    rw [List.mem_filter, decide_eq_true_eq, mem_cone]
    constructor
    · rintro ⟨h1 | rfl | ⟨f, hf, rfl⟩, h2⟩
      · exact h1
      · simp at h2
      · exact absurd (mem_wp.mpr (.inr rfl)) h2
    · intro hx
      exact ⟨.inl hx, h.out hx⟩
theorem Cn.around {B : Bk} {p : Int} (h : Cn B p) : (coneB B p).filter (fun g => decide (p ∉ g) && decide (wp g p ∈ coneB B p)) = B :=
  bk_eq (h.cone.rise.sublist List.filter_sublist) h.bk.rise fun x => by
    rw [List.mem_filter, Bool.and_eq_true, decide_eq_true_eq, decide_eq_true_eq]
    constructor
    · rintro ⟨h1, h2, _⟩
      rcases mem_cone.mp h1 with h1 | rfl | ⟨f, hf, rfl⟩
      · exact h1
      · simp at h2
      · exact absurd (mem_wp.mpr (.inr rfl)) h2
    · intro hx
      exact ⟨mem_cone.mpr (.inl hx), h.out hx, mem_cone.mpr (.inr (.inr ⟨x, hx, rfl⟩))⟩
/-! counts -/
theorem sum_one (w : Nat → Int) (j : Nat) : ∀ M, ((List.range M).map fun k => if j = k then w k else 0).sum = if j < M then w j else 0
  | 0 => by simp
  | M + 1 => by
    rw [List.range_succ, List.map_append, List.sum_append, sum_one w j M]
    simp only [List.map_cons, List.map_nil, List.sum_cons, List.sum_nil]
    by_cases h1 : j < M
    · rw [if_pos h1, if_neg (by omega), if_pos (by omega)]; simp
    · by_cases h2 : j = M
      · subst h2; simp
      · rw [if_neg h1, if_neg h2, if_neg (by omega)]; simp
theorem sum_plus {α : Type} (a b : α → Int) : ∀ L : List α, (L.map fun k => a k + b k).sum = (L.map a).sum + (L.map b).sum
  | [] => rfl
  | x :: L => by
    simp only [List.map_cons, List.sum_cons, sum_plus a b L]
    omega
theorem sum_sized (w : Nat → Int) (M : Nat) : ∀ B : Bk, (∀ f ∈ B, 1 ≤ f.length ∧ f.length ≤ M) → ((List.range M).map fun k : Nat => ((sized B (1 + (k : Int))).length : Int) * w k).sum = (B.map fun f => w (f.length - 1)).sum
  | [], _ => by
    have : ∀ L : List Nat, (L.map fun k : Nat => ((sized [] (1 + (k : Int))).length : Int) * w k).sum = 0 := fun L => by
      induction L with
      | nil => rfl
      | cons x L ih => rw [List.map_cons, List.sum_cons, ih]; simp [sized]
    rw [this]; rfl
  | f :: B, h => by
    have ih := sum_sized w M B fun g hg => h g (List.mem_cons_of_mem _ hg)
    have hf := h f (List.mem_cons_self ..)
    rw [List.map_cons, List.sum_cons, ← ih]
    have e : (fun k : Nat => ((sized (f :: B) (1 + (k : Int))).length : Int) * w k) = fun k : Nat => (if f.length - 1 = k then w k else 0) + ((sized B (1 + (k : Int))).length : Int) * w k := by
      funext k
      unfold sized
      rw [List.filter_cons]
      by_cases q : f.length - 1 = k
      · rw [if_pos q, if_pos (by simp; omega), List.length_cons]
        simp only [Int.natCast_add, Int.add_mul]
        simp
        omega
      · rw [if_neg q, if_neg (by simp; omega)]
        omega
    rw [e, sum_plus, sum_one, if_pos (by omega)]
def sg (f : Face) : Int := 1 - 2 * (((f.length - 1 : Nat) : Int) % 2)
def chi (B : Bk) : Int := (B.map sg).sum
theorem IsBk.sizes {B : Bk} (h : IsBk B) : ∀ f ∈ B, 1 ≤ f.length ∧ f.length ≤ TB.most B := fun f hf => ⟨(isF_len (h.face f hf)).1, most_le hf⟩
theorem cnts_sum {B : Bk} (h : IsBk B) : (cnts B).sum = B.length := by
  have e := sum_sized (fun _ => 1) (most B) B h.sizes
  simp only [Int.mul_one] at e
  unfold cnts
  rw [e]
  have : ∀ L : Bk, (L.map fun _ => (1 : Int)).sum = L.length := fun L => by
    induction L with
    | nil => rfl
    | cons x L ih => rw [List.map_cons, List.sum_cons, ih, List.length_cons]; omega
  exact this B
theorem cnts_turns {B : Bk} (h : IsBk B) : turns (cnts B) = chi B := by
  have e := sum_sized (fun k => 1 - 2 * ((k : Int) % 2)) (most B) B h.sizes
  have t := turns_idx (cnts B) 0
  have z : ∀ (M : Nat) (g : Nat → Int), (((List.range M).map g).zipIdx 0).map (fun p : Int × Nat => p.1 * (1 - 2 * ((p.2 : Int) % 2))) = (List.range M).map fun k => g k * (1 - 2 * ((k : Int) % 2)) := by
    intro M g
    apply List.ext_getElem
    · simp
    · intro i h1 h2
      simp
  unfold cnts at t ⊢
  rw [z, e] at t
  simp at t
  rw [← t]
  rfl
theorem sg_wp (f : Face) (p : Int) (h : 1 ≤ f.length) : sg (wp f p) = - sg f := by
  unfold sg
  rw [wp_len]
  have : (f.length + 1 - 1 : Nat) = (f.length - 1) + 1 := by omega
  rw [this]
  omega
theorem sum_perm {A B : List Int} (h : A.Perm B) : A.sum = B.sum := by
  induction h with
  | nil => rfl
  | cons x _ ih => rw [List.sum_cons, List.sum_cons, ih]
  | swap x y l => simp only [List.sum_cons]; omega
  | trans _ _ h1 h2 => exact h1.trans h2
theorem Cn.chi {B : Bk} {p : Int} (h : Cn B p) : TB.chi (coneB B p) = 1 := by
  unfold TB.chi coneB
  rw [sum_perm ((srt_perm _).map sg), List.map_append, List.map_append, List.sum_append, List.sum_append, List.map_map]
  have e : ∀ L : Bk, (∀ f ∈ L, 1 ≤ f.length) → (L.map (sg ∘ fun f => wp f p)).sum = - (L.map sg).sum := fun L hL => by
    induction L with
    | nil => rfl
    | cons f L ih =>
      simp only [List.map_cons, List.sum_cons, Function.comp]
      have := ih fun g hg => hL g (List.mem_cons_of_mem _ hg)
      rw [sg_wp f p (hL f (List.mem_cons_self ..)), this]
      omega
  rw [e B fun f hf => (isF_len (h.bk.face f hf)).1]
  have : (List.map sg [[p]]).sum = 1 := rfl
  omega
theorem most_mem : ∀ {B : Bk}, B ≠ [] → ∃ f ∈ B, f.length = most B
  | [f], _ => ⟨f, List.mem_cons_self .., by simp [most]⟩
  | f :: g :: B, _ => by
    obtain ⟨x, hx, e⟩ := most_mem (B := g :: B) (by simp)
    have e2 : most (f :: g :: B) = max f.length (most (g :: B)) := rfl
    by_cases q : most (g :: B) ≤ f.length
    · exact ⟨f, List.mem_cons_self .., by rw [e2]; omega⟩
    · exact ⟨x, List.mem_cons_of_mem _ hx, by rw [e2]; omega⟩
theorem Cn.most {B : Bk} {p : Int} (h : Cn B p) : TB.most (coneB B p) = TB.most B + 1 := by
  apply Nat.le_antisymm
  · refine most_lt fun f hf => ?_
    rcases mem_cone.mp hf with hf | rfl | ⟨g, hg, rfl⟩
    · have := most_le hf; omega
    · simp
    · have := most_le hg
      rw [wp_len]; omega
  · obtain ⟨f, hf, e⟩ := most_mem h.bk.ne
    have : wp f p ∈ coneB B p := mem_cone.mpr (.inr (.inr ⟨f, hf, rfl⟩))
    have := most_le this
    rw [wp_len] at this
    omega
@[simp] theorem mem_pt1 (p : Int) (L : Bk) : memD (.tuple [.int p]) (.tuple (L.map fc)) = some (decide ([p] ∈ L)) := mem_ft [p] L
@[simp] theorem mem_pt1l (p : Int) (L : Bk) : memD (.tuple [.int p]) (.list (L.map fc)) = some (decide ([p] ∈ L)) := mem_fl [p] L
/-- number 46: cone -/
def f46_c0 : TB.E := .lc (.call 45 (.cons (.var 4) (.cons (.var 1) .nil))) (.nm 4) (.e (.var 0)) [4] .no
def f46 : TB.Fn := ⟨2, 5, (.cons (.exprX 24 (.cons (.var 0) .nil)) (.cons (.ife (.or (.not (.call 1 (.cons (.var 1) (.cons (.cn (.int 0)) (.cons (.glob 0) .nil))))) (.cmp .In (.tup (.cons (.var 1) .nil)) (.var 0))) (.cons (.rais 2 .nil) .nil) .nil) (.cons (.ife (.cmp .Eq (.call 39 (.cons (.var 0) .nil)) (.glob 1)) (.cons .never .nil) .nil) (.cons (.asg 2 (.bin .Add (.bin .Mult (.cn (.int 2)) (.bi .len (.cons (.var 0) .nil))) (.cn (.int 1))) false) (.cons (.ife (.cmp .Gt (.var 2) (.glob 2)) (.cons .never .nil) .nil) (.cons (.asg 3 (.bin .Add (.bin .Add (.bi .list (.cons (.var 0) .nil)) (.lst (.cons (.tup (.cons (.var 1) .nil)) .nil))) f46_c0) false) (.cons (.ret (.bi .tuple (.cons (.bi .sorted (.cons (.var 3) .nil)) .nil))) .nil)))))))⟩
section
variable {fs : Tbl} [Has fs 2 f2] [Has fs 0 f0] [Has fs 1 f1] [Has fs 3 f3] [Has fs 13 f13] [Has fs 14 f14] [Has fs 24 f24] [Has fs 39 f39] [Has fs 45 f45] [Has fs 46 f46] {n : Nat} {st : Sto}
theorem run_cone {B : Bk} {p : Int} (h : Cn B p) : callF fs GG (n + 6) 46 [.d (.tuple (B.map fc)), .d (.int p)] st = .ok (.d (.tuple ((coneB B p).map fc))) st := by
  rw [callF_of rfl]
  have hn : ∀ f ∈ B, f.length ≤ 1000 := fun f hf => by have := h.four f hf; omega
  have hm := run_most (fs := fs) (n := n + 4) (st := st) h.bk.ne
  have h4 : TB.most B ≤ 4 := most_lt h.four
  have h4' : ¬ ((TB.most B : Nat) : Int) = 5 := by omega
  have hf := h.few
  have hl : ¬ (60 : Int) < 2 * (B.length : Int) + 1 := by omega
  have hw : fromB 0 9 (.int p) = true := by simp [fromB, h.lo, h.hi]
  have hc : ev (callF fs GG (n + 5)) GG f46_c0 [some (.d (.tuple (B.map fc))), some (.d (.int p)), some (.d (.int (2 * (B.length : Int) + 1))), none, none] st = .ok (.d (.list ((B.map fun f => wp f p).map fc))) st := by
    simp only [f46_c0, ev_lc, evI_e, ev_var, List.getElem?_cons_zero, Res.bind_ok, val_d, seq_t, ofO_some, compL_map]
    rw [compL_all (g := fun f => fc (wp f p))]
    · simp
    · intro f hf
      simp [run_wp f p (hn f hf)]
  have a1 : binD .Add (.list (B.map fc)) (.list [.tuple [.int p]]) = some (.list ((B ++ [[p]]).map fc)) := by
    have e : (PyData.list [.tuple [.int p]]) = .list ([[p]].map fc) := rfl
    rw [e, List.map_append]
    show (if _ ≤ LIM then _ else _) = _
    rw [if_pos]
    rw [List.length_map, List.length_map, List.length_singleton]
    unfold LIM
    omega
  have a2 : binD .Add (.list ((B ++ [[p]]).map fc)) (.list ((B.map fun f => wp f p).map fc)) = some (.list ((B ++ [[p]] ++ B.map fun f => wp f p).map fc)) := by
    rw [List.map_append (l₁ := B ++ [[p]])]
    show (if _ ≤ LIM then _ else _) = _
    rw [if_pos]
    rw [List.length_map, List.length_map, List.length_map, List.length_append, List.length_singleton]
    unfold LIM
    omega
  have a3 : biD .sorted [.list ((B ++ [[p]] ++ B.map fun f => wp f p).map fc)] = some (.list ((coneB B p).map fc)) := by
    rw [bi_sorted_l, sorted_fc]
    · rfl
    · intro f hf
      rcases mem_cone.mp (mem_srt.mpr hf) with hf | rfl | ⟨g, hg, rfl⟩
      · exact isF_ne (h.bk.face f hf)
      · simp
      · exact isF_ne (h.wpF hg)
    · have := Cn.len (B := B) (p := p)
      unfold coneB at this
      rw [srt_len] at this
      rw [this]
      unfold LIM
      omega
  have hmu : mulOk 2 (B.length : Int) = true := by simp [mulOk]
  generalize B ++ [[p]] ++ B.map (fun f => wp f p) = Y at a2 a3
  generalize B ++ [[p]] = X at a1 a2
  generalize B.map (fun f => wp f p) = Z at a2 hc
  simp [-List.map_append, f46, startE, hmu, run_needB h.bk, run_from, hw, hm, h4', hl, hc, h.new, a1, a2, a3]
end
/-- number 50: need_point -/
def f50 : TB.Fn := ⟨2, 2, (.cons (.ife (.or (.not (.call 1 (.cons (.var 1) (.cons (.cn (.int 0)) (.cons (.glob 0) .nil))))) (.cmp .NotIn (.tup (.cons (.var 1) .nil)) (.var 0))) (.cons (.rais 2 .nil) .nil) .nil) .nil)⟩
/-- number 51: without -/
def f51_c0 : TB.E := .lc (.var 3) (.nm 3) (.e (.var 0)) [3] (.yes (.cmp .NotIn (.var 1) (.var 3)))
def f51_a0 : TB.E := .bi .tuple (.cons f51_c0 .nil)
def f51 : TB.Fn := ⟨2, 4, (.cons (.exprX 24 (.cons (.var 0) .nil)) (.cons (.exprX 50 (.cons (.var 0) (.cons (.var 1) .nil))) (.cons (.asg 2 f51_a0 false) (.cons (.ife (.cmp .Eq (.var 2) (.tup .nil)) (.cons (.rais 2 .nil) .nil) .nil) (.cons (.ret (.var 2)) .nil)))))⟩
/-- number 52: around -/
def f52_c0 : TB.E := .lc (.var 2) (.nm 2) (.e (.var 0)) [2] (.yes (.and (.cmp .NotIn (.var 1) (.var 2)) (.cmp .In (.call 45 (.cons (.var 2) (.cons (.var 1) .nil))) (.var 0))))
def f52_a0 : TB.E := .bi .tuple (.cons f52_c0 .nil)
def f52 : TB.Fn := ⟨2, 3, (.cons (.exprX 24 (.cons (.var 0) .nil)) (.cons (.exprX 50 (.cons (.var 0) (.cons (.var 1) .nil))) (.cons (.ret f52_a0) .nil)))⟩
section
variable {fs : Tbl} [Has fs 2 f2] [Has fs 0 f0] [Has fs 1 f1] [Has fs 3 f3] [Has fs 13 f13] [Has fs 14 f14] [Has fs 24 f24] [Has fs 50 f50] [Has fs 51 f51] [Has fs 45 f45] [Has fs 52 f52] {n : Nat} {st : Sto}
theorem run_needP {B : Bk} {p : Int} (h1 : 0 ≤ p) (h2 : p ≤ 9) (h : [p] ∈ B) : callF fs GG (n + 3) 50 [.d (.tuple (B.map fc)), .d (.int p)] st = .ok (.d .none) st := by
  rw [callF_of rfl]
  have hw : fromB 0 9 (.int p) = true := by simp [fromB, h1, h2]
  simp [f50, startE, run_from, hw, h]
theorem run_without {B : Bk} {p : Int} (hB : IsBk B) (h1 : 0 ≤ p) (h2 : p ≤ 9) (h : [p] ∈ B) (hn : (B.filter fun g => decide (p ∉ g)) ≠ []) : callF fs GG (n + 6) 51 [.d (.tuple (B.map fc)), .d (.int p)] st = .ok (.d (.tuple ((B.filter fun g => decide (p ∉ g)).map fc))) st := by
  rw [callF_of rfl]
  have hc : ev (callF fs GG (n + 5)) GG f51_a0 [some (.d (.tuple (B.map fc))), some (.d (.int p)), none, none] st = .ok (.d (.tuple ((B.filter fun g => decide (p ∉ g)).map fc))) st := by
    have key : ev (callF fs GG (n + 5)) GG f51_c0 [some (.d (.tuple (B.map fc))), some (.d (.int p)), none, none] st = .ok (.d (.list ((B.filter fun g => decide (p ∉ g)).map fc))) st := by
      simp only [f51_c0, ev_lc, evI_e, ev_var, List.getElem?_cons_zero, Res.bind_ok, val_d, seq_t, ofO_some, compL_map]
      rw [compL_filt (p := fun g => decide (p ∉ g)) (g := fc)]
      · rfl
      · intro f hf
        by_cases q1 : p ∈ f <;> simp [q1]
    generalize B.filter (fun g => decide (p ∉ g)) = Z at key
    simp [f51_a0, key]
  generalize B.filter (fun g => decide (p ∉ g)) = Z at hc hn
  have hz : cmpD .Eq (.tuple (Z.map fc)) (fc []) = some false := (eq_ft Z []).trans (by simpa using hn)
  simp [f51, startE, run_needB hB, run_needP h1 h2 h, hc, hz]
theorem run_around {B : Bk} {p : Int} (hB : IsBk B) (h1 : 0 ≤ p) (h2 : p ≤ 9) (h : [p] ∈ B) : callF fs GG (n + 6) 52 [.d (.tuple (B.map fc)), .d (.int p)] st = .ok (.d (.tuple ((B.filter fun g => decide (p ∉ g) && decide (wp g p ∈ B)).map fc))) st := by
  rw [callF_of rfl]
  have hc : ev (callF fs GG (n + 5)) GG f52_a0 [some (.d (.tuple (B.map fc))), some (.d (.int p)), none] st = .ok (.d (.tuple ((B.filter fun g => decide (p ∉ g) && decide (wp g p ∈ B)).map fc))) st := by
    have hl : ∀ f ∈ B, f.length ≤ 1000 := fun f hf => by have := (isF_len (hB.face f hf)).2; omega
    have key : ev (callF fs GG (n + 5)) GG f52_c0 [some (.d (.tuple (B.map fc))), some (.d (.int p)), none] st = .ok (.d (.list ((B.filter fun g => decide (p ∉ g) && decide (wp g p ∈ B)).map fc))) st := by
      simp only [f52_c0, ev_lc, evI_e, ev_var, List.getElem?_cons_zero, Res.bind_ok, val_d, seq_t, ofO_some, compL_map]
      rw [compL_filt (p := fun g => decide (p ∉ g) && decide (wp g p ∈ B)) (g := fc)]
      · rfl
      · intro f hf
        by_cases q1 : p ∈ f
        · simp [q1]
        · by_cases q2 : wp f p ∈ B <;> simp [q1, q2, run_wp f p (hl f hf)]
    simp [f52_a0, key]
  simp [f52, startE, run_needB hB, run_needP h1 h2 h, hc]
end
end TB
set_option maxRecDepth 100000
set_option maxHeartbeats 2000000
namespace TB
open PySem PySem.W
/-! LCell: a law's cells. -/
def cells (ns : List Int) (hi : Int) : List Int := ns.getD 0 0 :: cutD ns (some 1) (some hi)
theorem bi_sumI (L : List Int) : biD .sum [.list (L.map .int)] = some (.int L.sum) := by
  show ((intsD _).map fun ns => PyData.int ns.sum) = _
  rw [ints_map]
  rfl
section
variable {fs : Tbl} [Has fs 6 f6] {n : Nat} {st : Sto}
theorem run_cell0 (ns : List Int) : callF fs GG (n + 1) 6 [.d (.list (ns.map .int)), .d (.int 0)] st = .ok (.d (.int (ns.getD 0 0))) st := by
  rw [callF_of rfl]
  cases ns with
  | nil => simp [f6, startE]
  | cons c ns =>
    have h : (0 : Int) < (ns.length : Int) + 1 := by omega
    have hp : placeOf (ns.length + 1) 0 = some 0 := by
      unfold placeOf
      simp
      try omega
    simp [f6, startE, h, hp]
theorem cut_le {α : Type} (xs : List α) (a b : Option Int) : (cutD xs a b).length ≤ xs.length := by
  unfold cutD
  simp only [List.length_take, List.length_drop]
  omega
theorem evI_cells (ns : List Int) (h : ns.length ≤ 63) (hi : Int) (σ : Ev) : evI (callF fs GG (n + 1)) GG (.e (.bin .Add (.lst (.cons (.call 6 (.cons (.var 0) (.cons (.cn (.int 0)) .nil))) .nil)) (.slc (.var 0) (.yes (.cn (.int 1))) (.yes (.cn (.int hi)))))) (some (.d (.list (ns.map .int))) :: σ) st = .ok ((cells ns hi).map .int) st := by
  have hl : 1 + (cutD ns (some 1) (some hi)).length ≤ LIM := by
    have := cut_le ns (some 1) (some hi)
    unfold LIM
    omega
  simp [run_cell0, hl, cells]
end
end TB
set_option maxRecDepth 100000
set_option maxHeartbeats 2000000
namespace TB
open PySem PySem.W
/-! LShow: how long texts of trees are. -/
theorem str_app_len (a b : Str) : (a ++ b).length = a.length + b.length := by
  show (a.cps ++ b.cps).size = _
  rw [Array.size_append]
  rfl
theorem from_len : ∀ (ts : List Str) (k : Nat) (a : Str), (textFrom k a ts).length ≤ a.length + (ts.map fun t => t.length + 2).sum
  | [], k, a => by rw [textFrom.eq_1]; simp
  | t :: ts, k, a => by
    rw [textFrom.eq_2]
    have h := from_len ts (k + 1) (a ++ Str.ofString (if k > 0 then ", " else "") ++ t)
    rw [str_app_len, str_app_len] at h
    have h2 : (Str.ofString (if k > 0 then ", " else "")).length ≤ 2 := by split <;> decide +kernel
    rw [List.map_cons, List.sum_cons]
    omega
theorem listText_len (ts : List Str) : (listText ts).length ≤ 2 + (ts.map fun t => t.length + 2).sum := by
  unfold listText
  rw [str_app_len]
  have h := from_len ts 0 (Str.ofString "[")
  have h1 : (Str.ofString "[").length = 1 := by decide +kernel
  have h2 : (Str.ofString "]").length = 1 := by decide +kernel
  omega
theorem join_len (sep : Str) : ∀ ts : List Str, (sep.join ts).length ≤ (ts.map fun t => t.length + sep.length).sum
  | [] => by rw [Str.join.eq_1]; exact Nat.zero_le _
  | [t] => by rw [Str.join.eq_2]; simp
  | t :: u :: ts => by
    rw [Str.join.eq_3 _ _ _ (by simp), str_app_len, str_app_len, List.map_cons, List.sum_cons]
    have := join_len sep (u :: ts)
    omega
theorem tupleText_len (ts : List Str) : (tupleText ts).length ≤ 3 + (ts.map fun t => t.length + 2).sum := by
  unfold tupleText
  rw [str_app_len, str_app_len]
  have h := join_len (Str.ofString ", ") ts
  have h1 : (Str.ofString "(").length = 1 := by decide +kernel
  have h2 : (Str.ofString ", ").length = 2 := by decide +kernel
  have h3 : (Str.ofString (if (ts.length == 1) = true then ",)" else ")")).length ≤ 2 := by split <;> decide +kernel
  rw [h2] at h
  omega
theorem sum_le {α : Type} (f : α → Nat) (c : Nat) : ∀ L : List α, (∀ x ∈ L, f x ≤ c) → (L.map f).sum ≤ c * L.length
  | [], _ => by simp
  | x :: L, h => by
    have := sum_le f c L fun y hy => h y (List.mem_cons_of_mem _ hy)
    have := h x (List.mem_cons_self ..)
    rw [List.map_cons, List.sum_cons, List.length_cons, Nat.mul_add]
    omega
theorem shownAll_map : ∀ xs : List D, PyData.shownAll xs = xs.map PyData.shown
  | [] => PyData.shownAll.eq_1
  | x :: xs => by rw [PyData.shownAll.eq_2, shownAll_map xs]; rfl
theorem shown_list_len {xs : List D} {c : Nat} (h : ∀ x ∈ xs, x.shown.length ≤ c) : (PyData.list xs).shown.length ≤ 2 + (c + 2) * xs.length := by
  rw [PyData.shown.eq_5, shownAll_map]
  have h1 := listText_len (xs.map PyData.shown)
  rw [List.map_map] at h1
  have h2 := sum_le ((fun t : Str => t.length + 2) ∘ PyData.shown) (c + 2) xs fun x hx => by
    have := h x hx
    simp only [Function.comp]
    omega
  omega
theorem shown_tuple_len {xs : List D} {c : Nat} (h : ∀ x ∈ xs, x.shown.length ≤ c) : (PyData.tuple xs).shown.length ≤ 3 + (c + 2) * xs.length := by
  rw [PyData.shown.eq_6, shownAll_map]
  have h1 := tupleText_len (xs.map PyData.shown)
  rw [List.map_map] at h1
  have h2 := sum_le ((fun t : Str => t.length + 2) ∘ PyData.shown) (c + 2) xs fun x hx => by
    have := h x hx
    simp only [Function.comp]
    omega
  omega
theorem shown_small : (List.range 401).all (fun n => decide ((PyData.int ((n : Int) - 200)).shown.length ≤ 10) && PyData.strOk (PyData.int ((n : Int) - 200)).shown && (PyData.int ((n : Int) - 200)).showable) = true := by decide +kernel
theorem shown_int {i : Int} (h1 : -200 ≤ i) (h2 : i ≤ 200) : (PyData.int i).shown.length ≤ 10 ∧ PyData.strOk (PyData.int i).shown = true ∧ (PyData.int i).showable = true := by
  have h := List.all_eq_true.mp shown_small (i + 200).toNat (List.mem_range.mpr (by omega))
  rw [Bool.and_eq_true, Bool.and_eq_true, decide_eq_true_eq, Int.toNat_of_nonneg (by omega)] at h
  rw [show i + 200 - 200 = i by omega] at h
  exact ⟨h.1.1, h.1.2, h.2⟩
theorem ok_app {a b : Str} (ha : PyData.strOk a = true) (hb : PyData.strOk b = true) : PyData.strOk (a ++ b) = true := by
  show ((a.cps ++ b.cps).all fun x => decide (x < 1114112)) = true
  rw [Array.all_append, Bool.and_eq_true]
  exact ⟨ha, hb⟩
theorem from_ok : ∀ (ts : List Str) (k : Nat) (a : Str), PyData.strOk a = true → (∀ t ∈ ts, PyData.strOk t = true) → PyData.strOk (textFrom k a ts) = true
  | [], k, a, h, _ => by rw [textFrom.eq_1]; exact h
  | t :: ts, k, a, h, g => by
    rw [textFrom.eq_2]
    refine from_ok ts (k + 1) _ (ok_app (ok_app h ?_) (g t (List.mem_cons_self ..))) fun u hu => g u (List.mem_cons_of_mem _ hu)
    split <;> decide +kernel
theorem join_ok {sep : Str} (hs : PyData.strOk sep = true) : ∀ ts : List Str, (∀ t ∈ ts, PyData.strOk t = true) → PyData.strOk (sep.join ts) = true
  | [], _ => by rw [Str.join.eq_1]; decide +kernel
  | [t], g => by rw [Str.join.eq_2]; exact g t (List.mem_cons_self ..)
  | t :: u :: ts, g => by
    rw [Str.join.eq_3 _ _ _ (by simp)]
    exact ok_app (ok_app (g t (List.mem_cons_self ..)) hs) (join_ok hs (u :: ts) fun x hx => g x (List.mem_cons_of_mem _ hx))
theorem listText_ok {ts : List Str} (g : ∀ t ∈ ts, PyData.strOk t = true) : PyData.strOk (listText ts) = true :=
  ok_app (from_ok ts 0 _ (by decide +kernel) g) (by decide +kernel)
theorem tupleText_ok {ts : List Str} (g : ∀ t ∈ ts, PyData.strOk t = true) : PyData.strOk (tupleText ts) = true :=
  ok_app (ok_app (by decide +kernel) (join_ok (by decide +kernel) ts g)) (by split <;> decide +kernel)
theorem show_all : ∀ {xs : List D}, (∀ x ∈ xs, x.showable = true) → PyData.showableAll xs = true
  | [], _ => PyData.showableAll.eq_1
  | x :: xs, h => by
    rw [PyData.showableAll.eq_2, h x (List.mem_cons_self ..), show_all fun y hy => h y (List.mem_cons_of_mem _ hy)]
    rfl
/-- what repr tells of a tree, a text that can be compared -/
def Shows (d : D) (c : Nat) : Prop := d.showable = true ∧ PyData.strOk d.shown = true ∧ d.shown.length ≤ c
theorem shows_int {i : Int} (h1 : -200 ≤ i) (h2 : i ≤ 200) : Shows (.int i) 10 := ⟨(shown_int h1 h2).2.2, (shown_int h1 h2).2.1, (shown_int h1 h2).1⟩
theorem shows_list {xs : List D} {c : Nat} (h : ∀ x ∈ xs, Shows x c) : Shows (.list xs) (2 + (c + 2) * xs.length) := by
  refine ⟨?_, ?_, shown_list_len fun x hx => (h x hx).2.2⟩
  · rw [PyData.showable.eq_5]
    exact show_all fun x hx => (h x hx).1
  · rw [PyData.shown.eq_5, shownAll_map]
    exact listText_ok fun t ht => by
      obtain ⟨x, hx, rfl⟩ := List.mem_map.mp ht
      exact (h x hx).2.1
theorem shows_tuple {xs : List D} {c : Nat} (h : ∀ x ∈ xs, Shows x c) : Shows (.tuple xs) (3 + (c + 2) * xs.length) := by
  refine ⟨?_, ?_, shown_tuple_len fun x hx => (h x hx).2.2⟩
  · rw [PyData.showable.eq_6]
    exact show_all fun x hx => (h x hx).1
  · rw [PyData.shown.eq_6, shownAll_map]
    exact tupleText_ok fun t ht => by
      obtain ⟨x, hx, rfl⟩ := List.mem_map.mp ht
      exact (h x hx).2.1
/-- repr of it is a text that is the same as itself -/
def SameB (d : D) : Prop := ∃ r, biD .repr [d] = some (.str r) ∧ cmpD .Eq (.str r) (.str r) = some true
theorem cmp_eq_str {r : Str} (h : PyData.strOk r = true) : cmpD .Eq (.str r) (.str r) = some true := by
  show (if shapedB (.str r) && shapedB (.str r) then some (PyData.eqv (.str r) (.str r)) else none) = _
  have e : shapedB (.str r) = true := by
    simp only [shapedB, SeqAt.shaped, PyData.canLay0.eq_4, h, Bool.true_and, decide_eq_true_eq]
    simp [PyData.depth]
  rw [e]
  simp [PyData.eqv]
theorem same_int {i : Int} (h1 : -200 ≤ i) (h2 : i ≤ 200) : SameB (.int i) := by
  obtain ⟨a, b, c⟩ := shows_int h1 h2
  refine ⟨_, ?_, cmp_eq_str b⟩
  show reprD _ = _
  unfold reprD
  rw [a, show shapedB (.int i) = true from shaped_enc (e := PyData.int) (by decide) i, decide_eq_true (show (PyData.int i).shown.length ≤ LIM by unfold LIM; omega)]
  rfl
theorem same_list {xs : List D} {c : Nat} (h : ∀ x ∈ xs, Shows x c) (hs : shapedB (.list xs) = true) (hc : 2 + (c + 2) * xs.length ≤ 1000000) : SameB (.list xs) := by
  obtain ⟨a, b, d⟩ := shows_list h
  refine ⟨_, ?_, cmp_eq_str b⟩
  show reprD _ = _
  unfold reprD
  rw [a, hs, decide_eq_true (show (PyData.list xs).shown.length ≤ LIM by unfold LIM; omega)]
  rfl
theorem same_ints {L : List Int} (hl : L.length ≤ 1000) (h : ∀ x ∈ L, -200 ≤ x ∧ x ≤ 200) : SameB (.list (L.map .int)) := by
  refine same_list (c := 10) ?_ (shaped_l (e := PyData.int) (by decide) L) (by rw [List.length_map]; omega)
  intro x hx
  obtain ⟨i, hi, rfl⟩ := List.mem_map.mp hx
  exact shows_int (h i hi).1 (h i hi).2
/-- number 16: law_same -/
def f16 : TB.Fn := ⟨2, 2, (.cons (.ret (.cmp .Eq (.bi .repr (.cons (.var 0) .nil)) (.bi .repr (.cons (.var 1) .nil)))) .nil)⟩
section
variable {fs : Tbl} [Has fs 16 f16] {n : Nat} {st : Sto}
theorem run_same {d : D} (h : SameB d) : callF fs GG (n + 1) 16 [.d d, .d d] st = .ok (.d (.bool true)) st := by
  obtain ⟨r, e, c⟩ := h
  rw [callF_of rfl]
  simp [f16, startE, e, c]
theorem run_sameR {xs : List D} {a : Nat} (ha : st[a]? = some (.lst xs)) (h : SameB (.list xs)) : callF fs GG (n + 1) 16 [.r a, .d (.list xs)] st = .ok (.d (.bool true)) st := by
  obtain ⟨r, e, c⟩ := h
  rw [callF_of rfl]
  simp [f16, startE, e, c, peek, ha, Ob.tree]
end
end TB
set_option maxRecDepth 100000
set_option maxHeartbeats 2000000
namespace TB
open PySem PySem.W
/-! LCaps: caps, as the program and a law gather them. -/
def fl (L : Bk) : D := .list (L.map fc)
def dlo (M : List (Face × Bk)) : List (D × List D) := M.map fun p => (fc p.1, p.2.map fc)
def appM : List (Face × Bk) → Face → Face → List (Face × Bk)
  | [], _, _ => []
  | p :: M, r, g => if p.1 = r then (p.1, p.2 ++ [g]) :: M else p :: appM M r g
theorem appM_keys (r g : Face) : ∀ M : List (Face × Bk), (appM M r g).map (·.1) = M.map (·.1)
  | [] => rfl
  | p :: M => by
    unfold appM
    split
    · rfl
    · rw [List.map_cons, List.map_cons, appM_keys r g M]
theorem appM_max {r g : Face} {c : Nat} : ∀ {M : List (Face × Bk)}, (∀ p ∈ M, p.2.length ≤ c) → ∀ p ∈ appM M r g, p.2.length ≤ c + 1
  | [], _, p, hp => by cases hp
  | q :: M, h, p, hp => by
    unfold appM at hp
    split at hp
    · rcases List.mem_cons.mp hp with rfl | hp
      · have := h q (List.mem_cons_self ..)
        rw [List.length_append, List.length_singleton]
        omega
      · have := h p (List.mem_cons_of_mem _ hp)
        omega
    · rcases List.mem_cons.mp hp with rfl | hp
      · have := h p (List.mem_cons_self ..)
        omega
      · exact appM_max (fun x hx => h x (List.mem_cons_of_mem _ hx)) p hp
theorem eqv_fc (a b : Face) : PyData.eqv (fc a) (fc b) = decide (a = b) := eqv_dec (e := fc) a b
theorem dlo_app {r g : Face} {c : Nat} : ∀ {M : List (Face × Bk)}, r ∈ M.map (·.1) → (∀ p ∈ M, p.2.length ≤ c) → ∃ n k ds, idxD (fc r) (dlo M) = some n ∧ (dlo M)[n]? = some (k, ds) ∧ ds.length ≤ c ∧ (dlo M).set n (k, ds ++ [fc g]) = dlo (appM M r g)
  | [], h, _ => by cases h
  | p :: M, h, hc => by
    by_cases e : p.1 = r
    · refine ⟨0, fc p.1, p.2.map fc, ?_, rfl, by rw [List.length_map]; exact hc p (List.mem_cons_self ..), ?_⟩
      · show (if PyData.eqv (fc p.1) (fc r) = true then some 0 else _) = _
        rw [eqv_fc, e]
        simp
      · unfold appM
        rw [if_pos e]
        simp [dlo]
    · have h' : r ∈ M.map (·.1) := by
        rw [List.map_cons] at h
        exact (List.mem_cons.mp h).resolve_left fun z => e z.symm
      obtain ⟨n, k, ds, h1, h2, h3, h4⟩ := dlo_app (g := g) h' fun x hx => hc x (List.mem_cons_of_mem _ hx)
      refine ⟨n + 1, k, ds, ?_, ?_, h3, ?_⟩
      · show (if PyData.eqv (fc p.1) (fc r) = true then some 0 else (idxD (fc r) (dlo M)).map (· + 1)) = _
        rw [eqv_fc, h1, if_neg (by simpa using e)]
        rfl
      · exact h2
      · unfold appM
        rw [if_neg e]
        show (fc p.1, p.2.map fc) :: (dlo M).set n (k, ds ++ [fc g]) = _
        rw [h4]
        rfl
def rimM (g : Face) (M : List (Face × Bk)) : List (Face × Bk) := (rims g).foldl (fun M r => appM M r g) M
/-- each face with its caps -/
def capM (B : Bk) : List (Face × Bk) := B.foldl (fun M g => rimM g M) (B.map fun f => (f, []))
theorem fold_keys (g : Face) : ∀ (rs : Bk) (M : List (Face × Bk)), (rs.foldl (fun M r => appM M r g) M).map (·.1) = M.map (·.1)
  | [], _ => rfl
  | r :: rs, M => by rw [List.foldl_cons, fold_keys g rs, appM_keys]
theorem fold_max (g : Face) {c : Nat} : ∀ (rs : Bk) (M : List (Face × Bk)), (∀ p ∈ M, p.2.length ≤ c) → ∀ p ∈ rs.foldl (fun M r => appM M r g) M, p.2.length ≤ c + rs.length
  | [], _, h => h
  | r :: rs, M, h => by
    intro p hp
    have := fold_max g rs (appM M r g) (appM_max h) p hp
    rw [List.length_cons]
    omega
theorem cap_keys : ∀ (L : Bk) (M : List (Face × Bk)), (L.foldl (fun M g => rimM g M) M).map (·.1) = M.map (·.1)
  | [], _ => rfl
  | g :: L, M => by rw [List.foldl_cons, cap_keys L, rimM, fold_keys]
theorem rims_len (f : Face) : (rims f).length ≤ f.length := by
  unfold rims
  split <;> simp
theorem cap_max {c : Nat} : ∀ (L : Bk) (M : List (Face × Bk)), (∀ g ∈ L, g.length ≤ 5) → (∀ p ∈ M, p.2.length ≤ c) → ∀ p ∈ L.foldl (fun M g => rimM g M) M, p.2.length ≤ c + 5 * L.length
  | [], _, _, h => h
  | g :: L, M, h5, h => by
    intro p hp
    have h1 := fold_max g (rims g) M h
    have h2 := cap_max (c := c + 5) L (rimM g M) (fun x hx => h5 x (List.mem_cons_of_mem _ hx)) (fun q hq => by
      have := h1 q hq
      have := rims_len g
      have := h5 g (List.mem_cons_self ..)
      omega) p hp
    rw [List.length_cons]
    omega
section
variable {fs : Tbl} {n : Nat} {st : Sto}
theorem caps_one {M : List (Face × Bk)} {r g : Face} {c : Nat} (x0 : D) (hr : r ∈ M.map (·.1)) (hc : ∀ p ∈ M, p.2.length ≤ c) (hl : c < 1000) : ex (callF fs GG n) GG (.app2 1 (.var 3) (.var 2)) [some (.d x0), some (.r st.length), some (.d (fc g)), some (.d (fc r))] (st ++ [.dl (dlo M)]) =
    .ok (.nx [some (.d x0), some (.r st.length), some (.d (fc g)), some (.d (fc r))]) (st ++ [.dl (dlo (appM M r g))]) := by
  obtain ⟨m, k, ds, h1, h2, h3, h4⟩ := dlo_app (g := g) hr hc
  have h5 : ds.length < LIM := by unfold LIM; omega
  simp [dlAt, atVar, dlIdx, change, app2Slot, tup_fc, h1, h2, h4, h5]
theorem caps_in {M : List (Face × Bk)} {g : Face} {c u : Nat} (x0 : D) (hcall : ∀ s, callF fs GG n u [.d (fc g)] s = .ok (.d (.list ((rims g).map fc))) s) (hr : ∀ r ∈ rims g, r ∈ M.map (·.1)) (hc : ∀ p ∈ M, p.2.length ≤ c) (hl : c + (rims g).length < 1000) :
    ex (callF fs GG n) GG (.fori (.nm 3) (.e (.call u (.cons (.var 2) .nil))) (.cons (.app2 1 (.var 3) (.var 2)) .nil) [3] true) [some (.d x0), some (.r st.length), some (.d (fc g)), none] (st ++ [.dl (dlo M)]) =
      .ok (.nx [some (.d x0), some (.r st.length), some (.d (fc g)), none]) (st ++ [.dl (dlo (rimM g M))]) := by
  simp only [ex_fori, evI_e, ev_call, evs_cons, evs_nil, ev_var, List.getElem?_cons_succ, List.getElem?_cons_zero, Res.bind_ok, hcall, val_d, seq_l, ofO_some, forL_map]
  refine forL_go (fun _ => [some (.d x0), some (.r st.length), some (.d (fc g)), none]) (fun q : List (Face × Bk) => st ++ [Ob.dl (dlo q)]) (fun d q => q = d.foldl (fun M r => appM M r g) M) M rfl rfl rfl ?_ (fun q hq => by subst hq; rfl)
  rintro d r q ⟨z, hz⟩ rfl
  refine ⟨appM (d.foldl (fun M r => appM M r g) M) r g, ?_, by rw [List.foldl_append]; rfl⟩
  have hd : d.length + 1 ≤ (rims g).length := by
    rw [hz, List.length_append, List.length_cons]
    omega
  have o := caps_one (fs := fs) (n := n) (st := st) (M := d.foldl (fun M r => appM M r g) M) (r := r) (g := g) (c := c + d.length) x0 (by rw [fold_keys]; exact hr r (by rw [hz]; simp)) (fold_max g d M hc) (by omega)
  simp [-ex_app2, o]
theorem caps_all {B : Bk} {d0 : D} {u : Nat} (hd : seqD d0 = some (B.map fc)) (h : IsCl B) (hcall : ∀ g ∈ B, ∀ s, callF fs GG n u [.d (fc g)] s = .ok (.d (.list ((rims g).map fc))) s) :
    ex (callF fs GG n) GG (.fori (.nm 2) (.e (.var 0)) (.cons (.fori (.nm 3) (.e (.call u (.cons (.var 2) .nil))) (.cons (.app2 1 (.var 3) (.var 2)) .nil) [3] true) .nil) [2, 3] true) [some (.d d0), some (.r st.length), none, none] (st ++ [.dl (dlo (B.map fun f => (f, [])))]) =
      .ok (.nx [some (.d d0), some (.r st.length), none, none]) (st ++ [.dl (dlo (capM B))]) := by
  simp only [ex_fori (t := .nm 2), evI_e, ev_var, List.getElem?_cons_zero, Res.bind_ok, val_d, hd, ofO_some, forL_map]
  refine forL_go (fun _ => [some (.d d0), some (.r st.length), none, none]) (fun q : List (Face × Bk) => st ++ [Ob.dl (dlo q)]) (fun d q => q = d.foldl (fun M g => rimM g M) (B.map fun f => (f, []))) (B.map fun f => (f, [])) rfl rfl rfl ?_ (fun q hq => by subst hq; rfl)
  rintro d g q ⟨z, hz⟩ rfl
  have hg : g ∈ B := by rw [hz]; simp
  have hd6 : d.length ≤ 60 := by
    have := h.few
    rw [hz, List.length_append] at this
    omega
  have h5 := (isF_len (h.face g hg)).2
  have hr5 := rims_len g
  refine ⟨rimM g (d.foldl (fun M g => rimM g M) (B.map fun f => (f, []))), ?_, by rw [List.foldl_append]; rfl⟩
  have o := caps_in (fs := fs) (n := n) (st := st) (M := d.foldl (fun M g => rimM g M) (B.map fun f => (f, []))) (g := g) (c := 0 + 5 * d.length) d0 (hcall g hg) (fun r hr => by
    rw [cap_keys, List.map_map]
    exact List.mem_map.mpr ⟨r, h.whole g hg r hr, rfl⟩) (cap_max d _ (fun x hx => (isF_len (h.face x (by rw [hz]; exact List.mem_append_left _ hx))).2) (by simp)) (by omega)
  simp [-ex_fori, o]
theorem dl_new {B : Bk} {d0 : D} (hd : seqD d0 = some (B.map fc)) (h : IsCl B) : ex (callF fs GG n) GG (.asgDL 1 (.var 2) (.nm 2) (.e (.var 0)) [2]) [some (.d d0), none, none, none] st = .ok (.nx [some (.d d0), some (.r st.length), none, none]) (st ++ [.dl (dlo (B.map fun f => (f, [])))]) := by
  have k : newKeys (B.map fc) = true := by
    simp only [newKeys, Bool.and_eq_true, decide_eq_true_eq, List.all_map, List.all_eq_true, List.length_map, Function.comp]
    refine ⟨⟨fun f _ => tup_fc f, by have := h.few; unfold LIM; omega⟩, ?_⟩
    rw [List.pairwise_map]
    refine h.nd.imp fun {a b} e => ?_
    rw [eqv_fc]
    simpa using e
  simp [k, dlo, hd]
end
def tree (M : List (Face × Bk)) : D := .dict (rows fl M)
theorem dlo_tree (M : List (Face × Bk)) : (PyData.dict ((dlo M).map fun p => (p.1, .list p.2))) = tree M := by
  unfold tree rows dlo
  rw [List.map_map]
  rfl
/-- number 23: caps_by -/
def f23_b1 : TB.Ss := (.cons (.app2 1 (.var 3) (.var 2)) .nil)
def f23_l1 : TB.S := .fori (.nm 3) (.e (.call 13 (.cons (.var 2) .nil))) f23_b1 [3] true
def f23_b0 : TB.Ss := (.cons f23_l1 .nil)
def f23_l0 : TB.S := .fori (.nm 2) (.e (.var 0)) f23_b0 [2, 3] true
def f23 : TB.Fn := ⟨1, 4, (.cons (.asgDL 1 (.var 2) (.nm 2) (.e (.var 0)) [2]) (.cons f23_l0 (.cons (.ret (.var 1)) .nil)))⟩
section
variable {fs : Tbl} [Has fs 13 f13] [Has fs 23 f23] {n : Nat} {st : Sto}
theorem run_capsC {B : Bk} {d0 : D} (hd : seqD d0 = some (B.map fc)) (h : IsCl B) : callF fs GG (n + 2) 23 [.d d0] st = .ok (.d (tree (capM B))) st := by
  rw [callF_of rfl]
  have a1 := dl_new (fs := fs) (n := n + 1) (st := st) hd h
  have a2 := caps_all (fs := fs) (n := n + 1) (st := st) (u := 13) hd h fun g hg s => run_rims g (by have := (isF_len (h.face g hg)).2; omega)
  simp [-ex_fori, -ex_asgDL, f23, f23_l0, f23_b0, f23_l1, f23_b1, startE, a1, a2, Ob.tree, dlo_tree]
theorem run_caps {B : Bk} (h : IsBk B) : callF fs GG (n + 2) 23 [.d (.tuple (B.map fc))] st = .ok (.d (tree (capM B))) st := run_capsC (seq_t _) h.toIsCl
end
/-- number 17: law_rims -/
def f17_c0 : TB.E := .lc (.bin .Add (.slc (.var 0) .no (.yes (.var 1))) (.slc (.var 0) (.yes (.bin .Add (.var 1) (.cn (.int 1)))) .no)) (.nm 1) (.r1 (.bi .len (.cons (.var 0) .nil))) [1] (.yes (.cmp .Gt (.bi .len (.cons (.var 0) .nil)) (.cn (.int 1))))
def f17 : TB.Fn := ⟨1, 2, (.cons (.ret f17_c0) .nil)⟩
section
variable {fs : Tbl} [Has fs 17 f17] {n : Nat} {st : Sto}
theorem run_lrims (f : Face) (hf : f.length ≤ 1000) : callF fs GG (n + 1) 17 [.d (fc f)] st = .ok (.d (.list ((rims f).map fc))) st := by
  rw [callF_of rfl]
  have h1 : smallB f.length = true := by simp [smallB]; omega
  have h2 : ∀ k, min k f.length + (f.length - (k + 1)) ≤ LIM := fun k => by unfold LIM; omega
  have key : ev (callF fs GG n) GG f17_c0 [some (.d (fc f)), none] st = .ok (.d (.list ((rims f).map fc))) st := by
    by_cases h : 1 < f.length
    · have h3 : (1 : Int) < f.length := by omega
      have h4 : ¬ f.length = 1 := by omega
      simp [f17_c0, h1, h2, h3, rims, h4]
    · have h3 : ¬ (1 : Int) < f.length := by omega
      have e : rims f = [] := by
        unfold rims
        split
        · rfl
        · rw [show f.length = 0 by omega]; rfl
      have hb : ∀ xs : List Nat, compL (fun (_ : Nat) (s : Sto) => (Res.ok none s : Res (Option D))) xs st = .ok [] st := fun xs => by
        induction xs with
        | nil => rfl
        | cons x xs ih => rw [compL_cons, Res.bind_ok, ih]; rfl
      simp [f17_c0, h1, h3, e, hb]
  simp [f17, startE, key]
end
/-- number 32: law_above -/
def f32_b1 : TB.Ss := (.cons (.app2 1 (.var 3) (.var 2)) .nil)
def f32_l1 : TB.S := .fori (.nm 3) (.e (.call 17 (.cons (.var 2) .nil))) f32_b1 [3] true
def f32_b0 : TB.Ss := (.cons f32_l1 .nil)
def f32_l0 : TB.S := .fori (.nm 2) (.e (.var 0)) f32_b0 [2, 3] true
def f32 : TB.Fn := ⟨1, 4, (.cons (.asgDL 1 (.var 2) (.nm 2) (.e (.var 0)) [2]) (.cons f32_l0 (.cons (.ret (.var 1)) .nil)))⟩
section
variable {fs : Tbl} [Has fs 17 f17] [Has fs 32 f32] {n : Nat} {st : Sto}
theorem run_aboveC {B : Bk} {d0 : D} (hd : seqD d0 = some (B.map fc)) (h : IsCl B) : callF fs GG (n + 2) 32 [.d d0] st = .ok (.d (tree (capM B))) st := by
  rw [callF_of rfl]
  have a1 := dl_new (fs := fs) (n := n + 1) (st := st) hd h
  have a2 := caps_all (fs := fs) (n := n + 1) (st := st) (u := 17) hd h fun g hg s => run_lrims g (by have := (isF_len (h.face g hg)).2; omega)
  simp [-ex_fori, -ex_asgDL, f32, f32_l0, f32_b0, f32_l1, f32_b1, startE, a1, a2, Ob.tree, dlo_tree]
theorem run_above {B : Bk} (h : IsBk B) : callF fs GG (n + 2) 32 [.d (.tuple (B.map fc))] st = .ok (.d (tree (capM B))) st := run_aboveC (seq_t _) h.toIsCl
end
end TB
set_option maxRecDepth 100000
set_option maxHeartbeats 2000000
namespace TB
open PySem PySem.W
/-! LPick: things drawn of a block. -/
theorem draw_face {B : Bk} (h : IsBk B) (P : Pen) : ∃ k f, f ∈ B ∧ placeOf B.length (drawV P B.length) = some k ∧ B[k]? = some f := by
  have h1 := h.one
  have hv := drawV_lt P (m := B.length) (by omega)
  generalize drawV P B.length = v at hv ⊢
  obtain ⟨k, rfl⟩ : ∃ k : Nat, v = (k : Int) := ⟨v.toNat, by omega⟩
  have hk : k < B.length := by omega
  refine ⟨k, B[k], List.getElem_mem hk, ?_, List.getElem?_eq_getElem hk⟩
  unfold placeOf
  rw [if_pos (by omega), if_pos hv.2]
  simp
@[simp] theorem penAt_one (P : Pen) : penAt [penO P] 0 = P := rfl
@[simp] theorem isPen_one (P : Pen) : isPen [penO P] 0 = true := rfl
/-- a walk that changes the store alone -/
theorem forL_some {α S : Type} {e : Ev} (o : S → Sto) {step : α → Ev → Sto → Res Fl} {xs : List α} (s0 : S) (h : ∀ x ∈ xs, ∀ s, ∃ s', step x e (o s) = .ok (.nx e) (o s')) : ∃ s', forL step xs e (o s0) = .ok (.nx e) (o s') := by
  induction xs generalizing s0 with
  | nil => exact ⟨s0, rfl⟩
  | cons x xs ih =>
    obtain ⟨s1, e1⟩ := h x (List.mem_cons_self ..) s0
    obtain ⟨s2, e2⟩ := ih s1 fun y hy => h y (List.mem_cons_of_mem _ hy)
    exact ⟨s2, by rw [forL, e1, Res.bind_ok]; exact e2⟩
theorem get_last {L : Bk} (h : L ≠ []) : TB.getD (.list (L.map fc)) (.int (-1)) = some (fc (L.getLast h)) := by
  have h1 := List.length_pos_iff.mpr h
  have hp : placeOf L.length (-1) = some (L.length - 1) := by
    unfold placeOf
    rw [if_neg (by decide), if_pos (by omega)]
    congr 1
    omega
  have hg : L[L.length - 1]? = some (L.getLast h) := by
    rw [List.getLast_eq_getElem, List.getElem?_eq_getElem]
  simp [hp, hg]
end TB
set_option maxRecDepth 100000
set_option maxHeartbeats 2000000
namespace TB
open PySem PySem.W
/-! LTop0: tops. -/
theorem cap_look {B : Bk} {f : Face} (h : f ∈ B) : ∃ L, (capM B).lookup f = some L := by
  have hk : f ∈ (capM B).map (·.1) := by
    unfold capM
    rw [cap_keys, List.map_map]
    exact List.mem_map.mpr ⟨f, h, rfl⟩
  generalize capM B = M at hk
  induction M with
  | nil => cases hk
  | cons p M ih =>
    rw [List.lookup_cons]
    by_cases e : f = p.1
    · subst e
      exact ⟨p.2, by simp⟩
    · have e2 : (f == p.1) = false := by simpa using e
      rw [e2]
      rw [List.map_cons] at hk
      exact ih ((List.mem_cons.mp hk).resolve_left e)
theorem eq_ll : cmpD .Eq (.list []) (.list []) = some true := (eq_fl [] []).trans (by simp)
/-- faces without caps -/
def topsB (B : Bk) : Bk := B.filter fun f => decide ((capM B).lookup f = some [])
theorem same_faces {L : Bk} (hl : L.length ≤ 1000) (h : ∀ f ∈ L, isF f = true) : SameB (.list (L.map fc)) := by
  refine same_list (c := 63) ?_ (shaped_l (e := fc) (by decide) L) (by rw [List.length_map]; omega)
  intro x hx
  obtain ⟨f, hf, rfl⟩ := List.mem_map.mp hx
  have h1 := (isF_iff f).mp (h f hf)
  have h2 := shows_tuple (xs := f.map PyData.int) (c := 10) fun y hy => by
    obtain ⟨i, hi, rfl⟩ := List.mem_map.mp hy
    have := h1.2.2.1 i hi
    exact shows_int (by omega) (by omega)
  rw [List.length_map] at h2
  exact ⟨h2.1, h2.2.1, by have := h2.2.2; have := h1.2.1; show (PyData.tuple (f.map PyData.int)).shown.length ≤ 63; omega⟩
/-- number 31: tops -/
def f31_c0 : TB.E := .lc (.var 2) (.nm 2) (.e (.var 0)) [2] (.yes (.cmp .Eq (.idx (.var 1) (.var 2)) (.lst .nil)))
def f31 : TB.Fn := ⟨1, 3, (.cons (.exprX 24 (.cons (.var 0) .nil)) (.cons (.asg 1 (.call 23 (.cons (.var 0) .nil)) false) (.cons (.retN f31_c0) .nil)))⟩
section
variable {fs : Tbl} [Has fs 2 f2] [Has fs 0 f0] [Has fs 1 f1] [Has fs 3 f3] [Has fs 13 f13] [Has fs 14 f14] [Has fs 24 f24] [Has fs 23 f23] [Has fs 31 f31] {n : Nat} {st : Sto}
theorem run_tops {B : Bk} (h : IsBk B) : callF fs GG (n + 6) 31 [.d (.tuple (B.map fc))] st = .ok (.r st.length) (st ++ [.lst ((topsB B).map fc)]) := by
  rw [callF_of rfl]
  have r1 := run_caps (fs := fs) (n := n + 3) (st := st) h
  have key : ev (callF fs GG (n + 5)) GG f31_c0 [some (.d (.tuple (B.map fc))), some (.d (tree (capM B))), none] st = .ok (.d (.list ((topsB B).map fc))) st := by
    simp only [f31_c0, ev_lc, evI_e, ev_var, List.getElem?_cons_zero, Res.bind_ok, val_d, seq_t, ofO_some, compL_map]
    rw [compL_filt (p := fun f => decide ((capM B).lookup f = some [])) (g := fc)]
    · rfl
    · intro f hf
      obtain ⟨L, hL⟩ := cap_look hf
      by_cases e : L = [] <;> simp [hL, tree, fl, e, eq_ll]
  have hfr : freshE f31_c0 = true := rfl
  simp [f31, startE, run_needB h, r1, key, hfr, newOb]
end
theorem tops_sub {B : Bk} {f : Face} (h : f ∈ topsB B) : f ∈ B := (List.mem_filter.mp h).1
theorem tops_same {B : Bk} (h : IsBk B) : SameB (.list ((topsB B).map fc)) := same_faces (Nat.le_trans (List.length_filter_le _ _) (by have := h.few; omega)) fun f hf => h.face f (tops_sub hf)
end TB
set_option maxRecDepth 100000
set_option maxHeartbeats 2000000
namespace TB
open PySem PySem.W
/-! LTops: rims, caps, tops, blocks of faces, as they are asked for. -/
theorem look_app {r g f : Face} : ∀ {M : List (Face × Bk)} {L : Bk}, M.lookup f = some L → ∃ L', (appM M r g).lookup f = some L' ∧ ∀ x, x ∈ L' ↔ x ∈ L ∨ (x = g ∧ f = r)
  | [], L, h => by cases h
  | p :: M, L, h => by
    obtain ⟨a, b⟩ := p
    rw [List.lookup_cons] at h
    unfold appM
    by_cases e : a = r
    · rw [if_pos e]
      by_cases e2 : f = a
      · subst e2
        rw [beq_self_eq_true] at h
        cases h
        refine ⟨L ++ [g], by rw [List.lookup_cons, beq_self_eq_true], fun x => ?_⟩
        rw [List.mem_append, List.mem_singleton]
        simp [e]
      · have e3 : (f == a) = false := by simpa using e2
        rw [e3] at h
        refine ⟨L, by rw [List.lookup_cons, e3]; exact h, fun x => ?_⟩
        have : ¬ f = r := fun z => e2 (by rw [z, e])
        simp [this]
    · rw [if_neg e]
      by_cases e2 : f = a
      · subst e2
        rw [beq_self_eq_true] at h
        cases h
        refine ⟨L, by rw [List.lookup_cons, beq_self_eq_true], fun x => ?_⟩
        simp [e]
      · have e3 : (f == a) = false := by simpa using e2
        rw [e3] at h
        obtain ⟨L', h1, h2⟩ := look_app (r := r) (g := g) h
        exact ⟨L', by rw [List.lookup_cons, e3]; exact h1, h2⟩
theorem look_rims {g f : Face} : ∀ (rs : Bk) {M : List (Face × Bk)} {L : Bk}, M.lookup f = some L → ∃ L', (rs.foldl (fun M r => appM M r g) M).lookup f = some L' ∧ ∀ x, x ∈ L' ↔ x ∈ L ∨ (x = g ∧ f ∈ rs)
  | [], M, L, h => ⟨L, h, fun x => by simp⟩
  | r :: rs, M, L, h => by
    obtain ⟨L1, h1, h2⟩ := look_app (r := r) (g := g) h
    obtain ⟨L2, h3, h4⟩ := look_rims (g := g) rs h1
    refine ⟨L2, h3, fun x => ?_⟩
    rw [h4, h2, List.mem_cons, or_assoc, ← and_or_left]
theorem look_caps {f : Face} : ∀ (C : Bk) {M : List (Face × Bk)} {L : Bk}, M.lookup f = some L → ∃ L', (C.foldl (fun M g => rimM g M) M).lookup f = some L' ∧ ∀ x, x ∈ L' ↔ x ∈ L ∨ (x ∈ C ∧ f ∈ rims x)
  | [], M, L, h => ⟨L, h, fun x => by simp⟩
  | g :: C, M, L, h => by
    obtain ⟨L1, h1, h2⟩ := look_rims (g := g) (rims g) h
    obtain ⟨L2, h3, h4⟩ := look_caps C h1
    refine ⟨L2, h3, fun x => ?_⟩
    rw [h4, h2, List.mem_cons]
    constructor
    · rintro ((h | ⟨rfl, h⟩) | ⟨h, h'⟩)
      · exact .inl h
      · exact .inr ⟨.inl rfl, h⟩
      · exact .inr ⟨.inr h, h'⟩
    · rintro (h | ⟨rfl | h, h'⟩)
      · exact .inl (.inl h)
      · exact .inl (.inr ⟨rfl, h'⟩)
      · exact .inr ⟨h, h'⟩
/-- the caps of a face -/
theorem caps_mem {B : Bk} {f : Face} (h : f ∈ B) : ∃ L, (capM B).lookup f = some L ∧ ∀ x, x ∈ L ↔ x ∈ B ∧ f ∈ rims x := by
  have h0 : (B.map fun f : Face => (f, ([] : Bk))).lookup f = some [] := by
    induction B with
    | nil => cases h
    | cons g B ih =>
      rw [List.map_cons, List.lookup_cons]
      by_cases e : f = g
      · subst e; simp
      · have e2 : (f == g) = false := by simpa using e
        rw [e2]
        exact ih ((List.mem_cons.mp h).resolve_left e)
  obtain ⟨L, h1, h2⟩ := look_caps B h0
  exact ⟨L, h1, fun x => by rw [h2]; simp⟩
theorem mem_tops {B : Bk} {f : Face} : f ∈ topsB B ↔ f ∈ B ∧ ∀ g ∈ B, f ∉ rims g := by
  unfold topsB
  rw [List.mem_filter, decide_eq_true_eq]
  constructor
  · rintro ⟨h1, h2⟩
    obtain ⟨L, h3, h4⟩ := caps_mem h1
    rw [h2] at h3
    cases h3
    exact ⟨h1, fun g hg hr => by have := (h4 g).mpr ⟨hg, hr⟩; cases this⟩
  · rintro ⟨h1, h2⟩
    obtain ⟨L, h3, h4⟩ := caps_mem h1
    refine ⟨h1, ?_⟩
    rw [h3]
    cases L with
    | nil => rfl
    | cons x L =>
      have := (h4 x).mp (List.mem_cons_self ..)
      exact absurd this.2 (h2 x this.1)
theorem sub_erase {g f : Face} (h : g.Sublist f) : g.length < f.length → ∃ k, k < f.length ∧ g.Sublist (f.eraseIdx k) := by
  induction h with
  | slnil => intro e; simp at e
  | cons a h ih => exact fun _ => ⟨0, by simp, h⟩
  | cons_cons a h ih =>
    intro e
    obtain ⟨k, h1, h2⟩ := ih (by simpa using e)
    exact ⟨k + 1, by simpa using h1, by rw [List.eraseIdx_cons_succ]; exact h2.cons_cons a⟩
/-- parts of faces are faces -/
theorem IsBk.sub {B : Bk} (h : IsBk B) {g : Face} (hg : g ≠ []) : ∀ (n : Nat) {f : Face}, f.length = n → f ∈ B → g.Sublist f → g ∈ B
  | n, f, hl, hf, hs => by
    by_cases e : g.length = f.length
    · rw [hs.eq_of_length e]; exact hf
    · have h1 := hs.length_le
      obtain ⟨k, h2, h3⟩ := sub_erase hs (by omega)
      have h4 : 1 ≤ g.length := List.length_pos_iff.mpr hg
      have hr : f.eraseIdx k ∈ rims f := rims_idx.mpr ⟨by omega, k, h2, rfl⟩
      have h5 : (f.eraseIdx k).length = n - 1 := by rw [List.length_eraseIdx_of_lt h2, hl]
      have h6 : n - 1 < n := by omega
      exact h.sub hg (n - 1) h5 (h.whole f hf _ hr) h3
  termination_by n => n
theorem top_over {B : Bk} (h : IsBk B) : ∀ (n : Nat) {g : Face}, 5 - g.length = n → g ∈ B → ∃ f ∈ topsB B, g.Sublist f
  | n, g, hn, hg => by
    by_cases e : g ∈ topsB B
    · exact ⟨g, e, List.Sublist.refl _⟩
    · have : ¬ ∀ x ∈ B, g ∉ rims x := fun z => e (mem_tops.mpr ⟨hg, z⟩)
      have : ∃ x ∈ B, g ∈ rims x := Classical.byContradiction fun z => this fun x hx hr => z ⟨x, hx, hr⟩
      obtain ⟨x, hx, hr⟩ := this
      obtain ⟨h1, h2⟩ := rim_sub hr
      have h3 := (isF_len (h.face x hx)).2
      have h4 : 5 - x.length < n := by omega
      obtain ⟨f, h5, h6⟩ := top_over h (5 - x.length) rfl hx
      exact ⟨f, h5, h1.trans h6⟩
  termination_by n => n
theorem closed_tops {B : Bk} (h : IsBk B) : closed (topsB B) = B := bk_eq (closed_rise _) h.rise fun x => by
  rw [mem_closed]
  constructor
  · rintro ⟨f, hf, hn, hs⟩
    exact h.sub hn _ rfl (mem_tops.mp hf).1 hs
  · intro hx
    obtain ⟨f, hf, hs⟩ := top_over h _ rfl hx
    exact ⟨f, hf, isF_ne (h.face x hx), hs⟩
theorem closed_rev {B : Bk} (h : IsBk B) : closed B.reverse = B := bk_eq (closed_rise _) h.rise fun x => by
  rw [mem_closed]
  constructor
  · rintro ⟨f, hf, hn, hs⟩
    exact h.sub hn _ rfl (List.mem_reverse.mp hf) hs
  · intro hx
    exact ⟨x, List.mem_reverse.mpr hx, isF_ne (h.face x hx), List.Sublist.refl _⟩
theorem closed_len (L : Bk) : (keysOf L).length = (closed L).length := by
  unfold closed
  rw [srt_len]
/-- without a top -/
theorem bare_bk {B : Bk} (h : IsBk B) {t : Face} (ht : t ∈ topsB B) (h1 : 1 < B.length) : IsBk (B.filter fun f => decide (f ≠ t)) where
  face f hf := h.face f (List.mem_filter.mp hf).1
  one := by
    have h2 := h.nd
    have e : (B.filter fun f => decide (f ≠ t)) = B.erase t := by
      rw [h2.erase_eq_filter]
      congr 1
      funext x
      by_cases e : x = t <;> simp [e]
    rw [e, List.length_erase_of_mem (mem_tops.mp ht).1]
    omega
  few := Nat.le_trans (List.length_filter_le _ _) h.few
  rise := h.rise.sublist List.filter_sublist
  whole f hf r hr := by
    have hB := (List.mem_filter.mp hf).1
    rw [List.mem_filter, decide_eq_true_eq]
    exact ⟨h.whole f hB r hr, fun e => (mem_tops.mp ht).2 f hB (by rw [← e]; exact hr)⟩
/-- number 26: rims -/
def f26 : TB.Fn := ⟨1, 1, (.cons (.ife (.not (.call 3 (.cons (.var 0) .nil))) (.cons (.rais 0 .nil) .nil) .nil) (.cons (.ret (.call 13 (.cons (.var 0) .nil))) .nil))⟩
section
variable {fs : Tbl} [Has fs 13 f13] [Has fs 2 f2] [Has fs 0 f0] [Has fs 1 f1] [Has fs 3 f3] [Has fs 26 f26] {n : Nat} {st : Sto}
theorem run_rimsF {f : Face} (h : isF f = true) : callF fs GG (n + 4) 26 [.d (fc f)] st = .ok (.d (.list ((rims f).map fc))) st := by
  rw [callF_of rfl]
  have h1 : f.length ≤ 1000 := by have := (isF_len h).2; omega
  simp [f26, startE, run_face, faceB_fc, h, run_rims f h1]
end
/-- number 25: need_face -/
def f25 : TB.Fn := ⟨2, 2, (.cons (.ife (.or (.not (.call 3 (.cons (.var 1) .nil))) (.cmp .NotIn (.var 1) (.var 0))) (.cons (.rais 0 .nil) .nil) .nil) .nil)⟩
/-- number 27: caps -/
def f27 : TB.Fn := ⟨2, 2, (.cons (.exprX 24 (.cons (.var 0) .nil)) (.cons (.exprX 25 (.cons (.var 0) (.cons (.var 1) .nil))) (.cons (.ret (.idx (.call 23 (.cons (.var 0) .nil)) (.var 1))) .nil)))⟩
section
variable {fs : Tbl} [Has fs 2 f2] [Has fs 0 f0] [Has fs 1 f1] [Has fs 3 f3] [Has fs 13 f13] [Has fs 14 f14] [Has fs 24 f24] [Has fs 25 f25] [Has fs 23 f23] [Has fs 27 f27] {n : Nat} {st : Sto}
theorem run_needF {B : Bk} {f : Face} (h : IsBk B) (hf : f ∈ B) : callF fs GG (n + 4) 25 [.d (.tuple (B.map fc)), .d (fc f)] st = .ok (.d .none) st := by
  rw [callF_of rfl]
  simp [f25, startE, run_face, faceB_fc, h.face f hf, hf]
theorem run_capsF {B : Bk} {f : Face} {L : Bk} (h : IsBk B) (hf : f ∈ B) (hL : (capM B).lookup f = some L) : callF fs GG (n + 6) 27 [.d (.tuple (B.map fc)), .d (fc f)] st = .ok (.d (.list (L.map fc))) st := by
  rw [callF_of rfl]
  have r1 := run_caps (fs := fs) (n := n + 3) (st := st) h
  simp [f27, startE, run_needB h, run_needF h hf, r1, tree, hL, fl]
end
/-- number 15: is_block -/
def f15 : TB.Fn := ⟨1, 1, (.cons (.ret (.call 14 (.cons (.var 0) .nil))) .nil)⟩
section
variable {fs : Tbl} [Has fs 2 f2] [Has fs 0 f0] [Has fs 1 f1] [Has fs 3 f3] [Has fs 13 f13] [Has fs 14 f14] [Has fs 15 f15] {n : Nat} {st : Sto}
theorem run_isBlock (d : D) : callF fs GG (n + 5) 15 [.d d] st = .ok (.d (.bool (blockB d))) st := by
  rw [callF_of rfl]
  simp [f15, startE, run_block]
end
/-- number 34: parts_of -/
def f34_c0 : TB.E := .lc (.bin .Add (.var 3) (.tup (.cons (.var 2) .nil))) (.nm 3) (.e (.var 1)) [3] .no
def f34_b0 : TB.Ss := (.cons (.asg 1 (.bin .Add (.var 1) f34_c0) false) .nil)
def f34_l0 : TB.S := .fori (.nm 2) (.e (.var 0)) f34_b0 [2] true
def f34 : TB.Fn := ⟨1, 4, (.cons (.asg 1 (.lst (.cons (.tup .nil) .nil)) false) (.cons f34_l0 (.cons (.ret (.slc (.var 1) (.yes (.cn (.int 1))) .no)) .nil)))⟩
section
variable {fs : Tbl} [Has fs 34 f34] {n : Nat} {st : Sto}
theorem run_parts {f : Face} (hf : f.length ≤ 10) : callF fs GG (n + 1) 34 [.d (fc f)] st = .ok (.d (.list ((parts f).map fc))) st := by
  rw [callF_of rfl]
  have hl : ex (callF fs GG n) GG f34_l0 [some (.d (fc f)), some (.d (.list [fc []])), none, none] st = .ok (.nx [some (.d (fc f)), some (.d (.list ((subs f).map fc))), none, none]) st := by
    simp only [f34_l0, ex_fori, evI_e, ev_var, List.getElem?_cons_zero, Res.bind_ok, val_d, fc_seq, ofO_some, forL_map]
    refine forL_go (fun F : Bk => [some (.d (fc f)), some (.d (.list (F.map fc))), none, none]) (fun _ => st) (fun d F => F = subs d) [[]] rfl rfl rfl ?_ (fun F hF => by rw [hF])
    rintro d p F ⟨r, hr⟩ rfl
    refine ⟨subStep (subs d) p, ?_, by unfold subs; rw [List.foldl_append]; rfl⟩
    have hd : d.length + 1 ≤ 10 := by
      have := congrArg List.length hr
      simp only [List.length_append, List.length_cons] at this
      omega
    have hl : (subs d).length + (subs d).length ≤ LIM := by
      rw [subs_len]
      have := pow_small (k := d.length) (by omega)
      unfold LIM
      omega
    have hc : ev (callF fs GG n) GG f34_c0 [some (.d (fc f)), some (.d (.list ((subs d).map fc))), some (.d (.int p)), none] st = .ok (.d (.list (((subs d).map fun g => g ++ [p]).map fc))) st := by
      simp only [f34_c0, ev_lc, evI_e, ev_var, List.getElem?_cons_succ, List.getElem?_cons_zero, Res.bind_ok, val_d, seq_l, ofO_some, compL_map]
      rw [compL_all (g := fun g => fc (g ++ [p]))]
      · simp
      · intro g hg
        have h1 := ((mem_subs d g).mp hg).length_le
        have h2 : g.length + 1 ≤ LIM := by unfold LIM; omega
        simp [h2]
    simp [f34_b0, hc, subStep, hl]
  simp [f34, startE, hl, parts]
end
/-- number 35: block_of -/
def f35_b1 : TB.Ss := (.cons (.seti 1 (.var 3) (.cn (.bool true))) .nil)
def f35_l1 : TB.S := .fori (.nm 3) (.e (.call 34 (.cons (.var 2) .nil))) f35_b1 [3] true
def f35_b0 : TB.Ss := (.cons f35_l1 .nil)
def f35_l0 : TB.S := .fori (.nm 2) (.e (.var 0)) f35_b0 [2, 3] true
def f35_c0 : TB.E := .lc (.call 3 (.cons (.var 4) .nil)) (.nm 4) (.e (.var 0)) [4] .no
def f35_a0 : TB.E := .bi .all (.cons f35_c0 .nil)
def f35 : TB.Fn := ⟨1, 5, (.cons (.ife (.or (.not (.isin (.var 0) .list)) (.or (.not (.chain .LtE .LtE (.cn (.int 1)) (.bi .len (.cons (.var 0) .nil)) (.glob 2))) (.not f35_a0))) (.cons (.rais 0 .nil) .nil) .nil) (.cons (.asg 1 .dnew true) (.cons f35_l0 (.cons (.ife (.cmp .Gt (.bi .len (.cons (.var 1) .nil)) (.glob 2)) (.cons .never .nil) .nil) (.cons (.ret (.bi .tuple (.cons (.bi .sorted (.cons (.var 1) .nil)) .nil))) .nil)))))⟩
section
variable {fs : Tbl} [Has fs 34 f34] [Has fs 2 f2] [Has fs 0 f0] [Has fs 1 f1] [Has fs 3 f3] [Has fs 35 f35] {n : Nat} {st : Sto}
@[simp] theorem bi_len_dict (kvs : List (TB.D × TB.D)) : biD .len [.dict kvs] = some (.int kvs.length) := rfl
theorem blockOf_l1 (f : Face) (hf : f.length ≤ 10) (d0 : TB.D) (m : List (Face × Bool)) (hb : m.length + (parts f).length < LIM) : ex (callF fs GG (n + 1)) GG f35_l1 [some (.d d0), some (.r st.length), some (.d (fc f)), none, none] (st ++ [.dct (rows .bool m)]) =
    .ok (.nx [some (.d d0), some (.r st.length), some (.d (fc f)), none, none]) (st ++ [.dct (rows .bool (putAll m (parts f)))]) := by
  have r1 := fun s => run_parts (fs := fs) (n := n) (st := s) hf
  simp only [f35_l1, ex_fori, evI_e, ev_call, evs_cons, evs_nil, ev_var, List.getElem?_cons_succ, List.getElem?_cons_zero, Res.bind_ok, r1, val_d, seq_l, ofO_some, forL_map]
  refine forL_go (fun _ => [some (.d d0), some (.r st.length), some (.d (fc f)), none, none]) (fun q : List (Face × Bool) => st ++ [.dct (rows .bool q)]) (fun d q => q = putAll m d) m rfl rfl rfl ?_ (fun q hq => by subst hq; rfl)
  rintro d g q ⟨r, hr⟩ rfl
  refine ⟨alPut (putAll m d) g true, ?_, by unfold putAll; rw [List.foldl_append]; rfl⟩
  have hl : (rows PyData.bool (putAll m d)).length < LIM := by
    rw [rows_len]
    have h1 := putAll_len d m
    have h2 := congrArg List.length hr
    rw [List.length_append, List.length_cons] at h2
    omega
  have hp := put_rows PyData.bool (putAll m d) g true
  simp [f35_b1, atVar, change, setSlot, keys_rows, hl, hp]
theorem run_blockOf (L : Bk) (hF : ∀ f ∈ L, isF f = true) (h0 : L ≠ []) (hl : L.length ≤ 60) (hk6 : (keysOf L).length ≤ 60) : callF fs GG (n + 4) 35 [.d (.list (L.map fc))] st = .ok (.d (.tuple ((closed L).map fc))) st := by
  rw [callF_of rfl]
  have hc : ev (callF fs GG (n + 3)) GG f35_c0 [some (.d (.list (L.map fc))), none, none, none, none] st = .ok (.d (.list (L.map fun _ => .bool true))) st := by
    simp only [f35_c0, ev_lc, evI_e, ev_var, List.getElem?_cons_zero, Res.bind_ok, val_d, seq_l, ofO_some, compL_map]
    rw [compL_all (g := fun _ => .bool true)]
    · rfl
    · intro f hf
      simp [run_face, faceB_fc, hF f hf]
  have ha : ev (callF fs GG (n + 3)) GG f35_a0 [some (.d (.list (L.map fc))), none, none, none, none] st = .ok (.d (.bool true)) st := by
    have := bi_all (fun _ : Face => true) L
    simp [f35_a0, hc, this]
  have l1 : (1 : Int) ≤ L.length := by
    have := List.length_pos_iff.mpr h0
    omega
  have l2 : (L.length : Int) ≤ 60 := by omega
  have main : ∃ m : List (Face × Bool), ex (callF fs GG (n + 3)) GG f35_l0 [some (.d (.list (L.map fc))), some (.r st.length), none, none, none] (st ++ [.dct (rows .bool [])]) = .ok (.nx [some (.d (.list (L.map fc))), some (.r st.length), none, none, none]) (st ++ [.dct (rows .bool m)]) ∧
      m.map (·.1) = keysOf L ∧ m.length ≤ 32 * L.length := by
    simp only [f35_l0, ex_fori, evI_e, ev_var, List.getElem?_cons_zero, Res.bind_ok, val_d, seq_l, ofO_some, forL_map]
    refine forL_ex (fun _ => [some (.d (.list (L.map fc))), some (.r st.length), none, none, none]) (fun q : List (Face × Bool) => st ++ [.dct (rows .bool q)]) (fun d q => q.map (·.1) = keysOf d ∧ q.length ≤ 32 * d.length) [] rfl rfl ⟨rfl, Nat.zero_le _⟩ ?_
    rintro d f q ⟨r, hr⟩ ⟨h1, h2⟩
    have hf : isF f = true := hF f (by rw [hr]; simp)
    have h5 := (isF_len hf).2
    have hp : (parts f).length ≤ 32 := by
      have := parts_len f
      have : 2 ^ f.length ≤ 2 ^ 5 := Nat.pow_le_pow_right (by decide) h5
      omega
    have hd : d.length + 1 ≤ 60 := by
      have := congrArg List.length hr
      rw [List.length_append, List.length_cons] at this
      omega
    refine ⟨putAll q (parts f), ?_, ?_, ?_⟩
    · have a1 := blockOf_l1 (n := n + 2) (fs := fs) (st := st) f (by omega) (.list (L.map fc)) q (by unfold LIM; omega)
      simp [f35_b0, a1]
    · rw [keys_putAll, h1]
      unfold keysOf
      rw [List.foldl_append]
      rfl
    · have := putAll_len (parts f) q
      rw [List.length_append, List.length_singleton]
      omega
  obtain ⟨m, e, hk, hm⟩ := main
  have hne : ∀ p ∈ m, p.1 ≠ [] := by
    intro p hp
    have : p.1 ∈ keysOf L := by rw [← hk]; exact List.mem_map.mpr ⟨p, hp, rfl⟩
    exact ((mem_keysOf L p.1).mp this).choose_spec.2.1
  have h1 : m ≠ [] := by
    intro z
    subst z
    cases L with
    | nil => exact h0 rfl
    | cons f L =>
      have : f ∈ keysOf (f :: L) := (mem_keysOf _ _).mpr ⟨f, List.mem_cons_self .., isF_ne (hF f (List.mem_cons_self ..)), List.Sublist.refl _⟩
      rw [← hk] at this
      cases this
  have hml : m.length ≤ 60 := by
    have := congrArg List.length hk
    rw [List.length_map] at this
    omega
  have hq : ¬ (60 : Int) < (rows PyData.bool m).length := by
    rw [rows_len]
    omega
  have hs := sorted_rows PyData.bool h1 hne (by unfold LIM; omega)
  rw [hk] at hs
  have e' : ex (callF fs GG (n + 3)) GG f35_l0 [some (.d (.list (L.map fc))), some (.r st.length), none, none, none] (st ++ [.dct []]) = _ := e
  simp [f35, startE, freshE, newOb, ha, l1, l2, e', hs, closed, peek, hq]
end
end TB
set_option maxRecDepth 100000
set_option maxHeartbeats 2000000
namespace TB
open PySem PySem.W
/-! LFlat: flat blocks, as a law draws them. -/
theorem known3_keys : ∀ k < 20, ((keysOf ((knownT.getD k []).filter fun f => decide (f.length < 4))).length ≤ 60) := by decide +kernel
theorem made_known3 {k : Nat} (hk : k < 20) (h0 : ((knownT.getD k []).filter fun f => decide (f.length < 4)) ≠ []) : Made ((knownT.getD k []).filter fun f => decide (f.length < 4)) := by
  obtain ⟨h1, h2, h3⟩ := known_good k hk
  exact ⟨h0, Nat.le_trans (List.length_filter_le _ _) h2, fun f hf => h3 f (List.mem_filter.mp hf).1, fun s t => Nat.le_trans (keys_name_len s t _) (known3_keys k hk)⟩
/-- no face of more than three points -/
def Flat (B : Bk) : Prop := ∀ f ∈ B, f.length ≤ 3
theorem flat_named {L : List (List Int)} {s t : Int} (h : ∀ f ∈ L, f.length ≤ 3) : Flat (closed (L.map (nameF s t))) := by
  intro g hg
  obtain ⟨f', hf', _, hs⟩ := mem_closed.mp hg
  obtain ⟨f, hf, rfl⟩ := List.mem_map.mp hf'
  have h1 := hs.length_le
  have h2 := setSort_len (f.map (rho s t))
  rw [List.length_map] at h2
  have h3 := h f hf
  have h4 : (nameF s t f).length = (setSort (f.map (rho s t))).length := rfl
  omega
/-- number 121: law_named -/
def f121_c0 : TB.E := .lc (.bin .Mod (.bin .Add (.bin .Mult (.var 3) (.var 1)) (.var 2)) (.cn (.int 10))) (.nm 3) (.e (.var 0)) [3] .no
def f121 : TB.Fn := ⟨3, 4, (.cons (.ret (.bi .tuple (.cons (.bi .sortedset (.cons f121_c0 .nil)) .nil))) .nil)⟩
section
variable {fs : Tbl} [Has fs 121 f121] {n : Nat} {st : Sto}
theorem run_named {s t : Int} {f : List Int} (hf : f.length ≤ 5) (hs : -(2 ^ 64) < s ∧ s < 2 ^ 64) : callF fs GG (n + 1) 121 [.d (.list (f.map .int)), .d (.int s), .d (.int t)] st = .ok (.d (fc (nameF s t f))) st := by
  rw [callF_of rfl]
  have hm : ∀ p : Int, mulOk p s = true := fun p => by simp [mulOk]; right; exact hs
  have h64 : f.length < 64 := by omega
  have hc : biD .sortedset [.list (f.map fun p => PyData.int ((p * s + t) % 10))] = some (.list ((nameF s t f).map .int)) := by
    have e : (f.map fun p => PyData.int ((p * s + t) % 10)) = (f.map (rho s t)).map .int := by rw [List.map_map]; rfl
    rw [e, bi_ssetL, List.length_map, if_pos (.inl h64)]
    rfl
  simp [f121, f121_c0, startE, hm, hc, fc]
end
/-- number 148: law_flat -/
def f148_c0 : TB.E := .lc (.call 121 (.cons (.var 6) (.cons (.var 4) (.cons (.var 3) .nil)))) (.nm 6) (.e (.var 1)) [6] .no
def f148_c1 : TB.E := .lc (.call 5 (.cons (.var 0) (.cons (.var 7) .nil))) (.nm 8) (.r1 (.cn (.int 3))) [8] .no
def f148_b0 : TB.Ss := (.cons (.app 1 f148_c1) .nil)
def f148_l0 : TB.S := .fori (.nm 5) (.r1 (.bin .Add (.cn (.int 2)) (.call 5 (.cons (.var 0) (.cons (.cn (.int 9)) .nil))))) f148_b0 [5] true
def f148_c2 : TB.E := .lc (.var 6) (.nm 6) (.e (.fz (.call 19 (.cons (.call 5 (.cons (.var 0) (.cons (.cn (.int 20)) .nil))) .nil)))) [6] (.yes (.cmp .Lt (.bi .len (.cons (.var 6) .nil)) (.cn (.int 4))))
def f148 : TB.Fn := ⟨1, 9, (.cons (.asgP [2, 3, 4] (.cons (.call 5 (.cons (.var 0) (.cons (.cn (.int 5)) .nil))) (.cons (.call 5 (.cons (.var 0) (.cons (.cn (.int 10)) .nil))) (.cons (.idx (.lst (.cons (.cn (.int 1)) (.cons (.cn (.int 3)) (.cons (.cn (.int 7)) (.cons (.cn (.int 9)) .nil))))) (.call 5 (.cons (.var 0) (.cons (.cn (.int 4)) .nil)))) .nil)))) (.cons (.asg 1 f148_c2 true) (.cons (.ife (.or (.cmp .Gt (.var 2) (.cn (.int 1))) (.cmp .Eq (.var 1) (.lst .nil))) (.cons (.asgQ [7, 1] [false, true] (.cons (.bin .Add (.cn (.int 3)) (.call 5 (.cons (.var 0) (.cons (.cn (.int 4)) .nil)))) (.cons (.lst .nil) .nil))) (.cons f148_l0 .nil)) .nil) (.cons (.ret (.call 20 (.cons f148_c0 .nil))) .nil))))⟩
section
variable {fs : Tbl} [Has fs 20 f20] [Has fs 5 f5] [Has fs 19 f19] [Has fs 121 f121] [Has fs 148 f148] {n : Nat} {st : Sto}
theorem flat_c0 {L : List (List Int)} {s t : Int} (hL : ∀ f ∈ L, f.length ≤ 5) (hs : -(2 ^ 64) < s ∧ s < 2 ^ 64) (x0 x2 x5 x6 x7 x8 : Option W) {b : Nat} (hb : st[b]? = some (.lst (ils L))) :
    ev (callF fs GG (n + 1)) GG f148_c0 [x0, some (.r b), x2, some (.d (.int t)), some (.d (.int s)), x5, x6, x7, x8] st = .ok (.d (.list ((L.map (nameF s t)).map fc))) (st.set b (.frz (.list (ils L)))) := by
  have hv : val (.r b) st = .ok (.list (ils L)) (st.set b (.frz (.list (ils L)))) := by simp [val, hb, Ob.tree]
  simp only [f148_c0, ev_lc, evI_e, ev_var, List.getElem?_cons_succ, List.getElem?_cons_zero, Res.bind_ok, hv, seq_l, ofO_some, ils, compL_map]
  rw [compL_all (g := fun f => fc (nameF s t f))]
  · simp
  · intro f hf
    have r := fun s' => run_named (fs := fs) (n := n) (st := s') (s := s) (t := t) (hL f hf) hs
    simp [r]
theorem flat_c2 {k : Int} (h0 : 0 ≤ k) (h1 : k < 20) {a : Nat} {P : Pen} (h : isPen st a = true) (hk : drawV P 20 = k) (x2 x3 x4 : Option W) : ev (callF fs GG (n + 1)) GG f148_c2 [some (.r a), none, x2, x3, x4, none, none, none, none] (st.set a (penO P)) =
    .ok (.d (.list (ils ((knownT.getD k.toNat []).filter fun f => decide (f.length < 4))))) (st.set a (penO (drawP P 20))) := by
  have d := run_draw (fs := fs) (n := n) (st := st.set a (penO P)) (a := a) (m := 20) (isPen_set h P) (by decide) (by decide)
  rw [penAt_set h, List.set_set, hk] at d
  have kn := run_known (fs := fs) (n := n) (st := st.set a (penO (drawP P 20))) k.toNat (by omega)
  rw [Int.toNat_of_nonneg h0] at kn
  generalize knownT.getD k.toNat [] = K at kn
  have hv : val (.r (st.set a (penO (drawP P 20))).length) (st.set a (penO (drawP P 20)) ++ [.lst (ils K)]) = .ok (.list (ils K)) (st.set a (penO (drawP P 20)) ++ [.frz (.list (ils K))]) := by simp [val, Ob.tree]
  have htk : List.take (st.set a (penO P)).length (st.set a (penO (drawP P 20)) ++ [.frz (.list (ils K))]) = st.set a (penO (drawP P 20)) := by simp [List.take_append]
  simp only [f148_c2, ev_lc, evI_e, ev_fz, ev_call, evs_cons, evs_nil, ev_var, ev_cn, List.getElem?_cons_succ, List.getElem?_cons_zero, Res.bind_ok, d, kn, hv, htk, val_d, seq_l, ofO_some]
  simp only [ils, compL_map]
  rw [compL_filt (p := fun f => decide (f.length < 4)) (g := fun f => .list (f.map .int))]
  · rfl
  · intro f hf
    by_cases e : f.length < 4
    · have e2 : (f.length : Int) < 4 := by omega
      simp [e, e2]
    · have e2 : ¬ (f.length : Int) < 4 := by omega
      simp [e, e2]
theorem flat_l0 {a : Nat} {s t m w : Int} (h : isPen st a = true) (hm : 0 < m) (hm2 : m ≤ 6) (P : Pen) : ∃ (L : List (List Int)) (P' : Pen), ex (callF fs GG (n + 1)) GG f148_l0 [some (.r a), some (.r st.length), some (.d (.int w)), some (.d (.int t)), some (.d (.int s)), none, none, some (.d (.int m)), none] (st.set a (penO P) ++ [Ob.lst []]) =
    .ok (.nx [some (.r a), some (.r st.length), some (.d (.int w)), some (.d (.int t)), some (.d (.int s)), none, none, some (.d (.int m)), none]) (st.set a (penO P') ++ [Ob.lst (ils L)]) ∧ Made L ∧ ∀ f ∈ L, f.length ≤ 3 := by
  have ha := pen_lt h
  have b7 := drawV_lt P (m := 9) (by decide)
  have hsm : smallB (2 + drawV P 9) = true := by simp [smallB]; omega
  have hs3 : smallB 3 = true := by simp [smallB]
  have hd := run_draw (fs := fs) (n := n) (st := st.set a (penO P) ++ [Ob.lst []]) (a := a) (m := 9) (by simp [h]) (by decide) (by decide)
  have fin : ∃ z : List (List Int) × Pen, ex (callF fs GG (n + 1)) GG f148_l0 [some (.r a), some (.r st.length), some (.d (.int w)), some (.d (.int t)), some (.d (.int s)), none, none, some (.d (.int m)), none] (st.set a (penO P) ++ [Ob.lst []]) =
      .ok (.nx [some (.r a), some (.r st.length), some (.d (.int w)), some (.d (.int t)), some (.d (.int s)), none, none, some (.d (.int m)), none]) (st.set a (penO z.2) ++ [.lst (ils z.1)]) ∧ (z.1.length = (List.range (2 + drawV P 9).toNat).length ∧ (∀ f ∈ z.1, f.length = 3) ∧ ∀ f ∈ z.1, ∀ p ∈ f, 0 ≤ p ∧ p < 6) := by
    simp only [f148_l0, ex_fori, evI_r1, ev_bin, ev_cn, ev_call, evs_cons, evs_nil, ev_var, List.getElem?_cons_zero, Res.bind_ok, hd]
    simp only [isPen_app, isPen_set, penAt_app, penAt_set, h, set_pen_app, List.set_set, peek_d, Option.bind_some, add_int, Option.map_some, ofO_some, Res.bind_ok, hsm, if_true, rangeL_0, forL_map]
    refine forL_ex (fun _ : List (List Int) × Pen => [some (.r a), some (.r st.length), some (.d (.int w)), some (.d (.int t)), some (.d (.int s)), none, none, some (.d (.int m)), none]) (fun z => st.set a (penO z.2) ++ [Ob.lst (ils z.1)])
      (fun d z => z.1.length = d.length ∧ (∀ f ∈ z.1, f.length = 3) ∧ ∀ f ∈ z.1, ∀ p ∈ f, 0 ≤ p ∧ p < 6) ([], drawP P 9) rfl rfl ⟨rfl, by simp, by simp⟩ ?_
    rintro d k ⟨L, Q⟩ ⟨r, hr⟩ ⟨h1, h2, h3⟩
    have hL : L.length < LIM := by
      have := congrArg List.length hr
      rw [List.length_range, List.length_append, List.length_cons] at this
      simp only at h1
      unfold LIM
      omega
    refine ⟨(L ++ [(drawN m 3 Q).1], (drawN m 3 Q).2), ?_, ?_, ?_, ?_⟩
    · have hst : isPen (st ++ [Ob.lst (ils L)]) a = true := by simp [h]
      have hcomp : ∀ x5, ev (callF fs GG (n + 1)) GG f148_c1 [some (.r a), some (.r st.length), some (.d (.int w)), some (.d (.int t)), some (.d (.int s)), x5, none, some (.d (.int m)), none] ((st ++ [Ob.lst (ils L)]).set a (penO Q)) =
          .ok (.d (.list ((drawN m 3 Q).1.map .int))) ((st ++ [Ob.lst (ils L)]).set a (penO (drawN m 3 Q).2)) := by
        intro x5
        simp only [f148_c1, ev_lc, evI_r1, ev_cn, Res.bind_ok, hs3, if_true, rangeL_0, compL_map]
        rw [compL_draws hst (m := m)]
        · rw [List.length_range]
          rfl
        · intro x R
          have hr := run_draw (fs := fs) (n := n) (st := (st ++ [Ob.lst (ils L)]).set a (penO R)) (a := a) (m := m) (isPen_set hst R) hm (by omega)
          rw [penAt_set hst, List.set_set] at hr
          simp [hr]
      rw [set_pen_app h, set_pen_app h] at hcomp
      simp only [ils] at hcomp ⊢
      simp [f148_b0, h, hcomp, lstAt, atVar, change, appSlot, hL, show a < st.length + 1 by omega]
    · simp [h1]
    · intro f hf
      rcases List.mem_append.mp hf with hf | hf
      · exact h2 f hf
      · rw [List.mem_singleton] at hf
        subst hf
        exact drawN_len m 3 Q
    · intro f hf
      rcases List.mem_append.mp hf with hf | hf
      · exact h3 f hf
      · rw [List.mem_singleton] at hf
        subst hf
        intro p hp
        have := drawN_lt hm _ _ p hp
        omega
  obtain ⟨z, e, h1, h2, h3⟩ := fin
  rw [List.length_range] at h1
  refine ⟨z.1, z.2, e, made_drawn (fun q => ?_) (by omega) (fun f hf => ?_) h3, fun f hf => by rw [h2 f hf]; exact Nat.le_refl _⟩
  · rw [q] at h1
    simp at h1
    omega
  · have := h2 f hf
    refine ⟨fun e => ?_, by omega⟩
    rw [e] at this
    cases this
theorem run_flat {a : Nat} (h : isPen st a = true) : ∃ (B : Bk) (P : Pen), IsBk B ∧ Flat B ∧ callF fs GG (n + 2) 148 [.r a] st = .ok (.d (.tuple (B.map fc))) (st.set a (penO P)) := by
  have ha := pen_lt h
  obtain ⟨P0, hP0⟩ : ∃ P, penAt st a = P := ⟨_, rfl⟩
  have b5 := drawV_lt P0 (m := 5) (by decide)
  have b4 := drawV_lt (drawP (drawP P0 5) 10) (m := 4) (by decide)
  obtain ⟨s, hs, s1, s2⟩ := step_get b4.1 b4.2
  generalize ht : drawV (drawP P0 5) 10 = t
  have d1 := run_draw (fs := fs) (n := n) (st := st) (a := a) (m := 5) h (by decide) (by decide)
  have d2 := fun P => run_draw (fs := fs) (n := n) (st := st.set a (penO P)) (a := a) (m := 10) (isPen_set h P) (by decide) (by decide)
  have d3 := fun P => run_draw (fs := fs) (n := n) (st := st.set a (penO P)) (a := a) (m := 4) (isPen_set h P) (by decide) (by decide)
  simp only [penAt_set h, List.set_set] at d2 d3
  rw [hP0] at d1
  generalize hk : drawV (drawP (drawP (drawP P0 5) 10) 4) 20 = k
  have b20 := drawV_lt (drawP (drawP (drawP P0 5) 10) 4) (m := 20) (by decide)
  rw [hk] at b20
  have kn := fun x2 x3 x4 => flat_c2 (fs := fs) (n := n) (st := st) b20.1 b20.2 h hk x2 x3 x4
  have mk := made_known3 (k := k.toNat) (by omega)
  have fl3 : ∀ f ∈ (knownT.getD k.toNat []).filter fun f => decide (f.length < 4), f.length ≤ 3 := fun f hf => by
    have := (List.mem_filter.mp hf).2
    simp at this
    omega
  generalize ((knownT.getD k.toNat []).filter fun f => decide (f.length < 4)) = K at kn mk fl3
  generalize hQ : drawP (drawP (drawP (drawP P0 5) 10) 4) 20 = Q at kn
  /- what follows when the faces are there -/
  have tail : ∀ (S : Sto) (b : Nat) (L : List (List Int)) (x7 : Option W), S[b]? = some (.lst (ils L)) → Made L → (∀ f ∈ L, f.length ≤ 3) → IsBk (closed (L.map (nameF s t))) ∧ Flat (closed (L.map (nameF s t))) ∧ ((ev (callF fs GG (n + 1)) GG (.call 20 (.cons f148_c0 .nil)) [some (.r a), some (.r b), some (.d (.int (drawV P0 5))), some (.d (.int t)), some (.d (.int s)), none, none, x7, none] S) =
      .ok (.d (.tuple ((closed (L.map (nameF s t))).map fc))) (S.set b (.frz (.list (ils L))))) := by
    intro S b L x7 hb hL h3
    refine ⟨named_bk hL.some hL.good (hL.keys s t), flat_named h3, ?_⟩
    have c1 := flat_c0 (fs := fs) (n := n) (st := S) (L := L) (s := s) (t := t) (b := b) (fun f hf => (hL.good f hf).2) ⟨s1, s2⟩ (some (.r a)) (some (.d (.int (drawV P0 5)))) none none x7 none hb
    have rc := run_closed (fs := fs) (n := n) (st := S.set b (.frz (.list (ils L)))) (L.map (nameF s t)) (fun f hf => by
      obtain ⟨g, hg, rfl⟩ := List.mem_map.mp hf
      exact named_isF s t (hL.good g hg).1 (hL.good g hg).2) (by simpa using hL.some) (by simpa using hL.few)
    simp [c1]
    simpa using rc
  have eqK : cmpD .Eq (.list (ils K)) (.list []) = some (decide (K = [])) := by
    cases K with
    | nil => rfl
    | cons f K => 
      have hsh : shapedB (.list (ils (f :: K))) = true := by
        haveI := encL (e := PyData.int)
        exact shaped_l (e := fun f : List Int => PyData.list (f.map .int)) (k := 1) (by decide) (f :: K)
      have e0 : cmpD .Eq (.list (ils (f :: K))) (.list []) = if shapedB (.list (ils (f :: K))) && shapedB (.list []) then some (PyData.eqv (.list (ils (f :: K))) (.list [])) else none := rfl
      rw [e0, hsh]
      rfl
  have hfr : freshE f148_c2 = true := rfl
  have hfl : freshE (.lst .nil) = true := rfl
  rw [callF_of rfl]
  by_cases hw : drawV P0 5 > 1 ∨ K = []
  · have d4 := run_draw (fs := fs) (n := n) (st := st.set a (penO Q) ++ [Ob.lst (ils K)]) (a := a) (m := 4) (by simp [h]) (by decide) (by decide)
    simp only [isPen_app, isPen_set, penAt_app, penAt_set, h, set_pen_app, List.set_set] at d4
    have b4' := drawV_lt Q (m := 4) (by decide)
    have h' : isPen (st ++ [Ob.lst (ils K)]) a = true := isPen_app h
    obtain ⟨L, P', e, hL, h3⟩ := flat_l0 (fs := fs) (n := n) (st := st ++ [Ob.lst (ils K)]) (a := a) (s := s) (t := t) (m := 3 + drawV Q 4) (w := drawV P0 5) h' (by omega) (by omega) (drawP Q 4)
    simp only [set_pen_app h] at e
    obtain ⟨hB, hF, ht2⟩ := tail (st.set a (penO P') ++ [Ob.lst (ils K)] ++ [Ob.lst (ils L)]) (st.length + 1) L (some (.d (.int (3 + drawV Q 4)))) (by simp) hL h3
    refine ⟨_, P', hB, hF, ?_⟩
    simp only [ev_call, evs_cons, evs_nil, Res.bind_ok] at ht2
    have e' := e
    simp only [List.length_append, List.length_singleton, List.append_assoc, List.cons_append, List.nil_append] at e' ht2
    rcases hw with hw | hw
    · have hw' : (1 : Int) < drawV P0 5 := hw
      simp [f148, startE, d1, d2, d3, hs, ht, kn, hfr, newOb, hw', d4, h, e', ht2, hfl]
    · by_cases hw' : (1 : Int) < drawV P0 5
      · simp [f148, startE, d1, d2, d3, hs, ht, kn, hfr, newOb, hw', d4, h, e', ht2, hfl]
      · have eqK' : cmpD .Eq (.list (ils K)) (.list []) = some true := by rw [eqK, decide_eq_true hw]
        simp [f148, startE, d1, d2, d3, hs, ht, kn, hfr, newOb, hw', peek, eqK', d4, h, e', ht2, hfl]
  · have hw1 : ¬ (1 : Int) < drawV P0 5 := fun q => hw (.inl q)
    have hw2 : K ≠ [] := fun q => hw (.inr q)
    have eqK' : cmpD .Eq (.list (ils K)) (.list []) = some false := by rw [eqK, decide_eq_false hw2]
    obtain ⟨hB, hF, ht2⟩ := tail (st.set a (penO Q) ++ [Ob.lst (ils K)]) st.length K none (by simp) (mk hw2) fl3
    refine ⟨_, Q, hB, hF, ?_⟩
    simp only [ev_call, evs_cons, evs_nil, Res.bind_ok] at ht2
    simp [f148, startE, d1, d2, d3, hs, ht, kn, hfr, newOb, hw1, peek, eqK', ht2]
end
end TB
set_option maxRecDepth 100000
set_option maxHeartbeats 2000000
namespace TB
open PySem PySem.W
/-! LFree: free pairs. -/
/-- the caps of a face -/
def capL (B : Bk) (f : Face) : Bk := ((capM B).lookup f).getD []
theorem capL_look {B : Bk} {f : Face} (h : f ∈ B) : (capM B).lookup f = some (capL B f) := by
  obtain ⟨L, h1, _⟩ := caps_mem h
  unfold capL
  rw [h1]
  rfl
theorem mem_capL {B : Bk} {f g : Face} (h : f ∈ B) : g ∈ capL B f ↔ g ∈ B ∧ f ∈ rims g := by
  obtain ⟨L, h1, h2⟩ := caps_mem h
  unfold capL
  rw [h1]
  exact h2 g
def capH (B : Bk) (f : Face) : Face := (capL B f).headD []
def isFree (B : Bk) (f : Face) : Bool := decide ((capL B f).length = 1) && decide (capL B (capH B f) = [])
/-- the free pairs, rising -/
def freeB (B : Bk) : Pg := (B.filter (isFree B)).map fun f => (f, capH B f)
theorem capH_mem {B : Bk} {f : Face} (h : f ∈ B) (h1 : (capL B f).length = 1) : capL B f = [capH B f] ∧ capH B f ∈ B ∧ f ∈ rims (capH B f) := by
  obtain ⟨g, hg⟩ := List.length_eq_one_iff.mp h1
  have e : capH B f = g := by unfold capH; rw [hg]; rfl
  rw [e]
  have := (mem_capL (g := g) h).mp (by rw [hg]; simp)
  exact ⟨hg, this.1, this.2⟩
theorem mem_freeB {B : Bk} {p : Face × Face} (h : p ∈ freeB B) : p.1 ∈ B ∧ p.2 ∈ B ∧ p.1 ∈ rims p.2 := by
  obtain ⟨f, hf, rfl⟩ := List.mem_map.mp h
  obtain ⟨h1, h2⟩ := List.mem_filter.mp hf
  unfold isFree at h2
  rw [Bool.and_eq_true, decide_eq_true_eq, decide_eq_true_eq] at h2
  obtain ⟨_, h3, h4⟩ := capH_mem h1 h2.1
  exact ⟨h1, h3, h4⟩
theorem free_len (B : Bk) : (freeB B).length ≤ B.length := by
  unfold freeB
  rw [List.length_map]
  exact List.length_filter_le _ _
theorem free_rise {B : Bk} (h : IsCl B) : (freeB B).Pairwise fun a b => prLt a b = true := by
  unfold freeB
  rw [List.pairwise_map]
  refine (h.rise.sublist List.filter_sublist).imp fun {a b} q => ?_
  unfold prLt
  unfold ltF at q
  simp only
  rw [q]
  rfl
theorem prLt_asym {a b : Face × Face} (h : prLt a b = true) : prLt b a = false := by
  unfold prLt at h ⊢
  rw [Bool.or_eq_true, Bool.and_eq_true, decide_eq_true_eq, decide_eq_true_eq, decide_eq_true_eq] at h
  rw [Bool.or_eq_false_iff, Bool.and_eq_false_iff, decide_eq_false_iff_not, decide_eq_false_iff_not, decide_eq_false_iff_not]
  rcases h with h | ⟨h1, h2⟩
  · exact ⟨fun q => List.lt_irrefl _ (List.lt_trans h q), .inl fun e => by rw [e] at h; exact List.lt_irrefl _ h⟩
  · exact ⟨fun q => by rw [h1] at q; exact List.lt_irrefl _ q, .inr fun q => List.lt_irrefl _ (List.lt_trans h2 q)⟩
theorem srtP_id {L : Pg} (h : L.Pairwise fun a b => prLt a b = true) : srtP L = L := by
  unfold srtP
  refine List.mergeSort_of_pairwise (h.imp fun {a b} q => ?_)
  unfold leP
  rw [prLt_asym q]
  rfl
/-- texts of pairs -/
theorem shows_pr {p : Face × Face} (h : isF p.1 = true ∧ isF p.2 = true) : Shows (pr p) 200 := by
  have hf : ∀ f : Face, isF f = true → Shows (fc f) 63 := fun f hf => by
    have h1 := (isF_iff f).mp hf
    have h2 := shows_tuple (xs := f.map PyData.int) (c := 10) fun y hy => by
      obtain ⟨i, hi, rfl⟩ := List.mem_map.mp hy
      have := h1.2.2.1 i hi
      exact shows_int (by omega) (by omega)
    rw [List.length_map] at h2
    exact ⟨h2.1, h2.2.1, by have := h2.2.2; have := h1.2.1; show (PyData.tuple (f.map PyData.int)).shown.length ≤ 63; omega⟩
  have h2 := shows_tuple (xs := [fc p.1, fc p.2]) (c := 63) fun y hy => by
    rcases List.mem_cons.mp hy with rfl | hy
    · exact hf _ h.1
    · rw [List.mem_singleton] at hy
      subst hy
      exact hf _ h.2
  exact ⟨h2.1, h2.2.1, Nat.le_trans h2.2.2 (by simp)⟩
theorem same_pairs {L : Pg} (hl : L.length ≤ 1000) (h : ∀ p ∈ L, isF p.1 = true ∧ isF p.2 = true) : SameB (.list (L.map pr)) := by
  refine same_list (c := 200) ?_ (shaped_l (e := pr) (by decide) L) (by rw [List.length_map]; omega)
  intro x hx
  obtain ⟨p, hp, rfl⟩ := List.mem_map.mp hx
  exact shows_pr (h p hp)
theorem same_tuple {xs : List D} {c : Nat} (h : ∀ x ∈ xs, Shows x c) (hs : shapedB (.tuple xs) = true) (hc : 3 + (c + 2) * xs.length ≤ 1000000) : SameB (.tuple xs) := by
  obtain ⟨a, b, d⟩ := shows_tuple h
  refine ⟨_, ?_, cmp_eq_str b⟩
  show reprD _ = _
  unfold reprD
  rw [a, hs, decide_eq_true (show (PyData.tuple xs).shown.length ≤ LIM by unfold LIM; omega)]
  rfl
theorem same_pairsT {L : Pg} (hl : L.length ≤ 1000) (h : ∀ p ∈ L, isF p.1 = true ∧ isF p.2 = true) : SameB (.tuple (L.map pr)) := by
  refine same_tuple (c := 200) ?_ (shaped_t (e := pr) (by decide) L) (by rw [List.length_map]; omega)
  intro x hx
  obtain ⟨p, hp, rfl⟩ := List.mem_map.mp hx
  exact shows_pr (h p hp)
theorem p10 : TB.placeOf 1 0 = some 0 := by decide
/-- number 97: free_of -/
def f97_b0 : TB.Ss := (.cons (.ife (.and (.cmp .Eq (.bi .len (.cons (.idx (.var 1) (.var 3)) .nil)) (.cn (.int 1))) (.cmp .Eq (.idx (.var 1) (.idx (.idx (.var 1) (.var 3)) (.cn (.int 0)))) (.lst .nil))) (.cons (.app 2 (.tup (.cons (.var 3) (.cons (.idx (.idx (.var 1) (.var 3)) (.cn (.int 0))) .nil)))) .nil) .nil) .nil)
def f97_l0 : TB.S := .fori (.nm 3) (.e (.var 0)) f97_b0 [3] true
def f97 : TB.Fn := ⟨1, 4, (.cons (.asg 1 (.call 23 (.cons (.var 0) .nil)) false) (.cons (.asg 2 (.lst .nil) true) (.cons f97_l0 (.cons (.retM 2) .nil))))⟩
section
variable {fs : Tbl} [Has fs 13 f13] [Has fs 23 f23] [Has fs 97 f97] {n : Nat} {st : Sto}
theorem run_freeOf {B : Bk} (h : IsBk B) : callF fs GG (n + 3) 97 [.d (.tuple (B.map fc))] st = .ok (.r st.length) (st ++ [.lst ((freeB B).map pr)]) := by
  have r1 := fun s => run_caps (fs := fs) (n := n) (st := s) h
  have key : ex (callF fs GG (n + 2)) GG f97_l0 [some (.d (.tuple (B.map fc))), some (.d (tree (capM B))), some (.r st.length), none] (st ++ [.lst []]) = .ok (.nx [some (.d (.tuple (B.map fc))), some (.d (tree (capM B))), some (.r st.length), none]) (st ++ [.lst ((freeB B).map pr)]) := by
    simp only [f97_l0, ex_fori, evI_e, ev_var, List.getElem?_cons_zero, Res.bind_ok, val_d, seq_t, ofO_some, forL_map]
    refine forL_go (fun _ : Pg => [some (.d (.tuple (B.map fc))), some (.d (tree (capM B))), some (.r st.length), none]) (fun q => st ++ [.lst (q.map pr)]) (fun d q => q = (d.filter (isFree B)).map fun f => (f, capH B f)) [] rfl rfl rfl ?_ (fun q hq => by subst hq; rfl)
    rintro d f q ⟨r, hr⟩ rfl
    have hf : f ∈ B := by rw [hr]; simp
    have hlk := capL_look hf
    have hd : ((d.filter (isFree B)).map fun f => (f, capH B f)).length < LIM := by
      have h1 := List.length_filter_le (isFree B) d
      have h2 := congrArg List.length hr
      have h3 := h.few
      rw [List.length_append, List.length_cons] at h2
      rw [List.length_map]
      unfold LIM
      omega
    rw [List.length_map] at hd
    refine ⟨((d ++ [f]).filter (isFree B)).map fun f => (f, capH B f), ?_, rfl⟩
    by_cases e1 : (capL B f).length = 1
    · obtain ⟨e2, e3, e4⟩ := capH_mem hf e1
      have hlk2 := capL_look e3
      by_cases e5 : capL B (capH B f) = []
      · have e6 : isFree B f = true := by unfold isFree; simp [e1, e5]
        rw [e2] at hlk
        rw [e5] at hlk2
        simp [f97_b0, tree, hlk, hlk2, p10, fl, e6, eq_ll, lstAt, atVar, change, appSlot, hd, pr_of]
        try rfl
      · have e6 : isFree B f = false := by unfold isFree; simp [e5]
        rw [e2] at hlk
        simp [f97_b0, tree, hlk, hlk2, p10, fl, e6, e5]
    · have e6 : isFree B f = false := by unfold isFree; simp [e1]
      have e7 : ¬ ((capL B f).length : Int) = 1 := by omega
      simp [f97_b0, tree, hlk, fl, e6, e7]
  rw [callF_of rfl]
  simp [f97, startE, r1, freshE, newOb, key]
end
/-- number 99: free_pairs -/
def f99 : TB.Fn := ⟨1, 1, (.cons (.exprX 24 (.cons (.var 0) .nil)) (.cons (.retN (.call 97 (.cons (.var 0) .nil))) .nil))⟩
section
variable {fs : Tbl} [Has fs 2 f2] [Has fs 0 f0] [Has fs 1 f1] [Has fs 3 f3] [Has fs 13 f13] [Has fs 14 f14] [Has fs 24 f24] [Has fs 23 f23] [Has fs 97 f97] [Has fs 99 f99] {n : Nat} {st : Sto}
theorem run_freePairs {B : Bk} (h : IsBk B) : callF fs GG (n + 6) 99 [.d (.tuple (B.map fc))] st = .ok (.r st.length) (st ++ [.lst ((freeB B).map pr)]) := by
  rw [callF_of rfl]
  simp [f99, startE, run_needB h, run_freeOf (n := n + 2) h]
end
/-- number 117: law_free -/
def f117_c0 : TB.E := .lc (.tup (.cons (.var 2) (.cons (.idx (.idx (.var 1) (.var 2)) (.cn (.int 0))) .nil))) (.nm 2) (.e (.var 0)) [2] (.yes (.and (.cmp .Eq (.bi .len (.cons (.idx (.var 1) (.var 2)) .nil)) (.cn (.int 1))) (.cmp .Eq (.idx (.var 1) (.idx (.idx (.var 1) (.var 2)) (.cn (.int 0)))) (.lst .nil))))
def f117 : TB.Fn := ⟨1, 3, (.cons (.asg 1 (.call 32 (.cons (.var 0) .nil)) false) (.cons (.ret f117_c0) .nil))⟩
section
variable {fs : Tbl} [Has fs 17 f17] [Has fs 32 f32] [Has fs 117 f117] {n : Nat} {st : Sto}
theorem run_lfreeC {B : Bk} {d0 : D} (hd : seqD d0 = some (B.map fc)) (h : IsCl B) : callF fs GG (n + 3) 117 [.d d0] st = .ok (.d (.list ((freeB B).map pr))) st := by
  have r1 := fun s => run_aboveC (fs := fs) (n := n) (st := s) hd h
  have key : ev (callF fs GG (n + 2)) GG f117_c0 [some (.d d0), some (.d (tree (capM B))), none] st = .ok (.d (.list ((freeB B).map pr))) st := by
    simp only [f117_c0, ev_lc, evI_e, ev_var, List.getElem?_cons_zero, Res.bind_ok, val_d, hd, ofO_some, compL_map]
    rw [compL_filt (p := isFree B) (g := fun f => pr (f, capH B f))]
    · unfold freeB
      rw [List.map_map]
      rfl
    · intro f hf
      have hlk := capL_look hf
      by_cases e1 : (capL B f).length = 1
      · obtain ⟨e2, e3, e4⟩ := capH_mem hf e1
        have hlk2 := capL_look e3
        by_cases e5 : capL B (capH B f) = []
        · have e6 : isFree B f = true := by unfold isFree; simp [e1, e5]
          rw [e2] at hlk
          rw [e5] at hlk2
          simp [tree, hlk, hlk2, p10, fl, e6, eq_ll, pr_of]
        · have e6 : isFree B f = false := by unfold isFree; simp [e5]
          rw [e2] at hlk
          simp [tree, hlk, hlk2, p10, fl, e6, e5]
      · have e6 : isFree B f = false := by unfold isFree; simp [e1]
        have e7 : ¬ ((capL B f).length : Int) = 1 := by omega
        simp [tree, hlk, fl, e6, e7]
  rw [callF_of rfl]
  simp [f117, startE, r1, key]
theorem run_lfree {B : Bk} (h : IsBk B) : callF fs GG (n + 3) 117 [.d (.tuple (B.map fc))] st = .ok (.d (.list ((freeB B).map pr))) st := run_lfreeC (seq_t _) h.toIsCl
end
theorem free_same {B : Bk} (h : IsBk B) : SameB (.list ((freeB B).map pr)) := same_pairs (Nat.le_trans (free_len B) (by have := h.few; omega)) fun p hp => by
  obtain ⟨h1, h2, _⟩ := mem_freeB hp
  exact ⟨h.face _ h1, h.face _ h2⟩
end TB
set_option maxRecDepth 100000
set_option maxHeartbeats 2000000
namespace TB
open PySem PySem.W
/-! LTake: blocks without free pairs, one behind the other. -/
def lessB (B : Bk) (p : Face × Face) : Bk := B.filter fun f => !decide (f = p.1 ∨ f = p.2)
theorem mem_freeB2 {B : Bk} {p : Face × Face} (h : p ∈ freeB B) : p.1 ∈ B ∧ p.2 ∈ B ∧ p.1 ∈ rims p.2 ∧ (∀ x ∈ B, p.1 ∈ rims x → x = p.2) ∧ ∀ x ∈ B, p.2 ∉ rims x := by
  obtain ⟨f, hf, rfl⟩ := List.mem_map.mp h
  obtain ⟨h1, h2⟩ := List.mem_filter.mp hf
  unfold isFree at h2
  rw [Bool.and_eq_true, decide_eq_true_eq, decide_eq_true_eq] at h2
  obtain ⟨h3, h4, h5⟩ := capH_mem h1 h2.1
  refine ⟨h1, h4, h5, fun x hx hr => ?_, fun x hx hr => ?_⟩
  · have := (mem_capL h1).mpr ⟨hx, hr⟩
    rw [h3, List.mem_singleton] at this
    exact this
  · have := (mem_capL h4).mpr ⟨hx, hr⟩
    rw [h2.2] at this
    cases this
theorem mem_less {B : Bk} {p : Face × Face} {x : Face} : x ∈ lessB B p ↔ x ∈ B ∧ x ≠ p.1 ∧ x ≠ p.2 := by
  unfold lessB
  rw [List.mem_filter]
  simp [not_or]
theorem other_rim {f g : Face} (hg : isF g = true) (h : f ∈ rims g) : ∃ r ∈ rims g, r ≠ f := by
  have hs := rim_sub h
  have hn := rim_ne h
  have h2 : 2 ≤ g.length := by
    have := List.length_pos_iff.mpr hn
    omega
  match g, h2 with
  | a :: b :: t, _ =>
    have pw := ((isF_iff _).mp hg).2.2.2
    have hab : a < b := (List.pairwise_cons.mp pw).1 b (List.mem_cons_self ..)
    have r0 : b :: t ∈ rims (a :: b :: t) := rims_idx.mpr ⟨by simp, 0, by simp, rfl⟩
    have r1 : a :: t ∈ rims (a :: b :: t) := rims_idx.mpr ⟨by simp, 1, by simp, rfl⟩
    by_cases e : b :: t = f
    · refine ⟨a :: t, r1, fun z => ?_⟩
      rw [← e] at z
      injection z with z _
      omega
    · exact ⟨b :: t, r0, e⟩
theorem less_bk {B : Bk} (h : IsBk B) {p : Face × Face} (hp : p ∈ freeB B) : IsBk (lessB B p) := by
  obtain ⟨h1, h2, h3, h4, h5⟩ := mem_freeB2 hp
  refine ⟨⟨fun f hf => h.face f (mem_less.mp hf).1, Nat.le_trans (List.length_filter_le _ _) h.few, h.rise.sublist List.filter_sublist, fun f hf r hr => ?_⟩, ?_⟩
  · obtain ⟨q1, q2, q3⟩ := mem_less.mp hf
    refine mem_less.mpr ⟨h.whole f q1 r hr, fun e => ?_, fun e => ?_⟩
    · subst e
      exact q3 (h4 f q1 hr)
    · subst e
      exact h5 f q1 hr
  · obtain ⟨r, hr, hne⟩ := other_rim (h.face _ h2) h3
    refine List.length_pos_of_mem (a := r) (mem_less.mpr ⟨h.whole _ h2 r hr, hne, fun e => ?_⟩)
    have := (rim_sub hr).2
    rw [e] at this
    omega
theorem less_len {B : Bk} {p : Face × Face} (hp : p ∈ freeB B) : (lessB B p).length < B.length := by
  have h1 := (mem_freeB2 hp).1
  unfold lessB
  rw [List.length_filter_lt_length_iff_exists]
  exact ⟨p.1, h1, by simp⟩
/-- the first taking -/
def takeN : Nat → Bk → Pg
  | 0, _ => []
  | n + 1, B => match freeB B with
    | [] => []
    | p :: _ => p :: takeN n (lessB B p)
theorem takeN_good : ∀ (n : Nat) {B : Bk}, IsBk B → ∀ p ∈ takeN n B, isF p.1 = true ∧ isF p.2 = true
  | 0, _, _, p, hp => by cases hp
  | n + 1, B, h, p, hp => by
    unfold takeN at hp
    split at hp
    · cases hp
    · rename_i q L e
      have hq : q ∈ freeB B := by rw [e]; exact List.mem_cons_self ..
      rcases List.mem_cons.mp hp with rfl | hp
      · obtain ⟨h1, h2, _⟩ := mem_freeB2 hq
        exact ⟨h.face _ h1, h.face _ h2⟩
      · exact takeN_good n (less_bk h hq) p hp
theorem takeN_len : ∀ (n : Nat) (B : Bk), (takeN n B).length ≤ n
  | 0, _ => Nat.le_refl _
  | n + 1, B => by
    unfold takeN
    split
    · exact Nat.zero_le _
    · have := takeN_len n (lessB B (by assumption))
      rw [List.length_cons]
      omega
theorem min_pr {p : Face × Face} {L : Pg} (h : (p :: L).Pairwise fun a b => prLt a b = true) : biD .min [.list ((p :: L).map pr)] = some (pr p) := by
  have e1 : biD .min [.list ((p :: L).map pr)] = minTD ((p :: L).map pr) := rfl
  have a1 : alikeAllB ((p :: L).map pr) = true := by
    simp only [alikeAllB, List.all_map, List.all_eq_true, Function.comp]
    intro a _ b _
    exact alike_pr a b
  have a2 : (((p :: L).map pr).all fun x => shapedB x && !isNoneD x) = true := by
    rw [List.all_map, List.all_eq_true]
    intro f _
    show (shapedB (pr f) && true) = true
    rw [shaped_enc (e := pr) (by decide) f]
    rfl
  have e2 : minTD ((p :: L).map pr) = if alikeAllB ((p :: L).map pr) && ((p :: L).map pr).all (fun x => shapedB x && !isNoneD x) then some (PySem.W.minD (pr p) (L.map pr)) else none := rfl
  rw [e1, e2, a1, a2]
  simp only [Bool.and_self, if_true, Option.some.injEq]
  have h1 := (List.pairwise_cons.mp h).1
  unfold PySem.W.minD
  clear e1 e2 a1 a2 h
  induction L with
  | nil => rfl
  | cons q L ih =>
    rw [List.map_cons, List.foldl_cons, dataLt_pr, prLt_asym (h1 q (List.mem_cons_self ..))]
    simp only [Bool.false_eq_true, if_false]
    exact ih fun x hx => h1 x (List.mem_cons_of_mem _ hx)
theorem ne_ll : cmpD .NotEq (.list []) (.list []) = some false := (ne_fl [] []).trans (by simp)
/-- a while whose rounds come nearer to an end -/
theorem whileL_go {S : Type} (e : S → Ev) (o : S → Sto) (P Fin : S → Prop) (m : S → Nat) {c : Ev → Sto → Res Bool} {b : Ev → Sto → Res Fl} (hs : ∀ s, P s → ∃ k, c (e s) (o s) = .ok k (o s) ∧ (k = true → ∃ s', b (e s) (o s) = .ok (.nx (e s')) (o s') ∧ P s' ∧ m s' < m s) ∧ (k = false → Fin s)) :
    ∀ (fuel : Nat) (s : S), P s → m s < fuel → ∃ s', whileL c b fuel (e s) (o s) = .ok (.nx (e s')) (o s') ∧ Fin s'
  | 0, _, _, h => absurd h (Nat.not_lt_zero _)
  | fuel + 1, s, hp, h => by
    obtain ⟨k, h1, h2, h3⟩ := hs s hp
    cases k with
    | false =>
      refine ⟨s, ?_, h3 rfl⟩
      rw [whileL, h1]
      rfl
    | true =>
      obtain ⟨s1, g1, g2, g3⟩ := h2 rfl
      obtain ⟨s2, q1, q2⟩ := whileL_go e o P Fin m hs fuel s1 g2 (by omega)
      refine ⟨s2, ?_, q2⟩
      rw [whileL, h1, Res.bind_ok, if_pos rfl, g1, Res.bind_ok]
      exact q1
/-- what is still to be taken -/
def Goes (T : Pg) (s : Bk × Pg) : Prop := IsBk s.1 ∧ ∃ k, s.1.length ≤ k ∧ s.2.length + k ≤ 1000 ∧ s.2 ++ takeN k s.1 = T
theorem goes_end {T : Pg} {s : Bk × Pg} (h : Goes T s) (e : freeB s.1 = []) : s.2 = T := by
  obtain ⟨h1, k, h2, _, h3⟩ := h
  have ho := h1.one
  obtain ⟨k, rfl⟩ : ∃ m, k = m + 1 := ⟨k - 1, by omega⟩
  have : takeN (k + 1) s.1 = [] := by unfold takeN; rw [e]
  rw [this, List.append_nil] at h3
  exact h3
theorem goes_on {T : Pg} {B : Bk} {F : Pg} {p : Face × Face} {L : Pg} (h : Goes T (B, F)) (e : freeB B = p :: L) : Goes T (lessB B p, F ++ [p]) ∧ (lessB B p).length < B.length ∧ F.length < 1000 := by
  obtain ⟨h1, k, h2, h4, h3⟩ := h
  simp only at h1 h2 h3 h4
  have hp : p ∈ freeB B := by rw [e]; exact List.mem_cons_self ..
  have hl := less_len hp
  obtain ⟨k, rfl⟩ : ∃ m, k = m + 1 := ⟨k - 1, by omega⟩
  have e2 : takeN (k + 1) B = p :: takeN k (lessB B p) := by
    show (match freeB B with | [] => [] | p :: _ => p :: takeN k (lessB B p)) = _
    rw [e]
  rw [e2] at h3
  refine ⟨⟨less_bk h1 hp, k, by simp only; omega, by simp only [List.length_append, List.length_singleton]; omega, by simp only [List.append_assoc]; exact h3⟩, hl, by omega⟩
/-- number 98: less -/
def f98_c0 : TB.E := .lc (.var 2) (.nm 2) (.e (.var 0)) [2] (.yes (.cmp .NotIn (.var 2) (.var 1)))
def f98_a0 : TB.E := .bi .tuple (.cons f98_c0 .nil)
def f98 : TB.Fn := ⟨2, 3, (.cons (.ret f98_a0) .nil)⟩
section
variable {fs : Tbl} [Has fs 98 f98] {n : Nat} {st : Sto}
theorem run_less (B : Bk) (p : Face × Face) : callF fs GG (n + 1) 98 [.d (.tuple (B.map fc)), .d (pr p)] st = .ok (.d (.tuple ((lessB B p).map fc))) st := by
  have key : ev (callF fs GG n) GG f98_c0 [some (.d (.tuple (B.map fc))), some (.d (pr p)), none] st = .ok (.d (.list ((lessB B p).map fc))) st := by
    simp only [f98_c0, ev_lc, evI_e, ev_var, List.getElem?_cons_zero, Res.bind_ok, val_d, seq_t, ofO_some, compL_map]
    rw [compL_filt (p := fun f => !decide (f = p.1 ∨ f = p.2)) (g := fc)]
    · rfl
    · intro f hf
      by_cases e : f = p.1 ∨ f = p.2 <;> simp [e]
  rw [callF_of rfl]
  simp [f98, f98_a0, startE, key]
end
/-- number 150: law_less -/
def f150_c0 : TB.E := .lc (.var 2) (.nm 2) (.e (.var 0)) [2] (.yes (.cmp .NotIn (.var 2) (.var 1)))
def f150_a0 : TB.E := .bi .tuple (.cons f150_c0 .nil)
def f150 : TB.Fn := ⟨2, 3, (.cons (.ret f150_a0) .nil)⟩
section
variable {fs : Tbl} [Has fs 150 f150] {n : Nat} {st : Sto}
theorem run_lless (B : Bk) (p : Face × Face) : callF fs GG (n + 1) 150 [.d (.tuple (B.map fc)), .d (pr p)] st = .ok (.d (.tuple ((lessB B p).map fc))) st := by
  have key : ev (callF fs GG n) GG f150_c0 [some (.d (.tuple (B.map fc))), some (.d (pr p)), none] st = .ok (.d (.list ((lessB B p).map fc))) st := by
    simp only [f150_c0, ev_lc, evI_e, ev_var, List.getElem?_cons_zero, Res.bind_ok, val_d, seq_t, ofO_some, compL_map]
    rw [compL_filt (p := fun f => !decide (f = p.1 ∨ f = p.2)) (g := fc)]
    · rfl
    · intro f hf
      by_cases e : f = p.1 ∨ f = p.2 <;> simp [e]
  rw [callF_of rfl]
  simp [f150, f150_a0, startE, key]
end
/-- number 105: first_taking -/
def f105_b0 : TB.Ss := (.cons (.app 2 (.idx (.var 3) (.cn (.int 0)))) (.cons (.asg 1 (.call 98 (.cons (.var 1) (.cons (.idx (.var 3) (.cn (.int 0))) .nil))) false) (.cons (.asg 3 (.fz (.call 97 (.cons (.var 1) .nil))) false) .nil)))
def f105_l0 : TB.S := .whil (.cmp .NotEq (.var 3) (.lst .nil)) f105_b0 [] true
def f105 : TB.Fn := ⟨1, 4, (.cons (.exprX 24 (.cons (.var 0) .nil)) (.cons (.asg 1 (.var 0) false) (.cons (.asg 2 (.lst .nil) true) (.cons (.asg 3 (.fz (.call 97 (.cons (.var 1) .nil))) false) (.cons f105_l0 (.cons (.ret (.bi .tuple (.cons (.var 2) .nil))) .nil))))))⟩
section
variable {fs : Tbl} [Has fs 2 f2] [Has fs 0 f0] [Has fs 1 f1] [Has fs 3 f3] [Has fs 13 f13] [Has fs 14 f14] [Has fs 24 f24] [Has fs 23 f23] [Has fs 97 f97] [Has fs 98 f98] [Has fs 105 f105] {n : Nat} {st : Sto}
theorem first_b0 {T : Pg} {B : Bk} {F : Pg} {p : Face × Face} {L : Pg} (x0 : D) (h : Goes T (B, F)) (e : freeB B = p :: L) : exs (callF fs GG (n + 4)) GG f105_b0 [some (.d x0), some (.d (.tuple (B.map fc))), some (.r st.length), some (.d (.list ((freeB B).map pr)))] (st ++ [.lst (F.map pr)]) =
    .ok (.nx [some (.d x0), some (.d (.tuple ((lessB B p).map fc))), some (.r st.length), some (.d (.list ((freeB (lessB B p)).map pr)))]) (st ++ [.lst ((F ++ [p]).map pr)]) := by
  obtain ⟨g, hl, hF⟩ := goes_on h e
  have r1 := fun s => run_less (fs := fs) (n := n + 3) (st := s) B p
  have r2 := fun s => run_freeOf (fs := fs) (n := n + 1) (st := s) g.1
  have hlim : F.length < LIM := by unfold LIM; omega
  have g0 : TB.getD (.list (pr p :: L.map pr)) (.int 0) = some (pr p) := by
    have : placeOf (L.length + 1) 0 = some 0 := by
      unfold placeOf
      simp
      try omega
    simp [this]
  rw [e, List.map_cons]
  simp [f105_b0, g0, lstAt, atVar, change, appSlot, hlim, r1, r2, Ob.tree]
theorem run_first {B : Bk} (h : IsBk B) : callF fs GG (n + 6) 105 [.d (.tuple (B.map fc))] st = .ok (.d (.tuple ((takeN 60 B).map pr))) st := by
  have r1 := fun s => run_freeOf (fs := fs) (n := n + 2) (st := s) h
  have e : ∃ s : Bk × Pg, ex (callF fs GG (n + 5)) GG f105_l0 [some (.d (.tuple (B.map fc))), some (.d (.tuple (B.map fc))), some (.r st.length), some (.d (.list ((freeB B).map pr)))] (st ++ [.lst []]) = .ok (.nx [some (.d (.tuple (B.map fc))), some (.d (.tuple (s.1.map fc))), some (.r st.length), some (.d (.list ((freeB s.1).map pr)))]) (st ++ [.lst (s.2.map pr)]) ∧ s.2 = takeN 60 B := by
    rw [f105_l0, ex_whil]
    refine whileL_go (fun s : Bk × Pg => [some (.d (.tuple (B.map fc))), some (.d (.tuple (s.1.map fc))), some (.r st.length), some (.d (.list ((freeB s.1).map pr)))]) (fun s => st ++ [.lst (s.2.map pr)]) (Goes (takeN 60 B)) (fun s => s.2 = takeN 60 B) (fun s => s.1.length) (fun s hs => ?_) FUEL (B, []) ⟨h, 60, h.few, by simp, rfl⟩ (by have := h.few; unfold FUEL; simp only; omega)
    obtain ⟨C, F⟩ := s
    cases e : freeB C with
    | nil =>
      refine ⟨false, ?_, fun z => (by cases z), fun _ => goes_end hs e⟩
      simp only [e]
      simp [evT, ne_ll]
    | cons p L =>
      refine ⟨true, ?_, fun _ => ⟨(lessB C p, F ++ [p]), ?_, (goes_on hs e).1, (goes_on hs e).2.1⟩, fun z => (by cases z)⟩
      · have ne : cmpD .NotEq (.list (pr p :: L.map pr)) (.list []) = some true := by
          have := ne_pl0 (p :: L)
          simpa using this
        simp only [e]
        simp [evT, ne]
      · have := first_b0 (fs := fs) (n := n + 1) (st := st) (.tuple (B.map fc)) hs e
        rw [e] at this
        simp only [e]
        rw [this]
        simp
  obtain ⟨s, e, es⟩ := e
  rw [es] at e
  rw [callF_of rfl]
  simp [f105, startE, run_needB (n := n) h, r1, Ob.tree, freshE, newOb, e, peek]
end
end TB
set_option maxRecDepth 100000
set_option maxHeartbeats 2000000
namespace TB
open PySem PySem.W
/-! LPair: pairs and pairings. -/
def prOf (B : Bk) : D → Option (Face × Face)
  | .tuple [a, b] => match faceOf a, faceOf b with
    | some f, some g => if f ∈ rims g ∧ g ∈ B then some (f, g) else none
    | _, _ => none
  | _ => none
theorem prOf_some {B : Bk} {d : D} {p : Face × Face} : prOf B d = some p ↔ d = pr p ∧ isF p.1 = true ∧ isF p.2 = true ∧ p.1 ∈ rims p.2 ∧ p.2 ∈ B := by
  constructor
  · intro h
    unfold prOf at h
    split at h
    · split at h
      · rename_i a b f g hf hg
        split at h
        · rename_i c
          cases h
          obtain ⟨rfl, h1⟩ := faceOf_some.mp hf
          obtain ⟨rfl, h2⟩ := faceOf_some.mp hg
          exact ⟨rfl, h1, h2, c.1, c.2⟩
        · cases h
      · cases h
    · cases h
  · rintro ⟨rfl, h1, h2, h3, h4⟩
    obtain ⟨f, g⟩ := p
    simp only [pr, prOf, faceOf_fc, h1, h2, if_true]
    rw [if_pos ⟨h3, h4⟩]
def pairB (B : Bk) (d : D) : Bool := (prOf B d).isSome
theorem pairB_pr {B : Bk} {p : Face × Face} (h1 : isF p.1 = true) (h2 : isF p.2 = true) : pairB B (pr p) = decide (p.1 ∈ rims p.2 ∧ p.2 ∈ B) := by
  unfold pairB
  by_cases h : p.1 ∈ rims p.2 ∧ p.2 ∈ B
  · rw [prOf_some.mpr ⟨rfl, h1, h2, h.1, h.2⟩, decide_eq_true h]
    rfl
  · cases e : prOf B (pr p) with
    | none => rw [decide_eq_false h]; rfl
    | some q =>
      obtain ⟨e1, _, _, h3, h4⟩ := prOf_some.mp e
      have : p = q := (Enc.eqv (e := pr) p q).mp (by rw [e1]; exact (Enc.eqv (e := pr) q q).mpr rfl)
      subst this
      exact absurd ⟨h3, h4⟩ h
def prsOf (B : Bk) : List D → Option Pg
  | [] => some []
  | x :: xs => (prOf B x).bind fun p => (prsOf B xs).map (p :: ·)
theorem prsOf_some {B : Bk} : ∀ {xs : List D} {P : Pg}, prsOf B xs = some P ↔ xs = P.map pr ∧ ∀ p ∈ P, isF p.1 = true ∧ isF p.2 = true ∧ p.1 ∈ rims p.2 ∧ p.2 ∈ B
  | [], P => by
    simp only [prsOf, Option.some.injEq]
    constructor
    · rintro rfl; simp
    · rintro ⟨h, _⟩; simpa using h
  | x :: xs, P => by
    simp only [prsOf, Option.bind_eq_some_iff, Option.map_eq_some_iff, prOf_some]
    constructor
    · rintro ⟨p, ⟨rfl, hp⟩, Q, hQ, rfl⟩
      obtain ⟨rfl, h2⟩ := prsOf_some.mp hQ
      refine ⟨rfl, fun q hq => ?_⟩
      rcases List.mem_cons.mp hq with rfl | hq
      · exact hp
      · exact h2 q hq
    · rintro ⟨h1, h2⟩
      cases P with
      | nil => cases h1
      | cons p P =>
        rw [List.map_cons, List.cons.injEq] at h1
        exact ⟨p, ⟨h1.1, h2 p (List.mem_cons_self ..)⟩, P, prsOf_some.mpr ⟨h1.2, fun q hq => h2 q (List.mem_cons_of_mem _ hq)⟩, rfl⟩
theorem prsOf_all (B : Bk) (xs : List D) : xs.all (pairB B) = (prsOf B xs).isSome := by
  induction xs with
  | nil => rfl
  | cons x xs ih =>
    rw [List.all_cons, ih, prsOf]
    unfold pairB
    cases prOf B x <;> cases prsOf B xs <;> rfl
/-- the faces that are in pairs -/
def heldL (P : Pg) : Bk := P.flatMap fun p => [p.1, p.2]
theorem held_len (P : Pg) : (heldL P).length = 2 * P.length := by
  induction P with
  | nil => rfl
  | cons p P ih =>
    show ([p.1, p.2] ++ heldL P).length = _
    rw [List.length_append, ih]
    simp only [List.length_cons, List.length_nil]
    omega
def pairingB (B : Bk) : D → Bool
  | .tuple xs => match prsOf B xs with
    | some P => adj prLt P && decide (heldL P).Nodup
    | none => false
  | _ => false
theorem prLt_tr (a b c : Face × Face) (h1 : prLt a b = true) (h2 : prLt b c = true) : prLt a c = true := by
  unfold prLt at *
  simp only [Bool.or_eq_true, Bool.and_eq_true, decide_eq_true_eq] at *
  rcases h1 with h1 | ⟨e1, h1⟩ <;> rcases h2 with h2 | ⟨e2, h2⟩
  · exact .inl (List.lt_trans h1 h2)
  · exact .inl (e2 ▸ h1)
  · exact .inl (e1 ▸ h2)
  · exact .inr ⟨e1.trans e2, List.lt_trans h1 h2⟩
theorem prLt_tri (a b : Face × Face) : prLt a b = true ∨ a = b ∨ prLt b a = true := by
  have tri : ∀ f g : Face, f < g ∨ f = g ∨ g < f := fun f g => by
    by_cases h : f < g
    · exact .inl h
    · by_cases h2 : g < f
      · exact .inr (.inr h2)
      · exact .inr (.inl (List.le_antisymm (List.not_lt.mp h2) (List.not_lt.mp h)))
  unfold prLt
  simp only [Bool.or_eq_true, Bool.and_eq_true, decide_eq_true_eq]
  rcases tri a.1 b.1 with h | h | h
  · exact .inl (.inl h)
  · rcases tri a.2 b.2 with q | q | q
    · exact .inl (.inr ⟨h, q⟩)
    · exact .inr (.inl (Prod.ext h q))
    · exact .inr (.inr (.inr ⟨h.symm, q⟩))
  · exact .inr (.inr (.inl h))
theorem leP_tot (a b : Face × Face) : (leP a b || leP b a) = true := by
  unfold leP
  cases h : prLt b a with
  | false => rfl
  | true => rw [prLt_asym h]; rfl
theorem leP_iff {a b : Face × Face} : leP a b = true ↔ prLt a b = true ∨ a = b := by
  unfold leP
  constructor
  · intro h
    rcases prLt_tri a b with q | q | q
    · exact .inl q
    · exact .inr q
    · rw [q] at h; cases h
  · rintro (h | rfl)
    · rw [prLt_asym h]; rfl
    · cases q : prLt a a with
      | false => rfl
      | true => have := prLt_asym q; rw [q] at this; cases this
theorem leP_tr (a b c : Face × Face) (h1 : leP a b = true) (h2 : leP b c = true) : leP a c = true := by
  rw [leP_iff] at *
  rcases h1 with h1 | rfl
  · rcases h2 with h2 | rfl
    · exact .inl (prLt_tr _ _ _ h1 h2)
    · exact .inl h1
  · exact h2
theorem srtP_perm (L : Pg) : (srtP L).Perm L := List.mergeSort_perm _ _
theorem mem_srtP {L : Pg} {p : Face × Face} : p ∈ srtP L ↔ p ∈ L := (srtP_perm L).mem_iff
theorem srtP_len (L : Pg) : (srtP L).length = L.length := (srtP_perm L).length_eq
theorem srtP_rise {L : Pg} (nd : L.Nodup) : (srtP L).Pairwise fun a b => prLt a b = true := by
  have h1 : (srtP L).Pairwise fun a b => leP a b = true := List.pairwise_mergeSort leP_tr leP_tot L
  have h2 : (srtP L).Nodup := (srtP_perm L).nodup_iff.mpr nd
  refine (h1.and h2).imp fun {a b} h => ?_
  rcases leP_iff.mp h.1 with q | q
  · exact q
  · exact absurd q h.2
/-- a pairing -/
structure IsPg (B : Bk) (P : Pg) : Prop where
  pair : ∀ p ∈ P, isF p.1 = true ∧ isF p.2 = true ∧ p.1 ∈ rims p.2 ∧ p.2 ∈ B
  nd : (heldL P).Nodup
  rise : P.Pairwise fun a b => prLt a b = true
theorem pairingB_of {B : Bk} {P : Pg} (h : IsPg B P) : pairingB B (.tuple (P.map pr)) = true := by
  unfold pairingB
  simp only [prsOf_some.mpr ⟨rfl, h.pair⟩]
  rw [(adj_pw prLt_tr).mpr h.rise, decide_eq_true h.nd]
  rfl
theorem pairingB_is {B : Bk} {d : D} (h : pairingB B d = true) : ∃ P, d = .tuple (P.map pr) ∧ IsPg B P := by
  unfold pairingB at h
  split at h
  · split at h
    · rename_i xs P hP
      obtain ⟨rfl, h1⟩ := prsOf_some.mp hP
      rw [Bool.and_eq_true, decide_eq_true_eq] at h
      exact ⟨P, rfl, h1, h.2, (adj_pw prLt_tr).mp h.1⟩
    · cases h
  · cases h
theorem held_nd {P : Pg} (h : (heldL P).Nodup) : P.Nodup := by
  induction P with
  | nil => exact List.nodup_nil
  | cons p P ih =>
    have h' : ([p.1, p.2] ++ heldL P).Nodup := h
    rw [List.nodup_append] at h'
    refine List.nodup_cons.mpr ⟨fun hp => ?_, ih h'.2.1⟩
    exact h'.2.2 p.1 (by simp) p.1 (List.mem_flatMap.mpr ⟨p, hp, by simp⟩) rfl
theorem mem_held {P : Pg} {f : Face} : f ∈ heldL P ↔ ∃ p ∈ P, f = p.1 ∨ f = p.2 := by
  unfold heldL
  rw [List.mem_flatMap]
  simp
theorem pg_of {B : Bk} {Q : Pg} (h1 : ∀ p ∈ Q, isF p.1 = true ∧ isF p.2 = true ∧ p.1 ∈ rims p.2 ∧ p.2 ∈ B) (h2 : (heldL Q).Nodup) : IsPg B (srtP Q) where
  pair p hp := h1 p (mem_srtP.mp hp)
  nd := ((srtP_perm Q).flatMap_right _).nodup_iff.mpr h2
  rise := srtP_rise (held_nd h2)
theorem IsPg.few {B : Bk} {P : Pg} (hB : IsCl B) (h : IsPg B P) : 2 * P.length ≤ B.length := by
  have := nd_len h.nd (B := B) fun f hf => by
    obtain ⟨p, hp, e⟩ := mem_held.mp hf
    obtain ⟨_, _, h3, h4⟩ := h.pair p hp
    rcases e with rfl | rfl
    · exact hB.whole _ h4 _ h3
    · exact h4
  rw [held_len] at this
  exact this
/-! keys of a dict of held faces -/
theorem addKeys_le : ∀ (G K : Bk), (G.foldl addKey K).length ≤ K.length + G.length
  | [], K => Nat.le_refl _
  | g :: G, K => by
    have h := addKeys_le G (addKey K g)
    have h2 : (addKey K g).length ≤ K.length + 1 := by unfold addKey; split <;> simp
    rw [List.foldl_cons, List.length_cons]
    omega
theorem addKeys_eq : ∀ (G K : Bk), K.Nodup → ((G.foldl addKey K).length = K.length + G.length ↔ (K ++ G).Nodup)
  | [], K, h => by simp [h]
  | g :: G, K, h => by
    rw [List.foldl_cons]
    by_cases e : g ∈ K
    · have ek : addKey K g = K := if_pos e
      rw [ek]
      constructor
      · intro q
        have := addKeys_le G K
        rw [List.length_cons] at q
        omega
      · intro q
        exact absurd rfl ((List.nodup_append.mp q).2.2 g e g (List.mem_cons_self ..))
    · have ek : addKey K g = K ++ [g] := if_neg e
      have nd := addKey_nd h g
      rw [ek] at nd ⊢
      have ih := addKeys_eq G (K ++ [g]) nd
      rw [List.append_assoc] at ih
      rw [← show K ++ ([g] ++ G) = K ++ g :: G from rfl, ← ih, List.length_append, List.length_singleton, List.length_cons]
      omega
theorem look_some {β : Type} (f : Face) : ∀ m : List (Face × β), (m.lookup f).isSome = decide (f ∈ m.map (·.1))
  | [] => rfl
  | p :: m => by
    rw [List.lookup_cons, List.map_cons]
    by_cases e : f = p.1
    · rw [e]; simp
    · have e2 : (f == p.1) = false := by simpa using e
      rw [e2]
      simp only
      rw [look_some f m]
      simp [e]
theorem held_look (P : Pg) (f : Face) : ((putAll [] (heldL P)).lookup f).isSome = decide (f ∈ heldL P) := by
  rw [look_some, keys_putAll]
  simp [mem_addKeys]
theorem held_count (P : Pg) : (putAll [] (heldL P)).length = 2 * P.length ↔ (heldL P).Nodup := by
  have h := addKeys_eq (heldL P) [] List.nodup_nil
  rw [held_len] at h
  have e : (putAll [] (heldL P)).length = ((heldL P).foldl addKey []).length := by
    have := congrArg List.length (keys_putAll (heldL P) [])
    rwa [List.length_map] at this
  rw [e]
  simpa using h
def leftB (B : Bk) (P : Pg) : Bk := B.filter fun f => !decide (f ∈ heldL P)
/-- number 57: a_pair -/
def f57_c0 : TB.E := .lc (.call 3 (.cons (.var 2) .nil)) (.nm 2) (.e (.var 1)) [2] .no
def f57_a0 : TB.E := .bi .all (.cons f57_c0 .nil)
def f57 : TB.Fn := ⟨2, 3, (.cons (.ife (.or (.not (.isin (.var 1) .tuple)) (.or (.cmp .NotEq (.bi .len (.cons (.var 1) .nil)) (.cn (.int 2))) (.not f57_a0))) (.cons (.ret (.cn (.bool false))) .nil) .nil) (.cons (.ret (.and (.cmp .In (.idx (.var 1) (.cn (.int 0))) (.call 13 (.cons (.idx (.var 1) (.cn (.int 1))) .nil))) (.cmp .In (.idx (.var 1) (.cn (.int 1))) (.var 0)))) .nil))⟩
section
variable {fs : Tbl} [Has fs 13 f13] [Has fs 2 f2] [Has fs 0 f0] [Has fs 1 f1] [Has fs 3 f3] [Has fs 57 f57] {n : Nat} {st : Sto}
theorem run_apair (B : Bk) (d : D) : callF fs GG (n + 4) 57 [.d (.tuple (B.map fc)), .d d] st = .ok (.d (.bool (pairB B d))) st := by
  rw [callF_of rfl]
  cases ht : isTy .tuple d with
  | false =>
    have hf : pairB B d = false := by cases d <;> first | rfl | cases ht
    simp [f57, startE, ht, hf]
  | true =>
    obtain ⟨xs, rfl⟩ : ∃ xs, d = .tuple xs := by cases d <;> first | exact ⟨_, rfl⟩ | cases ht
    by_cases l2 : xs.length = 2
    · have hc : ev (callF fs GG (n + 3)) GG f57_a0 [some (.d (.tuple (B.map fc))), some (.d (.tuple xs)), none] st = .ok (.d (.bool (xs.all faceB))) st := by
        simp [f57_a0, f57_c0, run_face]
      obtain ⟨a, b, rfl⟩ : ∃ a b, xs = [a, b] := by
        match xs, l2 with
        | [a, b], _ => exact ⟨a, b, rfl⟩
      cases ha : faceOf a with
      | none =>
        have hf : pairB B (.tuple [a, b]) = false := by simp [pairB, prOf, ha]
        have hx : ([a, b].all faceB) = false := by simp [faceB, ha]
        rw [hx] at hc
        simp [f57, startE, hc, hf]
      | some f =>
        cases hb : faceOf b with
        | none =>
          have hf : pairB B (.tuple [a, b]) = false := by simp [pairB, prOf, ha, hb]
          have hx : ([a, b].all faceB) = false := by simp [faceB, hb]
          rw [hx] at hc
          simp [f57, startE, hc, hf]
        | some g =>
          have hx : ([a, b].all faceB) = true := by simp [faceB, ha, hb]
          rw [hx] at hc
          obtain ⟨rfl, h1⟩ := faceOf_some.mp ha
          obtain ⟨rfl, h2⟩ := faceOf_some.mp hb
          have hp := pairB_pr (B := B) (p := (f, g)) h1 h2
          rw [pr_of] at hc ⊢
          rw [hp]
          have hr := fun s => run_rims (fs := fs) (n := n + 2) (st := s) g (by have := (isF_len h2).2; omega)
          by_cases q1 : f ∈ rims g
          · by_cases q2 : g ∈ B <;> simp [f57, startE, hc, hr, q1, q2]
          · simp [f57, startE, hc, hr, q1]
    · have hf : pairB B (.tuple xs) = false := by
        unfold pairB
        cases e : prOf B (.tuple xs) with
        | none => rfl
        | some p =>
          obtain ⟨e1, _⟩ := prOf_some.mp e
          have : xs = [fc p.1, fc p.2] := by injection e1
          rw [this] at l2
          exact absurd rfl l2
      have l2' : ¬ (xs.length : Int) = 2 := by omega
      simp [f57, startE, l2', hf]
end
/-- number 58: held_by -/
def f58_b0 : TB.Ss := (.cons (.seti 1 (.var 2) (.cn (.bool true))) (.cons (.seti 1 (.var 3) (.cn (.bool true))) .nil))
def f58_l0 : TB.S := .fori (.tp [2, 3]) (.e (.var 0)) f58_b0 [2, 3] true
def f58 : TB.Fn := ⟨1, 4, (.cons (.asg 1 .dnew true) (.cons f58_l0 (.cons (.ret (.var 1)) .nil)))⟩
section
variable {fs : Tbl} [Has fs 58 f58] {n : Nat} {st : Sto}
theorem run_held (P : Pg) (hP : P.length ≤ 1000) : callF fs GG (n + 1) 58 [.d (.tuple (P.map pr))] st = .ok (.d (.dict (rows .bool (putAll [] (heldL P))))) st := by
  have key : ex (callF fs GG n) GG f58_l0 [some (.d (.tuple (P.map pr))), some (.r st.length), none, none] (st ++ [.dct (rows .bool [])]) = .ok (.nx [some (.d (.tuple (P.map pr))), some (.r st.length), none, none]) (st ++ [.dct (rows .bool (putAll [] (heldL P)))]) := by
    simp only [f58_l0, ex_fori, evI_e, ev_var, List.getElem?_cons_zero, Res.bind_ok, val_d, seq_t, ofO_some, forL_map]
    refine forL_go (fun _ => [some (.d (.tuple (P.map pr))), some (.r st.length), none, none]) (fun q : List (Face × Bool) => st ++ [Ob.dct (rows .bool q)]) (fun d q => q = putAll [] (heldL d)) [] rfl rfl rfl ?_ (fun q hq => by subst hq; rfl)
    rintro d p q ⟨r, hr⟩ rfl
    have hd := congrArg List.length hr
    rw [List.length_append, List.length_cons] at hd
    have hl := putAll_len (heldL d) []
    rw [held_len] at hl
    refine ⟨alPut (alPut (putAll [] (heldL d)) p.1 true) p.2 true, ?_, ?_⟩
    · have hl1 : (rows PyData.bool (putAll [] (heldL d))).length < LIM := by
        rw [rows_len]
        unfold LIM
        simp only [List.length_nil] at hl
        omega
      have hl2 : (rows PyData.bool (alPut (putAll [] (heldL d)) p.1 true)).length < LIM := by
        rw [rows_len]
        have := alPut_len (putAll [] (heldL d)) p.1 true
        unfold LIM
        simp only [List.length_nil] at hl
        omega
      have p1 := put_rows PyData.bool (putAll [] (heldL d)) p.1 true
      have p2 := put_rows PyData.bool (alPut (putAll [] (heldL d)) p.1 true) p.2 true
      simp [f58_b0, atVar, change, setSlot, keys_rows, hl1, hl2, p1, p2]
    · unfold heldL putAll
      rw [List.flatMap_append, List.foldl_append]
      rfl
  have key' : ex (callF fs GG n) GG f58_l0 [some (.d (.tuple (P.map pr))), some (.r st.length), none, none] (st ++ [.dct []]) = _ := key
  rw [callF_of rfl]
  simp [f58, startE, freshE, newOb, key', Ob.tree]
end
/-- number 59: a_pairing -/
def f59_c0 : TB.E := .lc (.call 57 (.cons (.var 0) (.cons (.var 2) .nil))) (.nm 2) (.e (.var 1)) [2] .no
def f59_a0 : TB.E := .bi .all (.cons f59_c0 .nil)
def f59 : TB.Fn := ⟨2, 3, (.cons (.ife (.or (.not (.isin (.var 1) .tuple)) (.not f59_a0)) (.cons (.ret (.cn (.bool false))) .nil) .nil) (.cons (.ret (.and (.call 2 (.cons (.var 1) .nil)) (.cmp .Eq (.bi .len (.cons (.call 58 (.cons (.var 1) .nil)) .nil)) (.bin .Mult (.cn (.int 2)) (.bi .len (.cons (.var 1) .nil)))))) .nil))⟩
section
variable {fs : Tbl} [Has fs 2 f2] [Has fs 58 f58] [Has fs 13 f13] [Has fs 0 f0] [Has fs 1 f1] [Has fs 3 f3] [Has fs 57 f57] [Has fs 59 f59] {n : Nat} {st : Sto}
theorem run_apairing (B : Bk) (d : D) (hd : ∀ xs, d = .tuple xs → xs.length ≤ 1000) : callF fs GG (n + 5) 59 [.d (.tuple (B.map fc)), .d d] st = .ok (.d (.bool (pairingB B d))) st := by
  rw [callF_of rfl]
  cases ht : isTy .tuple d with
  | false =>
    have hf : pairingB B d = false := by cases d <;> first | rfl | cases ht
    simp [f59, startE, ht, hf]
  | true =>
    obtain ⟨xs, rfl⟩ : ∃ xs, d = .tuple xs := by cases d <;> first | exact ⟨_, rfl⟩ | cases ht
    have hl := hd xs rfl
    have hc : ev (callF fs GG (n + 4)) GG f59_a0 [some (.d (.tuple (B.map fc))), some (.d (.tuple xs)), none] st = .ok (.d (.bool (xs.all (pairB B)))) st := by
      simp [f59_a0, f59_c0, run_apair]
    rw [prsOf_all] at hc
    cases hP : prsOf B xs with
    | none =>
      have hf : pairingB B (.tuple xs) = false := by simp [pairingB, hP]
      rw [hP] at hc
      simp [f59, startE, hc, hf]
    | some P =>
      have hf : pairingB B (.tuple xs) = (adj prLt P && decide (heldL P).Nodup) := by simp [pairingB, hP]
      rw [hP] at hc
      obtain ⟨rfl, hF⟩ := prsOf_some.mp hP
      rw [List.length_map] at hl
      have r1 := run_rise_p (fs := fs) (n := n + 3) (st := st) P
      have r2 := run_held (fs := fs) (n := n + 3) (st := st) P hl
      have hm : mulOk 2 (P.length : Int) = true := by simp [mulOk]
      have hcnt := held_count P
      have el : ((putAll [] (heldL P)).length : Int) = 2 * (P.length : Int) ↔ (heldL P).Nodup := by
        rw [← hcnt]
        omega
      cases hr : adj prLt P with
      | false =>
        simp [f59, startE, hc, r1, hr, hf]
      | true =>
        have hbl : ∀ kvs : List (D × D), biD .len [.dict kvs] = some (.int kvs.length) := fun _ => rfl
        by_cases q : (heldL P).Nodup
        · simp [f59, startE, hc, r1, r2, hr, hf, hm, hbl, rows_len, el.mpr q, q]
        · have q2 : ¬ ((putAll [] (heldL P)).length : Int) = 2 * (P.length : Int) := fun z => q (el.mp z)
          simp [f59, startE, hc, r1, r2, hr, hf, hm, hbl, rows_len, q2, q]
end
/-- number 60: need_pairing -/
def f60 : TB.Fn := ⟨2, 2, (.cons (.exprX 24 (.cons (.var 0) .nil)) (.cons (.ife (.not (.call 59 (.cons (.var 0) (.cons (.var 1) .nil)))) (.cons (.rais 3 .nil) .nil) .nil) .nil))⟩
section
variable {fs : Tbl} [Has fs 2 f2] [Has fs 0 f0] [Has fs 1 f1] [Has fs 3 f3] [Has fs 13 f13] [Has fs 14 f14] [Has fs 24 f24] [Has fs 58 f58] [Has fs 57 f57] [Has fs 59 f59] [Has fs 60 f60] {n : Nat} {st : Sto}
theorem run_needPg {B : Bk} {P : Pg} (h : IsBk B) (hp : IsPg B P) : callF fs GG (n + 6) 60 [.d (.tuple (B.map fc)), .d (.tuple (P.map pr))] st = .ok (.d .none) st := by
  have hl := IsPg.few h.toIsCl hp
  have h6 := h.few
  have r1 := run_apairing (fs := fs) (n := n) (st := st) B (.tuple (P.map pr)) (fun xs e => by
    injection e with e
    rw [← e, List.length_map]
    omega)
  rw [pairingB_of hp] at r1
  rw [callF_of rfl]
  simp [f60, startE, run_needB h, r1]
end
/-- number 61: left_of -/
def f61_c0 : TB.E := .lc (.var 3) (.nm 3) (.e (.var 0)) [3] (.yes (.cmp .NotIn (.var 3) (.var 2)))
def f61 : TB.Fn := ⟨2, 4, (.cons (.asg 2 (.call 58 (.cons (.var 1) .nil)) false) (.cons (.retN f61_c0) .nil))⟩
section
variable {fs : Tbl} [Has fs 58 f58] [Has fs 61 f61] {n : Nat} {st : Sto}
theorem run_leftOf (B : Bk) (P : Pg) (hP : P.length ≤ 1000) : callF fs GG (n + 2) 61 [.d (.tuple (B.map fc)), .d (.tuple (P.map pr))] st = .ok (.r st.length) (st ++ [.lst ((leftB B P).map fc)]) := by
  have r1 := run_held (fs := fs) (n := n) (st := st) P hP
  have key : ev (callF fs GG (n + 1)) GG f61_c0 [some (.d (.tuple (B.map fc))), some (.d (.tuple (P.map pr))), some (.d (.dict (rows .bool (putAll [] (heldL P))))), none] st = .ok (.d (.list ((leftB B P).map fc))) st := by
    simp only [f61_c0, ev_lc, evI_e, ev_var, List.getElem?_cons_zero, Res.bind_ok, val_d, seq_t, ofO_some, compL_map]
    rw [compL_filt (p := fun f => !decide (f ∈ heldL P)) (g := fc)]
    · rfl
    · intro f hf
      by_cases q : f ∈ heldL P <;> simp [held_look, q]
  have hfr : freshE f61_c0 = true := rfl
  rw [callF_of rfl]
  simp [f61, startE, r1, key, hfr, newOb]
end
/-- number 63: left -/
def f63 : TB.Fn := ⟨2, 2, (.cons (.exprX 60 (.cons (.var 0) (.cons (.var 1) .nil))) (.cons (.retN (.call 61 (.cons (.var 0) (.cons (.var 1) .nil)))) .nil))⟩
section
variable {fs : Tbl} [Has fs 2 f2] [Has fs 0 f0] [Has fs 1 f1] [Has fs 3 f3] [Has fs 13 f13] [Has fs 14 f14] [Has fs 24 f24] [Has fs 58 f58] [Has fs 57 f57] [Has fs 59 f59] [Has fs 60 f60] [Has fs 61 f61] [Has fs 63 f63] {n : Nat} {st : Sto}
theorem run_left {B : Bk} {P : Pg} (h : IsBk B) (hp : IsPg B P) : callF fs GG (n + 7) 63 [.d (.tuple (B.map fc)), .d (.tuple (P.map pr))] st = .ok (.r st.length) (st ++ [.lst ((leftB B P).map fc)]) := by
  have hl := IsPg.few h.toIsCl hp
  have h6 := h.few
  rw [callF_of rfl]
  simp [f63, startE, run_needPg h hp, run_leftOf (n := n + 4) B P (by omega)]
end
/-- number 64: left_counts -/
def f64_c0 : TB.E := .lc (.bi .len (.cons (.call 38 (.cons (.var 2) (.cons (.var 3) .nil))) .nil)) (.nm 3) (.r2 (.cn (.int 1)) (.bin .Add (.call 39 (.cons (.var 0) .nil)) (.cn (.int 1)))) [3] .no
def f64 : TB.Fn := ⟨2, 4, (.cons (.exprX 60 (.cons (.var 0) (.cons (.var 1) .nil))) (.cons (.asg 2 (.fz (.call 61 (.cons (.var 0) (.cons (.var 1) .nil)))) false) (.cons (.retN f64_c0) .nil)))⟩
section
variable {fs : Tbl} [Has fs 2 f2] [Has fs 0 f0] [Has fs 1 f1] [Has fs 3 f3] [Has fs 13 f13] [Has fs 14 f14] [Has fs 24 f24] [Has fs 58 f58] [Has fs 57 f57] [Has fs 59 f59] [Has fs 60 f60] [Has fs 61 f61] [Has fs 38 f38] [Has fs 39 f39] [Has fs 64 f64] {n : Nat} {st : Sto}
def cntsBy (m : Nat) (L : Bk) : List Int := (List.range m).map fun k : Nat => ((sized L (1 + (k : Int))).length : Int)
theorem run_leftCounts {B : Bk} {P : Pg} (h : IsBk B) (hp : IsPg B P) : callF fs GG (n + 7) 64 [.d (.tuple (B.map fc)), .d (.tuple (P.map pr))] st = .ok (.r st.length) (st ++ [.lst ((cntsBy (most B) (leftB B P)).map .int)]) := by
  have hl := IsPg.few h.toIsCl hp
  have h6 := h.few
  have r1 := run_needPg (fs := fs) (n := n) (st := st) h hp
  have r2 := run_leftOf (fs := fs) (n := n + 4) (st := st) B P (by omega)
  have r3 := fun s => run_facesOfL (fs := fs) (n := n + 5) (st := s) (leftB B P)
  have hm := run_most (fs := fs) (n := n + 5) (st := st) h.ne
  have h5 := h.most
  have hc : cntsBy (most B) (leftB B P) = (List.range (most B)).map fun k : Nat => ((sized (leftB B P) (1 + (k : Int))).length : Int) := rfl
  generalize most B = M at hm h5 hc
  obtain ⟨Z, hZ⟩ : ∃ Z : Int, Z = M := ⟨_, rfl⟩
  rw [← hZ] at hm
  have hs : smallB (Z + 1) = true := by simp [smallB]; omega
  have hs1 : smallB 1 = true := by simp [smallB]
  have e : Z.toNat = M := by omega
  clear hZ h5
  rw [callF_of rfl]
  simp [f64, f64_c0, startE, r1, r2, Ob.tree, hm, hs, hs1, e, r3, freshE, newOb, hc]
end
end TB
set_option maxRecDepth 100000
set_option maxHeartbeats 2000000
namespace TB
open PySem PySem.W
/-! LFol: pairs that come behind others; rounds. -/
/-- no part of a list leads on within itself -/
def NoRound {α : Type} (R : α → α → Bool) (L : List α) : Prop := ∀ T : List α, (∀ x ∈ T, x ∈ L) → (∀ x ∈ T, ∃ y ∈ T, R x y = true) → T = []
theorem NoRound.sub {α : Type} {R : α → α → Bool} {L M : List α} (h : NoRound R L) (s : ∀ x ∈ M, x ∈ L) : NoRound R M := fun T h1 h2 => h T (fun x hx => s x (h1 x hx)) h2
theorem NoRound.nil {α : Type} {R : α → α → Bool} : NoRound R [] := fun T h1 _ => by
  cases T with
  | nil => rfl
  | cons x T => exact absurd (h1 x (List.mem_cons_self ..)) (by simp)
/-- those that lead on -/
def trimS {α : Type} (R : α → α → Bool) (S : List α) : List α := S.filter fun x => S.any fun y => R x y
theorem trim_le {α : Type} (R : α → α → Bool) (S : List α) : (trimS R S).length ≤ S.length := List.length_filter_le ..
theorem trim_same {α : Type} {R : α → α → Bool} {S : List α} (h : ¬ (trimS R S).length < S.length) : ∀ x ∈ S, ∃ y ∈ S, R x y = true := by
  have h2 : (trimS R S).length = S.length := Nat.le_antisymm (trim_le R S) (by omega)
  intro x hx
  have := (List.length_filter_eq_length_iff.mp h2) x hx
  rw [List.any_eq_true] at this
  exact this
theorem trim_keeps {α : Type} {R : α → α → Bool} {S T : List α} (h1 : ∀ x ∈ T, x ∈ S) (h2 : ∀ x ∈ T, ∃ y ∈ T, R x y = true) : ∀ x ∈ T, x ∈ trimS R S := by
  intro x hx
  obtain ⟨y, hy, r⟩ := h2 x hx
  exact List.mem_filter.mpr ⟨h1 x hx, List.any_eq_true.mpr ⟨y, h1 y hy, r⟩⟩
/-- what is said of a list on its way to the part that leads on -/
def Trims {α : Type} (R : α → α → Bool) (L S : List α) : Prop := (∀ x ∈ S, x ∈ L) ∧ ∀ T : List α, (∀ x ∈ T, x ∈ L) → (∀ x ∈ T, ∃ y ∈ T, R x y = true) → ∀ x ∈ T, x ∈ S
theorem Trims.all {α : Type} (R : α → α → Bool) (L : List α) : Trims R L L := ⟨fun _ h => h, fun _ h _ => h⟩
theorem Trims.next {α : Type} {R : α → α → Bool} {L S : List α} (h : Trims R L S) : Trims R L (trimS R S) :=
  ⟨fun x hx => h.1 x (List.mem_filter.mp hx).1, fun T h1 h2 => trim_keeps (h.2 T h1 h2) h2⟩
theorem Trims.end {α : Type} {R : α → α → Bool} {L S : List α} (h : Trims R L S) (e : ∀ x ∈ S, ∃ y ∈ S, R x y = true) : S = [] ↔ NoRound R L := by
  constructor
  · intro z T h1 h2
    have := h.2 T h1 h2
    rw [z] at this
    cases T with
    | nil => rfl
    | cons x T => exact absurd (this x (List.mem_cons_self ..)) (by simp)
  · intro q
    exact q S h.1 e
/-- a pair that can come behind another one -/
def folB (p q : Face × Face) : Bool := !decide (p = q) && decide (q.1 ∈ rims p.2)
def laterI (P : Pg) (p : Face × Face) : List Nat := ((P.zipIdx 0).filter fun q => folB p q.1).map (·.2)
def laterL (P : Pg) : List (List Nat) := P.map (laterI P)
abbrev nl (r : List Nat) : D := .list (r.map fun (k : Nat) => PyData.int k)
theorem mem_laterI {P : Pg} {p : Face × Face} {j : Nat} : j ∈ laterI P p ↔ ∃ q, P[j]? = some q ∧ folB p q = true := by
  unfold laterI
  rw [List.mem_map]
  constructor
  · rintro ⟨⟨q, k⟩, h, rfl⟩
    obtain ⟨h1, h2⟩ := List.mem_filter.mp h
    exact ⟨q, List.mem_zipIdx_iff_getElem?.mp h1, h2⟩
  · rintro ⟨q, h1, h2⟩
    exact ⟨(q, j), List.mem_filter.mpr ⟨List.mem_zipIdx_iff_getElem?.mpr h1, h2⟩, rfl⟩
theorem laterI_lt {P : Pg} {p : Face × Face} {j : Nat} (h : j ∈ laterI P p) : j < P.length := by
  obtain ⟨q, h1, _⟩ := mem_laterI.mp h
  exact (List.getElem?_eq_some_iff.mp h1).1
/-- by places -/
def leadB (P : Pg) (i j : Nat) : Bool := decide (j ∈ (laterL P).getD i [])
theorem leadB_iff {P : Pg} {i j : Nat} : leadB P i j = true ↔ ∃ p q, P[i]? = some p ∧ P[j]? = some q ∧ folB p q = true := by
  unfold leadB laterL
  rw [decide_eq_true_eq, List.getD_eq_getElem?_getD, List.getElem?_map]
  cases h : P[i]? with
  | none => simp
  | some p =>
    simp only [Option.map_some, Option.getD_some, mem_laterI, Option.some.injEq]
    constructor
    · rintro ⟨q, h1, h2⟩
      exact ⟨p, q, rfl, h1, h2⟩
    · rintro ⟨p', q, rfl, h1, h2⟩
      exact ⟨q, h1, h2⟩
theorem noRound_places (P : Pg) : NoRound (leadB P) (List.range P.length) ↔ NoRound folB P := by
  constructor
  · intro h T h1 h2
    have at_ : ∀ p ∈ T, ∃ i, P[i]? = some p := fun p hp => List.getElem?_of_mem (h1 p hp)
    have key := h ((List.range P.length).filter fun i => decide (∃ p ∈ T, P[i]? = some p)) (fun i hi => (List.mem_filter.mp hi).1) fun i hi => by
      obtain ⟨_, hi⟩ := List.mem_filter.mp hi
      obtain ⟨p, hp, e⟩ := of_decide_eq_true hi
      obtain ⟨q, hq, f⟩ := h2 p hp
      obtain ⟨j, e2⟩ := at_ q hq
      exact ⟨j, List.mem_filter.mpr ⟨List.mem_range.mpr (List.getElem?_eq_some_iff.mp e2).1, decide_eq_true ⟨q, hq, e2⟩⟩, leadB_iff.mpr ⟨p, q, e, e2, f⟩⟩
    cases T with
    | nil => rfl
    | cons p T =>
      obtain ⟨i, e⟩ := at_ p (List.mem_cons_self ..)
      have : i ∈ (List.range P.length).filter fun i => decide (∃ q ∈ p :: T, P[i]? = some q) := List.mem_filter.mpr ⟨List.mem_range.mpr (List.getElem?_eq_some_iff.mp e).1, decide_eq_true ⟨p, List.mem_cons_self .., e⟩⟩
      rw [key] at this
      cases this
  · intro h T h1 h2
    have key := h (T.filterMap fun i => P[i]?) (fun p hp => by
      obtain ⟨i, _, e⟩ := List.mem_filterMap.mp hp
      exact List.mem_of_getElem? e) fun p hp => by
      obtain ⟨i, hi, e⟩ := List.mem_filterMap.mp hp
      obtain ⟨j, hj, r⟩ := h2 i hi
      obtain ⟨p', q, e1, e2, f⟩ := leadB_iff.mp r
      rw [e] at e1
      cases e1
      exact ⟨q, List.mem_filterMap.mpr ⟨j, hj, e2⟩, f⟩
    cases T with
    | nil => rfl
    | cons i T =>
      have hi := List.mem_range.mp (h1 i (List.mem_cons_self ..))
      have : P[i] ∈ (i :: T).filterMap fun i => P[i]? := List.mem_filterMap.mpr ⟨i, List.mem_cons_self .., List.getElem?_eq_getElem hi⟩
      rw [key] at this
      cases this
/-- without a round -/
noncomputable def calmB (P : Pg) : Bool := haveI := Classical.propDecidable (NoRound folB P); decide (NoRound folB P)
theorem calmB_iff {P : Pg} : calmB P = true ↔ NoRound folB P := by
  unfold calmB
  simp only [decide_eq_true_eq]
theorem fol_irr (p : Face × Face) : folB p p = false := by simp [folB]
theorem noRound_of {α : Type} [DecidableEq α] {R : α → α → Bool} (irr : ∀ x, R x x = false) : ∀ {L : List α}, L.Pairwise (fun a b => R b a = false) → NoRound R L
  | [], _ => NoRound.nil
  | x :: L, h => fun T h1 h2 => by
    obtain ⟨hx, hL⟩ := List.pairwise_cons.mp h
    have ih := noRound_of irr hL (T.filter fun t => !decide (t = x)) (fun t ht => by
      obtain ⟨a, b⟩ := List.mem_filter.mp ht
      exact (List.mem_cons.mp (h1 t a)).resolve_left (by simpa using b)) fun t ht => by
        obtain ⟨a, b⟩ := List.mem_filter.mp ht
        obtain ⟨y, hy, r⟩ := h2 t a
        have hl := (List.mem_cons.mp (h1 t a)).resolve_left (by simpa using b)
        refine ⟨y, List.mem_filter.mpr ⟨hy, ?_⟩, r⟩
        by_cases e : y = x
        · rw [e, hx t hl] at r
          cases r
        · simpa using e
    have all : ∀ t ∈ T, t = x := fun t ht => by
      by_cases e : t = x
      · exact e
      · have : t ∈ T.filter fun t => !decide (t = x) := List.mem_filter.mpr ⟨ht, by simpa using e⟩
        rw [ih] at this
        cases this
    cases T with
    | nil => rfl
    | cons t T =>
      obtain ⟨y, hy, r⟩ := h2 t (List.mem_cons_self ..)
      rw [all y hy, all t (List.mem_cons_self ..), irr] at r
      cases r
/-- not of an own pair that was found ahead -/
theorem fol_not {p q : Face × Face} (h : q.1 ∉ rims p.2) : folB p q = false := by simp [folB, h]
end TB
set_option maxRecDepth 100000
set_option maxHeartbeats 2000000
namespace TB
open PySem PySem.W
/-! LPairDraw: pairings, as a law draws them. -/
theorem draw_at {α : Type} {L : List α} (h : L ≠ []) (P : Pen) : ∃ k x, x ∈ L ∧ placeOf L.length (drawV P L.length) = some k ∧ L[k]? = some x := by
  have h1 := List.length_pos_iff.mpr h
  have hv := drawV_lt P (m := L.length) (by omega)
  generalize drawV P L.length = v at hv ⊢
  obtain ⟨k, rfl⟩ : ∃ k : Nat, v = (k : Int) := ⟨v.toNat, by omega⟩
  have hk : k < L.length := by omega
  refine ⟨k, L[k], List.getElem_mem hk, ?_, List.getElem?_eq_getElem hk⟩
  unfold placeOf
  rw [if_pos (by omega), if_pos hv.2]
  simp
/-- all pairs of a block -/
def allP (B : Bk) : Pg := B.flatMap fun g => (rims g).map fun r => (r, g)
theorem mem_allP {B : Bk} {p : Face × Face} : p ∈ allP B ↔ p.2 ∈ B ∧ p.1 ∈ rims p.2 := by
  unfold allP
  rw [List.mem_flatMap]
  constructor
  · rintro ⟨g, hg, h⟩
    obtain ⟨r, hr, rfl⟩ := List.mem_map.mp h
    exact ⟨hg, hr⟩
  · rintro ⟨h1, h2⟩
    exact ⟨p.2, h1, List.mem_map.mpr ⟨p.1, h2, rfl⟩⟩
theorem allP_good {B : Bk} (h : IsCl B) {p : Face × Face} (hp : p ∈ allP B) : isF p.1 = true ∧ isF p.2 = true ∧ p.1 ∈ rims p.2 ∧ p.2 ∈ B := by
  obtain ⟨h1, h2⟩ := mem_allP.mp hp
  exact ⟨h.face _ (h.whole _ h1 _ h2), h.face _ h1, h2, h1⟩
theorem allP_len : ∀ {B : Bk}, (∀ f ∈ B, isF f = true) → (allP B).length ≤ 5 * B.length
  | [], _ => Nat.le_refl _
  | g :: B, h => by
    have ih := allP_len fun f hf => h f (List.mem_cons_of_mem _ hf)
    have h1 := rims_len g
    have h5 := (isF_len (h g (List.mem_cons_self ..))).2
    show (((rims g).map fun r => (r, g)) ++ allP B).length ≤ _
    rw [List.length_append, List.length_map, List.length_cons]
    omega
theorem put_pair (Q : Pg) (p : Face × Face) : alPut (alPut (putAll [] (heldL Q)) p.1 true) p.2 true = putAll [] (heldL (Q ++ [p])) := by
  unfold heldL putAll
  rw [List.flatMap_append, List.foldl_append]
  rfl
/-- pairs of a block that have no face in common -/
structure Apart (B : Bk) (Q : Pg) : Prop where
  pair : ∀ p ∈ Q, isF p.1 = true ∧ isF p.2 = true ∧ p.1 ∈ rims p.2 ∧ p.2 ∈ B
  nd : (heldL Q).Nodup
theorem Apart.nil (B : Bk) : Apart B [] := ⟨by simp, List.nodup_nil⟩
theorem Apart.snoc {B : Bk} {Q : Pg} (h : Apart B Q) {p : Face × Face} (hp : isF p.1 = true ∧ isF p.2 = true ∧ p.1 ∈ rims p.2 ∧ p.2 ∈ B) (n1 : p.1 ∉ heldL Q) (n2 : p.2 ∉ heldL Q) : Apart B (Q ++ [p]) := by
  refine ⟨fun q hq => ?_, ?_⟩
  · rcases List.mem_append.mp hq with hq | hq
    · exact h.pair q hq
    · rw [List.mem_singleton] at hq
      subst hq
      exact hp
  · have e : heldL (Q ++ [p]) = heldL Q ++ [p.1, p.2] := by unfold heldL; rw [List.flatMap_append]; rfl
    rw [e, List.nodup_append]
    refine ⟨h.nd, ?_, fun a ha b hb => ?_⟩
    · have := (rim_sub hp.2.2.1).2
      refine List.nodup_cons.mpr ⟨fun z => ?_, by simp⟩
      rw [List.mem_singleton] at z
      rw [z] at this
      omega
    · intro e
      subst e
      rcases List.mem_cons.mp hb with rfl | hb
      · exact n1 ha
      · rw [List.mem_singleton] at hb
        subst hb
        exact n2 ha
theorem Apart.few {B : Bk} {Q : Pg} (hB : IsCl B) (h : Apart B Q) : 2 * Q.length ≤ 60 := by
  have h1 := IsPg.few hB (pg_of h.pair h.nd)
  rw [srtP_len] at h1
  have := hB.few
  omega
theorem lists_pr (P : Pg) : listsD (P.map fun p => .list [fc p.1, fc p.2]) = some ((heldL P).map fc) := by
  induction P with
  | nil => rfl
  | cons p P ih =>
    rw [List.map_cons, listsD, ih]
    rfl
/-- without a top -/
theorem bare_cl {B : Bk} (h : IsCl B) {t : Face} (ht : t ∈ topsB B) : IsCl (B.filter fun f => !decide (f = t)) where
  face f hf := h.face f (List.mem_filter.mp hf).1
  few := Nat.le_trans (List.length_filter_le _ _) h.few
  rise := h.rise.sublist List.filter_sublist
  whole f hf r hr := by
    have hB := (List.mem_filter.mp hf).1
    rw [List.mem_filter]
    refine ⟨h.whole f hB r hr, ?_⟩
    have : r ≠ t := fun e => (mem_tops.mp ht).2 f hB (by rw [← e]; exact hr)
    simpa using this
/-- number 111: law_pairs -/
def f111_c0 : TB.E := .lc (.tup (.cons (.var 3) (.cons (.var 2) .nil))) (.nm 3) (.e (.call 17 (.cons (.var 2) .nil))) [3] .no
def f111_b0 : TB.Ss := (.cons (.ext 1 f111_c0) .nil)
def f111_l0 : TB.S := .fori (.nm 2) (.e (.var 0)) f111_b0 [2] true
def f111 : TB.Fn := ⟨1, 4, (.cons (.asg 1 (.lst .nil) true) (.cons f111_l0 (.cons (.ret (.bi .sorted (.cons (.var 1) .nil))) .nil)))⟩
section
variable {fs : Tbl} [Has fs 17 f17] [Has fs 111 f111] {n : Nat} {st : Sto}
theorem run_lpairs {B : Bk} (h : IsBk B) : callF fs GG (n + 2) 111 [.d (.tuple (B.map fc))] st = .ok (.d (.list ((srtP (allP B)).map pr))) st := by
  have key : ex (callF fs GG (n + 1)) GG f111_l0 [some (.d (.tuple (B.map fc))), some (.r st.length), none, none] (st ++ [.lst []]) = .ok (.nx [some (.d (.tuple (B.map fc))), some (.r st.length), none, none]) (st ++ [.lst ((allP B).map pr)]) := by
    simp only [f111_l0, ex_fori, evI_e, ev_var, List.getElem?_cons_zero, Res.bind_ok, val_d, seq_t, ofO_some, forL_map]
    refine forL_go (fun _ : Pg => [some (.d (.tuple (B.map fc))), some (.r st.length), none, none]) (fun q => st ++ [.lst (q.map pr)]) (fun d q => q = allP d) [] rfl rfl rfl ?_ (fun q hq => by subst hq; rfl)
    rintro d g q ⟨r, hr⟩ rfl
    have hg : g ∈ B := by rw [hr]; simp
    have h5 := (isF_len (h.face g hg)).2
    have r1 := fun s => run_lrims (fs := fs) (n := n) (st := s) g (by omega)
    have hd := congrArg List.length hr
    rw [List.length_append, List.length_cons] at hd
    have h6 := h.few
    have hal := allP_len (B := d) fun f hf => h.face f (by rw [hr]; exact List.mem_append_left _ hf)
    have hrl := rims_len g
    have hc : ev (callF fs GG (n + 1)) GG f111_c0 [some (.d (.tuple (B.map fc))), some (.r st.length), some (.d (fc g)), none] (st ++ [.lst ((allP d).map pr)]) = .ok (.d (.list ((rims g).map fun r => pr (r, g)))) (st ++ [.lst ((allP d).map pr)]) := by
      simp only [f111_c0, ev_lc, evI_e, ev_call, evs_cons, evs_nil, ev_var, List.getElem?_cons_succ, List.getElem?_cons_zero, Res.bind_ok, r1, val_d, seq_l, ofO_some, compL_map]
      rw [compL_all (g := fun r => pr (r, g))]
      · rfl
      · intro r hr
        simp [pr_of]
    have hlim : (allP d).length + (rims g).length < LIM := by unfold LIM; omega
    refine ⟨allP d ++ (rims g).map fun r => (r, g), ?_, by unfold allP; rw [List.flatMap_append]; simp⟩
    simp [f111_b0, hc, lstAt, atVar, change, extSlot, hlim]
    try rfl
  have hal := allP_len h.face
  have h6 := h.few
  have e1 : sortedD ((allP B).map pr) = some (.list ((srtP (allP B)).map pr)) := sorted_pr (by unfold LIM; omega)
  rw [callF_of rfl]
  simp [f111, startE, freshE, newOb, key, peek, e1]
end
/-- number 112: law_matching -/
def f112_b0 : TB.Ss := (.cons (.ife (.and (.cmp .NotIn (.var 7) (.var 6)) (.and (.cmp .NotIn (.var 8) (.var 6)) (.cmp .Eq (.call 5 (.cons (.var 0) (.cons (.var 2) .nil))) (.cn (.int 0))))) (.cons (.app 4 (.tup (.cons (.var 7) (.cons (.var 8) .nil)))) (.cons (.seti 6 (.var 7) (.cn (.bool true))) (.cons (.seti 6 (.var 8) (.cn (.bool true))) .nil))) .nil) .nil)
def f112_l0 : TB.S := .fori (.tp [7, 8]) (.e (.bin .Add (.slc (.var 3) (.yes (.var 5)) .no) (.slc (.var 3) .no (.yes (.var 5))))) f112_b0 [7, 8] true
def f112 : TB.Fn := ⟨2, 9, (.cons (.asgQ [2, 3, 4] [false, false, true] (.cons (.bin .Add (.cn (.int 1)) (.call 5 (.cons (.var 0) (.cons (.cn (.int 4)) .nil)))) (.cons (.call 111 (.cons (.var 1) .nil)) (.cons (.lst .nil) .nil)))) (.cons (.asgQ [5, 6] [false, true] (.cons (.call 5 (.cons (.var 0) (.cons (.bin .Add (.cn (.int 1)) (.bi .len (.cons (.var 3) .nil))) .nil))) (.cons .dnew .nil))) (.cons f112_l0 (.cons (.ret (.bi .tuple (.cons (.bi .sorted (.cons (.var 4) .nil)) .nil))) .nil))))⟩
section
variable {fs : Tbl} [Has fs 17 f17] [Has fs 111 f111] [Has fs 5 f5] [Has fs 112 f112] {n : Nat} {st : Sto}
theorem match_b0 {B : Bk} (hB : IsBk B) {a : Nat} (h : isPen st a = true) {m : Int} (hm : 0 < m) (hm2 : m ≤ 5) (Q : Pg) (hQ : Apart B Q) (p : Face × Face) (hp : p ∈ allP B) (P : Pen) (x1 x3 x5 : D) : ∃ (Q' : Pg) (P' : Pen), exs (callF fs GG (n + 2)) GG f112_b0 [some (.r a), some (.d x1), some (.d (.int m)), some (.d x3), some (.r st.length), some (.d x5), some (.r (st.length + 1)), some (.d (fc p.1)), some (.d (fc p.2))] (st.set a (penO P) ++ [Ob.lst (Q.map pr), Ob.dct (rows .bool (putAll [] (heldL Q)))]) =
    .ok (.nx [some (.r a), some (.d x1), some (.d (.int m)), some (.d x3), some (.r st.length), some (.d x5), some (.r (st.length + 1)), some (.d (fc p.1)), some (.d (fc p.2))]) (st.set a (penO P') ++ [Ob.lst (Q'.map pr), Ob.dct (rows .bool (putAll [] (heldL Q')))]) ∧ Apart B Q' := by
  have ha := pen_lt h
  have hg := allP_good hB.toIsCl hp
  have hf := hQ.few hB.toIsCl
  have pk : ∀ (s : Sto) (l : List D) (m : List (D × D)), s.length = st.length → peek (.r (st.length + 1)) (s ++ [Ob.lst l, Ob.dct m]) = some (.dict m) := fun s l m hs => by simp [peek, ← hs]
  have mem : ∀ f : Face, memD (fc f) (.dict (rows PyData.bool (putAll [] (heldL Q)))) = some (decide (f ∈ heldL Q)) := fun f => by rw [mem_rows, held_look]
  by_cases n1 : p.1 ∈ heldL Q
  · refine ⟨Q, P, ?_, hQ⟩
    simp [f112_b0, pk, mem, n1]
  · by_cases n2 : p.2 ∈ heldL Q
    · refine ⟨Q, P, ?_, hQ⟩
      simp [f112_b0, pk, mem, n1, n2]
    · have d := run_draw (fs := fs) (n := n + 1) (st := st.set a (penO P) ++ [Ob.lst (Q.map pr), Ob.dct (rows .bool (putAll [] (heldL Q)))]) (a := a) (m := m) (by simp [h]) hm (by omega)
      simp only [isPen_app, isPen_set, penAt_app, penAt_set, h, set_pen_app, List.set_set] at d
      by_cases z : drawV P m = 0
      · refine ⟨Q ++ [p], drawP P m, ?_, hQ.snoc hg n1 n2⟩
        have hl := putAll_len (heldL Q) []
        rw [held_len] at hl
        simp only [List.length_nil] at hl
        have hl0 : Q.length < LIM := by unfold LIM; omega
        have hl1 : (rows PyData.bool (putAll [] (heldL Q))).length < LIM := by
          rw [rows_len]
          unfold LIM
          omega
        have hl2 : (rows PyData.bool (alPut (putAll [] (heldL Q)) p.1 true)).length < LIM := by
          rw [rows_len]
          have := alPut_len (putAll [] (heldL Q)) p.1 true
          unfold LIM
          omega
        have p1 := put_rows PyData.bool (putAll [] (heldL Q)) p.1 true
        have p2 := put_rows PyData.bool (alPut (putAll [] (heldL Q)) p.1 true) p.2 true
        rw [← put_pair]
        simp [f112_b0, pk, mem, n1, n2, d, z, lstAt, atVar, change, appSlot, setSlot, keys_rows, hl0, hl1, hl2, p1, p2, pr_of]
      · refine ⟨Q, drawP P m, ?_, hQ⟩
        simp [f112_b0, pk, mem, n1, n2, d, z]
theorem run_matching {B : Bk} (hB : IsBk B) {a : Nat} (h : isPen st a = true) : ∃ (A : Pg) (P : Pen), IsPg B A ∧ callF fs GG (n + 3) 112 [.r a, .d (.tuple (B.map fc))] st = .ok (.d (.tuple (A.map pr))) (st.set a (penO P)) := by
  have ha := pen_lt h
  obtain ⟨P0, hP0⟩ : ∃ P, penAt st a = P := ⟨_, rfl⟩
  have d1 := run_draw (fs := fs) (n := n + 1) (st := st) (a := a) (m := 4) h (by decide) (by decide)
  rw [hP0] at d1
  have b4 := drawV_lt P0 (m := 4) (by decide)
  generalize hm : 1 + drawV P0 4 = m at *
  have r1 := fun s => run_lpairs (fs := fs) (n := n) (st := s) hB
  have hal := allP_len hB.face
  have h6 := hB.few
  have hsl := srtP_len (allP B)
  have hmem : ∀ p ∈ srtP (allP B), p ∈ allP B := fun p hp => mem_srtP.mp hp
  generalize srtP (allP B) = L at r1 hsl hmem
  have d2 := run_draw (fs := fs) (n := n + 1) (st := st.set a (penO (drawP P0 4)) ++ [Ob.lst []]) (a := a) (m := 1 + L.length) (by simp [h]) (by omega) (by omega)
  simp only [isPen_app, isPen_set, penAt_app, penAt_set, h, set_pen_app, List.set_set] at d2
  have bk := drawV_lt (drawP P0 4) (m := 1 + (L.length : Int)) (by omega)
  generalize hP1 : drawP (drawP P0 4) (1 + (L.length : Int)) = P1 at *
  obtain ⟨k, hk⟩ : ∃ k : Nat, drawV (drawP P0 4) (1 + (L.length : Int)) = (k : Int) := ⟨(drawV (drawP P0 4) (1 + (L.length : Int))).toNat, by omega⟩
  rw [hk] at d2
  have hlim : (L.length - k) + min k L.length ≤ LIM := by unfold LIM; omega
  have key : ∃ z : Pg × Pen, ex (callF fs GG (n + 2)) GG f112_l0 [some (.r a), some (.d (.tuple (B.map fc))), some (.d (.int m)), some (.d (.list (L.map pr))), some (.r st.length), some (.d (.int (k : Int))), some (.r (st.length + 1)), none, none] (st.set a (penO P1) ++ [Ob.lst [], Ob.dct []]) =
      .ok (.nx [some (.r a), some (.d (.tuple (B.map fc))), some (.d (.int m)), some (.d (.list (L.map pr))), some (.r st.length), some (.d (.int (k : Int))), some (.r (st.length + 1)), none, none]) (st.set a (penO z.2) ++ [Ob.lst (z.1.map pr), Ob.dct (rows .bool (putAll [] (heldL z.1)))]) ∧ Apart B z.1 := by
    have hI : evI (callF fs GG (n + 2)) GG (.e (.bin .Add (.slc (.var 3) (.yes (.var 5)) .no) (.slc (.var 3) .no (.yes (.var 5))))) [some (.r a), some (.d (.tuple (B.map fc))), some (.d (.int m)), some (.d (.list (L.map pr))), some (.r st.length), some (.d (.int (k : Int))), some (.r (st.length + 1)), none, none] (st.set a (penO P1) ++ [Ob.lst [], Ob.dct []]) = .ok ((L.drop k ++ L.take k).map pr) (st.set a (penO P1) ++ [Ob.lst [], Ob.dct []]) := by
      simp [hlim]
    simp only [f112_l0, ex_fori, hI, Res.bind_ok, forL_map]
    refine forL_ex (fun _ : Pg × Pen => [some (.r a), some (.d (.tuple (B.map fc))), some (.d (.int m)), some (.d (.list (L.map pr))), some (.r st.length), some (.d (.int (k : Int))), some (.r (st.length + 1)), none, none]) (fun z => st.set a (penO z.2) ++ [Ob.lst (z.1.map pr), Ob.dct (rows .bool (putAll [] (heldL z.1)))])
      (fun _ z => Apart B z.1) ([], P1) rfl rfl (Apart.nil B) ?_
    rintro d p ⟨Q, P⟩ ⟨r, hr⟩ hQ
    have hp : p ∈ allP B := by
      have : p ∈ L.drop k ++ L.take k := by rw [hr]; simp
      rcases List.mem_append.mp this with q | q
      · exact hmem p (List.mem_of_mem_drop q)
      · exact hmem p (List.mem_of_mem_take q)
    obtain ⟨Q', P', e, hQ'⟩ := match_b0 (fs := fs) (n := n) (st := st) hB h (m := m) (by omega) (by omega) Q hQ p hp P (.tuple (B.map fc)) (.list (L.map pr)) (.int (k : Int))
    refine ⟨(Q', P'), ?_, hQ'⟩
    simp [e, show a < st.length + 2 by omega]
  obtain ⟨z, key, hz⟩ := key
  refine ⟨srtP z.1, z.2, pg_of hz.pair hz.nd, ?_⟩
  have e1 : sortedD (z.1.map pr) = some (.list ((srtP z.1).map pr)) := sorted_pr (by have := hz.few hB.toIsCl; unfold LIM; omega)
  have hfl : freshE (.lst .nil) = true := rfl
  have hfd : freshE .dnew = true := rfl
  rw [callF_of rfl]
  simp [f112, startE, d1, hm, r1, hfl, hfd, newOb, d2, hk, key, peek, e1]
end
/-- number 114: law_held -/
def f114_c0 : TB.E := .lc (.bi .list (.cons (.var 1) .nil)) (.nm 1) (.e (.var 0)) [1] .no
def f114 : TB.Fn := ⟨1, 2, (.cons (.ret (.sum2 f114_c0)) .nil)⟩
section
variable {fs : Tbl} [Has fs 114 f114] {n : Nat} {st : Sto}
theorem run_lheld (A : Pg) (hA : A.length ≤ 1000) : callF fs GG (n + 1) 114 [.d (.tuple (A.map pr))] st = .ok (.d (.list ((heldL A).map fc))) st := by
  have hc : ev (callF fs GG n) GG f114_c0 [some (.d (.tuple (A.map pr))), none] st = .ok (.d (.list (A.map fun p => .list [fc p.1, fc p.2]))) st := by
    simp only [f114_c0, ev_lc, evI_e, ev_var, List.getElem?_cons_zero, Res.bind_ok, val_d, seq_t, ofO_some, compL_map]
    rw [compL_all (g := fun p => .list [fc p.1, fc p.2])]
    · rfl
    · intro p hp
      have : biD .list [pr p] = some (.list [fc p.1, fc p.2]) := rfl
      simp [this]
  have e : sum2D (.list (A.map fun p => .list [fc p.1, fc p.2])) = some (.list ((heldL A).map fc)) := by
    unfold sum2D
    simp only [lists_pr, Option.bind_some]
    rw [if_pos (by rw [List.length_map, held_len]; unfold LIM; omega)]
  rw [callF_of rfl]
  simp [f114, startE, hc, e]
end
/-- number 119: law_left -/
def f119_c0 : TB.E := .lc (.var 3) (.nm 3) (.e (.var 0)) [3] (.yes (.cmp .NotIn (.var 3) (.var 2)))
def f119 : TB.Fn := ⟨2, 4, (.cons (.asg 2 (.call 114 (.cons (.var 1) .nil)) false) (.cons (.ret f119_c0) .nil))⟩
section
variable {fs : Tbl} [Has fs 114 f114] [Has fs 119 f119] {n : Nat} {st : Sto}
theorem run_lleft (B : Bk) (A : Pg) (hA : A.length ≤ 1000) : callF fs GG (n + 2) 119 [.d (.tuple (B.map fc)), .d (.tuple (A.map pr))] st = .ok (.d (.list ((leftB B A).map fc))) st := by
  have r1 := run_lheld (fs := fs) (n := n) (st := st) A hA
  have key : ev (callF fs GG (n + 1)) GG f119_c0 [some (.d (.tuple (B.map fc))), some (.d (.tuple (A.map pr))), some (.d (.list ((heldL A).map fc))), none] st = .ok (.d (.list ((leftB B A).map fc))) st := by
    simp only [f119_c0, ev_lc, evI_e, ev_var, List.getElem?_cons_zero, Res.bind_ok, val_d, seq_t, ofO_some, compL_map]
    rw [compL_filt (p := fun f => !decide (f ∈ heldL A)) (g := fc)]
    · rfl
    · intro f hf
      by_cases q : f ∈ heldL A <;> simp [q]
  rw [callF_of rfl]
  simp [f119, startE, r1, key]
end
/-! calm ones -/
theorem tops_some {B : Bk} (h : IsBk B) : topsB B ≠ [] := by
  intro e
  have := closed_tops h
  rw [e] at this
  have h1 := h.one
  rw [← this, ← closed_len] at h1
  exact absurd h1 (by decide)
theorem less_cl {B : Bk} (h : IsCl B) {p : Face × Face} (hp : p ∈ freeB B) : IsCl (lessB B p) := by
  obtain ⟨h1, h2, h3, h4, h5⟩ := mem_freeB2 hp
  refine ⟨fun f hf => h.face f (mem_less.mp hf).1, Nat.le_trans (List.length_filter_le _ _) h.few, h.rise.sublist List.filter_sublist, fun f hf r hr => ?_⟩
  obtain ⟨q1, q2, q3⟩ := mem_less.mp hf
  refine mem_less.mpr ⟨h.whole f q1 r hr, fun e => ?_, fun e => ?_⟩
  · subst e
    exact q3 (h4 f q1 hr)
  · subst e
    exact h5 f q1 hr
/-- what is so at a round's begin: C is still there, Q is found -/
structure Calm (B C : Bk) (Q : Pg) : Prop where
  cl : IsCl C
  sub : ∀ f ∈ C, f ∈ B
  apart : Apart B Q
  off : ∀ f ∈ C, f ∉ heldL Q
  fol : Q.Pairwise fun a b => folB b a = false
  caps : ∀ p ∈ Q, ∀ f ∈ C, p.1 ∉ rims f
theorem Calm.pair {B C : Bk} {Q : Pg} (h : Calm B C Q) {p : Face × Face} (hp : p ∈ freeB C) : Calm B (lessB C p) (Q ++ [p]) := by
  obtain ⟨h1, h2, h3, h4, _⟩ := mem_freeB2 hp
  refine ⟨less_cl h.cl hp, fun f hf => h.sub f (mem_less.mp hf).1, h.apart.snoc ⟨h.cl.face _ h1, h.cl.face _ h2, h3, h.sub _ h2⟩ (h.off _ h1) (h.off _ h2), fun f hf => ?_,
    List.pairwise_append.mpr ⟨h.fol, List.pairwise_singleton .., fun a ha b hb => by rw [List.mem_singleton.mp hb]; exact fol_not (h.caps a ha _ h2)⟩, fun q hq f hf hr => by
      obtain ⟨q1, _, q3⟩ := mem_less.mp hf
      rcases List.mem_append.mp hq with hq | hq
      · exact h.caps q hq f q1 hr
      · rw [List.mem_singleton.mp hq] at hr
        exact q3 (h4 f q1 hr)⟩
  obtain ⟨q1, q2, q3⟩ := mem_less.mp hf
  have e : heldL (Q ++ [p]) = heldL Q ++ [p.1, p.2] := by unfold heldL; rw [List.flatMap_append]; rfl
  rw [e, List.mem_append]
  rintro (q | q)
  · exact h.off f q1 q
  · rcases List.mem_cons.mp q with q | q
    · exact q2 q
    · rw [List.mem_singleton] at q
      exact q3 q
theorem Calm.bare {B C : Bk} {Q : Pg} (h : Calm B C Q) {t : Face} (ht : t ∈ topsB C) : Calm B (C.filter fun f => !decide (f = t)) Q :=
  ⟨bare_cl h.cl ht, fun f hf => h.sub f (List.mem_filter.mp hf).1, h.apart, fun f hf => h.off f (List.mem_filter.mp hf).1, h.fol, fun p hp f hf => h.caps p hp f (List.mem_filter.mp hf).1⟩
/-- number 118: law_calm_one -/
def f118_c0 : TB.E := .lc (.var 9) (.nm 9) (.e (.var 2)) [9] (.yes (.cmp .NotIn (.var 9) (.var 7)))
def f118_c1 : TB.E := .lc (.var 9) (.nm 9) (.e (.var 2)) [9] (.yes (.cmp .Eq (.idx (.var 6) (.var 9)) (.lst .nil)))
def f118_b0 : TB.Ss := (.cons (.asgP [5, 6] (.cons (.call 117 (.cons (.var 2) .nil)) (.cons (.call 32 (.cons (.var 2) .nil)) .nil))) (.cons (.ife (.and (.cmp .NotEq (.var 5) (.lst .nil)) (.cmp .Lt (.call 5 (.cons (.var 0) (.cons (.var 4) .nil))) (.bin .Sub (.var 4) (.cn (.int 1))))) (.cons (.asg 7 (.idx (.var 5) (.call 5 (.cons (.var 0) (.cons (.bi .len (.cons (.var 5) .nil)) .nil)))) false) (.cons (.app 3 (.var 7)) .nil)) (.cons (.asg 8 f118_c1 false) (.cons (.asg 7 (.tup (.cons (.idx (.var 8) (.call 5 (.cons (.var 0) (.cons (.bi .len (.cons (.var 8) .nil)) .nil)))) .nil)) false) .nil))) (.cons (.asg 2 f118_c0 false) .nil)))
def f118_l0 : TB.S := .whil (.cmp .NotEq (.var 2) (.lst .nil)) f118_b0 [5, 6, 7, 8] true
def f118 : TB.Fn := ⟨2, 10, (.cons (.asgQ [2, 3, 4] [false, true, false] (.cons (.bi .list (.cons (.var 1) .nil)) (.cons (.lst .nil) (.cons (.bin .Add (.cn (.int 2)) (.call 5 (.cons (.var 0) (.cons (.cn (.int 8)) .nil)))) .nil)))) (.cons f118_l0 (.cons (.ret (.bi .tuple (.cons (.bi .sorted (.cons (.var 3) .nil)) .nil))) .nil)))⟩
section
variable {fs : Tbl} [Has fs 5 f5] [Has fs 17 f17] [Has fs 32 f32] [Has fs 117 f117] [Has fs 118 f118] {n : Nat} {st : Sto}
theorem calm_c0 (C : Bk) (g : D) (q : Face → Prop) [DecidablePred q] (hq : ∀ f ∈ C, memD (fc f) g = some (decide (q f))) (x0 x1 x3 x4 x5 x6 x8 : Option W) : ev (callF fs GG n) GG f118_c0 [x0, x1, some (.d (.list (C.map fc))), x3, x4, x5, x6, some (.d g), x8, none] st = .ok (.d (.list ((C.filter fun f => !decide (q f)).map fc))) st := by
  simp only [f118_c0, ev_lc, evI_e, ev_var, List.getElem?_cons_succ, List.getElem?_cons_zero, Res.bind_ok, val_d, seq_l, ofO_some, compL_map]
  rw [compL_filt (p := fun f => !decide (q f)) (g := fc)]
  · rfl
  · intro f hf
    have := hq f hf
    by_cases z : q f <;> simp [this, z]
theorem calm_c1 {C : Bk} (x0 x1 x3 x4 x5 x7 x8 : Option W) : ev (callF fs GG n) GG f118_c1 [x0, x1, some (.d (.list (C.map fc))), x3, x4, x5, some (.d (tree (capM C))), x7, x8, none] st = .ok (.d (.list ((topsB C).map fc))) st := by
  simp only [f118_c1, ev_lc, evI_e, ev_var, List.getElem?_cons_succ, List.getElem?_cons_zero, Res.bind_ok, val_d, seq_l, ofO_some, compL_map]
  rw [compL_filt (p := fun f => decide ((capM C).lookup f = some [])) (g := fc)]
  · rfl
  · intro f hf
    obtain ⟨L, hL⟩ := cap_look hf
    by_cases e : L = [] <;> simp [hL, tree, fl, e, eq_ll]
theorem calm_round {B C : Bk} {Q : Pg} (hB : IsCl B) (h : Calm B C Q) (hC : C ≠ []) {a : Nat} (ha : isPen st a = true) {m : Int} (hm : 0 < m) (hm2 : m ≤ 100) (P : Pen) (x1 : D) : ∃ (C' : Bk) (Q' : Pg) (P' : Pen), ((exs (callF fs GG (n + 4)) GG f118_b0 [some (.r a), some (.d x1), some (.d (.list (C.map fc))), some (.r st.length), some (.d (.int m)), none, none, none, none, none] (st.set a (penO P) ++ [Ob.lst (Q.map pr)])).bind fun f st2 => match f with
      | .nx σ2 => rest (st.length + 1) [5, 6, 7, 8] true σ2 st2
      | .rt w => .ok (.rt w) st2
      | .xc c as => .ok (.xc c as) st2) =
    .ok (.nx [some (.r a), some (.d x1), some (.d (.list (C'.map fc))), some (.r st.length), some (.d (.int m)), none, none, none, none, none]) (st.set a (penO P') ++ [Ob.lst (Q'.map pr)]) ∧ Calm B C' Q' ∧ C'.length < C.length := by
  have hl := pen_lt ha
  have r1 := fun s => run_lfreeC (fs := fs) (n := n + 1) (st := s) (seq_l (C.map fc)) h.cl
  have r2 := fun s => run_aboveC (fs := fs) (n := n + 2) (st := s) (seq_l (C.map fc)) h.cl
  have hQ := h.apart.few hB
  have hC6 := h.cl.few
  have bk : IsBk C := ⟨h.cl, List.length_pos_iff.mpr hC⟩
  have dr : ∀ (l : List D) (R : Pen) (k : Int), 0 < k → k < 1073741824 → callF fs GG (n + 4) 5 [.r a, .d (.int k)] (st.set a (penO R) ++ [Ob.lst l]) = .ok (.d (.int (drawV R k))) (st.set a (penO (drawP R k)) ++ [Ob.lst l]) := fun l R k h1 h2 => by
    have d := run_draw (fs := fs) (n := n + 3) (st := st.set a (penO R) ++ [Ob.lst l]) (a := a) (m := k) (by simp [ha]) h1 h2
    simpa only [isPen_app, isPen_set, penAt_app, penAt_set, ha, set_pen_app, List.set_set] using d
  have halt : a < st.length + 1 := by omega
  have hc1 := fun s (x0 x1 x3 x4 x5 x7 x8 : Option W) => calm_c1 (fs := fs) (n := n + 4) (st := s) (C := C) x0 x1 x3 x4 x5 x7 x8
  /- without a top -/
  have other : ∀ R : Pen, ∃ t, t ∈ topsB C ∧ ∃ k, placeOf (topsB C).length (drawV R (topsB C).length) = some k ∧ (topsB C)[k]? = some t := fun R => by
    obtain ⟨k, t, h1, h2, h3⟩ := draw_at (tops_some bk) R
    exact ⟨t, h1, k, h2, h3⟩
  have ht6 : (topsB C).length ≤ 60 := Nat.le_trans (List.length_filter_le _ _) hC6
  have ht1 : 0 < (topsB C).length := List.length_pos_iff.mpr (tops_some bk)
  have c0t := fun s t (x0 x1 x3 x4 x5 x6 x8 : Option W) => calm_c0 (fs := fs) (n := n + 4) (st := s) C (.tuple [fc t]) (fun f => f = t) (fun f hf => by
    have := mem_ft f [t]
    simpa using this) x0 x1 x3 x4 x5 x6 x8
  have lt_t : ∀ t ∈ topsB C, (C.filter fun f => !decide (f = t)).length < C.length := fun t ht => by
    rw [List.length_filter_lt_length_iff_exists]
    exact ⟨t, tops_sub ht, by simp⟩
  cases hF : freeB C with
  | nil =>
    obtain ⟨t, ht, k, k1, k2⟩ := other P
    refine ⟨C.filter fun f => !decide (f = t), Q, drawP P (topsB C).length, ?_, h.bare ht, lt_t t ht⟩
    have d1 := dr (Q.map pr) P (topsB C).length (by omega) (by omega)
    have ne0 : cmpD .NotEq (.list []) (.list []) = some false := ne_ll
    rw [hF] at r1
    simp [f118_b0, r1, r2, ne0, hc1, d1, k1, k2, c0t, halt]
  | cons p0 L0 =>
    have ne1 : cmpD .NotEq (.list ((p0 :: L0).map pr)) (.list []) = some true := by
      have := ne_pl0 (p0 :: L0)
      simpa using this
    have d0 := dr (Q.map pr) P m hm (by omega)
    rw [← hF] at ne1
    by_cases q : drawV P m < m - 1
    · obtain ⟨k, p, hp, k1, k2⟩ := draw_at (L := freeB C) (by rw [hF]; simp) (drawP P m)
      have hf6 := free_len C
      have hf1 : 0 < (freeB C).length := by rw [hF]; simp
      have d1 := dr (Q.map pr) (drawP P m) (freeB C).length (by omega) (by omega)
      refine ⟨lessB C p, Q ++ [p], drawP (drawP P m) (freeB C).length, ?_, h.pair hp, less_len hp⟩
      have hlim : Q.length < LIM := by unfold LIM; omega
      have c0p := fun s (x0 x1 x3 x4 x5 x6 x8 : Option W) => calm_c0 (fs := fs) (n := n + 4) (st := s) C (pr p) (fun f => f = p.1 ∨ f = p.2) (fun f hf => mem_fpr f p) x0 x1 x3 x4 x5 x6 x8
      have el : (C.filter fun f => !decide (f = p.1 ∨ f = p.2)) = lessB C p := rfl
      simp only [el] at c0p
      simp [f118_b0, r1, r2, ne1, d0, q, d1, k1, k2, c0p, lstAt, atVar, change, appSlot, hlim, halt]
    · obtain ⟨t, ht, k, k1, k2⟩ := other (drawP P m)
      refine ⟨C.filter fun f => !decide (f = t), Q, drawP (drawP P m) (topsB C).length, ?_, h.bare ht, lt_t t ht⟩
      have d1 := dr (Q.map pr) (drawP P m) (topsB C).length (by omega) (by omega)
      simp [f118_b0, r1, r2, ne1, d0, q, hc1, d1, k1, k2, c0t, halt]
theorem run_calmOneN {B : Bk} (hB : IsBk B) {a : Nat} (h : isPen st a = true) : ∃ (A : Pg) (P : Pen), IsPg B A ∧ NoRound folB A ∧ callF fs GG (n + 5) 118 [.r a, .d (.tuple (B.map fc))] st = .ok (.d (.tuple (A.map pr))) (st.set a (penO P)) := by
  have ha := pen_lt h
  obtain ⟨P0, hP0⟩ : ∃ P, penAt st a = P := ⟨_, rfl⟩
  have d1 := run_draw (fs := fs) (n := n + 3) (st := st ++ [Ob.lst []]) (a := a) (m := 8) (isPen_app h) (by decide) (by decide)
  rw [penAt_app h, hP0, set_pen_app h] at d1
  have b8 := drawV_lt P0 (m := 8) (by decide)
  generalize hm : 2 + drawV P0 8 = m at *
  have key : ∃ z : Bk × Pg × Pen, ex (callF fs GG (n + 4)) GG f118_l0 [some (.r a), some (.d (.tuple (B.map fc))), some (.d (.list (B.map fc))), some (.r st.length), some (.d (.int m)), none, none, none, none, none] (st.set a (penO (drawP P0 8)) ++ [Ob.lst []]) =
      .ok (.nx [some (.r a), some (.d (.tuple (B.map fc))), some (.d (.list (z.1.map fc))), some (.r st.length), some (.d (.int m)), none, none, none, none, none]) (st.set a (penO z.2.2) ++ [Ob.lst (z.2.1.map pr)]) ∧ Calm B z.1 z.2.1 := by
    rw [f118_l0, ex_whil]
    refine whileL_go (fun z : Bk × Pg × Pen => [some (.r a), some (.d (.tuple (B.map fc))), some (.d (.list (z.1.map fc))), some (.r st.length), some (.d (.int m)), none, none, none, none, none]) (fun z => st.set a (penO z.2.2) ++ [Ob.lst (z.2.1.map pr)]) (fun z => Calm B z.1 z.2.1) (fun z => Calm B z.1 z.2.1) (fun z => z.1.length) (fun z hz => ?_) FUEL (B, [], drawP P0 8) ⟨hB.toIsCl, fun f hf => hf, Apart.nil B, fun f hf => by simp [heldL], List.Pairwise.nil, fun p hp => (by cases hp)⟩ (by have := hB.few; unfold FUEL; simp only; omega)
    obtain ⟨C, Q, P⟩ := z
    simp only at hz
    by_cases e : C = []
    · subst e
      refine ⟨false, ?_, fun z => (by cases z), fun _ => hz⟩
      simp [evT, ne_ll]
    · refine ⟨true, ?_, fun _ => ?_, fun z => (by cases z)⟩
      · simp [evT, e]
      · obtain ⟨C', Q', P', e1, e2, e3⟩ := calm_round (fs := fs) (n := n) (st := st) hB.toIsCl hz e h (m := m) (by omega) (by omega) P (.tuple (B.map fc))
        refine ⟨(C', Q', P'), ?_, e2, e3⟩
        have el : (st.set a (penO (drawP P0 8)) ++ [Ob.lst []]).length = st.length + 1 := by simp
        simp only [el]
        exact e1
  obtain ⟨z, key, hz⟩ := key
  refine ⟨srtP z.2.1, z.2.2, pg_of hz.apart.pair hz.apart.nd, (noRound_of fol_irr hz.fol).sub fun p hp => mem_srtP.mp hp, ?_⟩
  have e1 : sortedD (z.2.1.map pr) = some (.list ((srtP z.2.1).map pr)) := sorted_pr (by have := hz.apart.few hB.toIsCl; unfold LIM; omega)
  have hfl : freshE (.lst .nil) = true := rfl
  rw [callF_of rfl]
  simp [f118, startE, hfl, newOb, d1, hm, key, peek, e1]
theorem run_calmOne {B : Bk} (hB : IsBk B) {a : Nat} (h : isPen st a = true) : ∃ (A : Pg) (P : Pen), IsPg B A ∧ callF fs GG (n + 5) 118 [.r a, .d (.tuple (B.map fc))] st = .ok (.d (.tuple (A.map pr))) (st.set a (penO P)) := by
  obtain ⟨A, P, h1, _, h2⟩ := run_calmOneN (fs := fs) (n := n) hB h
  exact ⟨A, P, h1, h2⟩
end
end TB
set_option maxRecDepth 100000
set_option maxHeartbeats 2000000
namespace TB
open PySem PySem.W
/-! LOdd: what is no face, no pair, as laws ask it. -/
theorem whole_ints : ∀ {xs : List D}, xs.all wholeB = true → ∃ f : List Int, xs = f.map .int
  | [], _ => ⟨[], rfl⟩
  | x :: xs, h => by
    rw [List.all_cons, Bool.and_eq_true] at h
    obtain ⟨f, rfl⟩ := whole_ints h.2
    obtain ⟨i, rfl⟩ := wholeB_of h.1
    exact ⟨i :: f, rfl⟩
theorem whole_map (f : List Int) : (f.map PyData.int).all wholeB = true := by
  rw [List.all_map, List.all_eq_true]
  intro i _
  rfl
/-- number 8: law_whole -/
def f8 : TB.Fn := ⟨1, 1, (.cons (.ret (.and (.isin (.var 0) .int) (.not (.isin (.var 0) .bool)))) .nil)⟩
section
variable {fs : Tbl} [Has fs 8 f8] {n : Nat} {st : Sto}
theorem run_lwhole (d : D) : callF fs GG (n + 1) 8 [.d d] st = .ok (.d (.bool (wholeB d))) st := by
  rw [callF_of rfl]
  cases h1 : isTy .int d <;> simp [f8, startE, h1, wholeB]
end
/-- number 9: law_is_face -/
def f9_c0 : TB.E := .lc (.cmp .Lt (.idx (.var 0) (.var 1)) (.idx (.var 0) (.bin .Add (.var 1) (.cn (.int 1))))) (.nm 1) (.r1 (.bin .Sub (.bi .len (.cons (.var 0) .nil)) (.cn (.int 1)))) [1] .no
def f9_a0 : TB.E := .bi .all (.cons f9_c0 .nil)
def f9_c1 : TB.E := .lc (.call 8 (.cons (.var 2) .nil)) (.nm 2) (.e (.var 0)) [2] .no
def f9_a1 : TB.E := .bi .all (.cons f9_c1 .nil)
def f9 : TB.Fn := ⟨1, 3, (.cons (.ife (.or (.not (.isin (.var 0) .tuple)) (.or (.not (.chain .LtE .LtE (.cn (.int 1)) (.bi .len (.cons (.var 0) .nil)) (.cn (.int 5)))) (.not f9_a1))) (.cons (.ret (.cn (.bool false))) .nil) .nil) (.cons (.ife (.or (.cmp .Lt (.idx (.var 0) (.cn (.int 0))) (.cn (.int 0))) (.cmp .Gt (.idx (.var 0) (.neg (.cn (.int 1)))) (.cn (.int 9)))) (.cons (.ret (.cn (.bool false))) .nil) .nil) (.cons (.ret f9_a0) .nil)))⟩
section
variable {fs : Tbl} [Has fs 8 f8] [Has fs 9 f9] {n : Nat} {st : Sto}
theorem run_lface (d : D) : callF fs GG (n + 2) 9 [.d d] st = .ok (.d (.bool (faceB d))) st := by
  rw [callF_of rfl]
  cases ht : isTy .tuple d with
  | false =>
    have hf : faceB d = false := by cases d <;> first | rfl | cases ht
    simp [f9, startE, ht, hf]
  | true =>
    obtain ⟨xs, rfl⟩ : ∃ xs, d = .tuple xs := by cases d <;> first | exact ⟨_, rfl⟩ | cases ht
    by_cases l1 : 1 ≤ xs.length
    · by_cases l2 : xs.length ≤ 5
      · have l1' : (1 : Int) ≤ xs.length := by omega
        have l2' : (xs.length : Int) ≤ 5 := by omega
        have hc : ev (callF fs GG (n + 1)) GG f9_a1 [some (.d (.tuple xs)), none, none] st = .ok (.d (.bool (xs.all wholeB))) st := by
          simp [f9_a1, f9_c1, run_lwhole]
        cases ha : xs.all wholeB with
        | false =>
          have hf : faceB (.tuple xs) = false := faceB_no fun f e => by
            subst e
            rw [whole_map] at ha
            cases ha
          rw [ha] at hc
          simp [f9, startE, hc, l1', l2', hf]
        | true =>
          obtain ⟨f, rfl⟩ := whole_ints ha
          rw [ha] at hc
          have hf : faceB (.tuple (f.map .int)) = isF f := by rw [fc_tup, faceB_fc]
          rw [List.length_map] at l1 l2 l1' l2'
          have s0 : ∀ k : Int, 0 ≤ k → k ≤ 9 → smallB k = true := fun k h1 h2 => by simp [smallB]; omega
          match f, l1, l2 with
          | [a], _, _ =>
            rw [hf]
            simp only [List.map_cons, List.map_nil] at hc ⊢
            by_cases q1 : a < 0
            · simp [f9, startE, hc, placeOf, isF, q1]
              try (intros; exfalso; omega)
            · by_cases q2 : 9 < a
              · simp [f9, startE, hc, placeOf, isF, q1, q2]
                try (intros; exfalso; omega)
              · simp [f9, f9_a0, f9_c0, startE, hc, placeOf, isF, adj, ltI, s0, List.range_succ, compL, biD, boolsD, getD, binD, addD, cmpD, ltD, leD, intD, q1, q2]
                try (rw [Bool.eq_iff_iff]; simp)
                try omega
          | [a, b], _, _ =>
            rw [hf]
            simp only [List.map_cons, List.map_nil] at hc ⊢
            by_cases q1 : a < 0
            · simp [f9, startE, hc, placeOf, isF, q1]
              try (intros; exfalso; omega)
            · by_cases q2 : 9 < b
              · simp [f9, startE, hc, placeOf, isF, q1, q2]
                try (intros; exfalso; omega)
              · simp [f9, f9_a0, f9_c0, startE, hc, placeOf, isF, adj, ltI, s0, List.range_succ, compL, biD, boolsD, getD, binD, addD, cmpD, ltD, leD, intD, q1, q2]
                try (rw [Bool.eq_iff_iff]; simp)
                try omega
          | [a, b, c], _, _ =>
            rw [hf]
            simp only [List.map_cons, List.map_nil] at hc ⊢
            by_cases q1 : a < 0
            · simp [f9, startE, hc, placeOf, isF, q1]
              try (intros; exfalso; omega)
            · by_cases q2 : 9 < c
              · simp [f9, startE, hc, placeOf, isF, q1, q2]
                try (intros; exfalso; omega)
              · simp [f9, f9_a0, f9_c0, startE, hc, placeOf, isF, adj, ltI, s0, List.range_succ, compL, biD, boolsD, getD, binD, addD, cmpD, ltD, leD, intD, q1, q2]
                try (rw [Bool.eq_iff_iff]; simp)
                try omega
          | [a, b, c, d], _, _ =>
            rw [hf]
            simp only [List.map_cons, List.map_nil] at hc ⊢
            by_cases q1 : a < 0
            · simp [f9, startE, hc, placeOf, isF, q1]
              try (intros; exfalso; omega)
            · by_cases q2 : 9 < d
              · simp [f9, startE, hc, placeOf, isF, q1, q2]
                try (intros; exfalso; omega)
              · simp [f9, f9_a0, f9_c0, startE, hc, placeOf, isF, adj, ltI, s0, List.range_succ, compL, biD, boolsD, getD, binD, addD, cmpD, ltD, leD, intD, q1, q2]
                try (rw [Bool.eq_iff_iff]; simp)
                try omega
          | [a, b, c, d, e], _, _ =>
            rw [hf]
            simp only [List.map_cons, List.map_nil] at hc ⊢
            by_cases q1 : a < 0
            · simp [f9, startE, hc, placeOf, isF, q1]
              try (intros; exfalso; omega)
            · by_cases q2 : 9 < e
              · simp [f9, startE, hc, placeOf, isF, q1, q2]
                try (intros; exfalso; omega)
              · simp [f9, f9_a0, f9_c0, startE, hc, placeOf, isF, adj, ltI, s0, List.range_succ, compL, biD, boolsD, getD, binD, addD, cmpD, ltD, leD, intD, q1, q2]
                try (rw [Bool.eq_iff_iff]; simp)
                try omega
      · have hf : faceB (.tuple xs) = false := faceB_no fun f e => by
          subst e
          rw [List.length_map] at l2
          simp [isF, l2]
        have l2' : ¬ (xs.length : Int) ≤ 5 := by omega
        simp [f9, startE, l2', hf]
    · have hf : faceB (.tuple xs) = false := faceB_no fun f e => by
        subst e
        rw [List.length_map] at l1
        simp [isF, l1]
      have l1' : ¬ (1 : Int) ≤ xs.length := by omega
      simp [f9, startE, l1', hf]
end
/-- number 113: law_is_pair -/
def f113_c0 : TB.E := .lc (.call 9 (.cons (.var 2) .nil)) (.nm 2) (.e (.var 1)) [2] .no
def f113_a0 : TB.E := .bi .all (.cons f113_c0 .nil)
def f113 : TB.Fn := ⟨2, 3, (.cons (.ife (.or (.not (.isin (.var 1) .tuple)) (.or (.cmp .NotEq (.bi .len (.cons (.var 1) .nil)) (.cn (.int 2))) (.not f113_a0))) (.cons (.ret (.cn (.bool false))) .nil) .nil) (.cons (.ret (.and (.cmp .In (.idx (.var 1) (.cn (.int 1))) (.var 0)) (.cmp .In (.idx (.var 1) (.cn (.int 0))) (.call 17 (.cons (.idx (.var 1) (.cn (.int 1))) .nil))))) .nil))⟩
section
variable {fs : Tbl} [Has fs 17 f17] [Has fs 8 f8] [Has fs 9 f9] [Has fs 113 f113] {n : Nat} {st : Sto}
theorem run_lispair (B : Bk) (d : D) : callF fs GG (n + 3) 113 [.d (.tuple (B.map fc)), .d d] st = .ok (.d (.bool (pairB B d))) st := by
  rw [callF_of rfl]
  cases ht : isTy .tuple d with
  | false =>
    have hf : pairB B d = false := by cases d <;> first | rfl | cases ht
    simp [f113, startE, ht, hf]
  | true =>
    obtain ⟨xs, rfl⟩ : ∃ xs, d = .tuple xs := by cases d <;> first | exact ⟨_, rfl⟩ | cases ht
    by_cases l2 : xs.length = 2
    · have hc : ev (callF fs GG (n + 2)) GG f113_a0 [some (.d (.tuple (B.map fc))), some (.d (.tuple xs)), none] st = .ok (.d (.bool (xs.all faceB))) st := by
        simp [f113_a0, f113_c0, run_lface]
      obtain ⟨a, b, rfl⟩ : ∃ a b, xs = [a, b] := by
        match xs, l2 with
        | [a, b], _ => exact ⟨a, b, rfl⟩
      cases ha : faceOf a with
      | none =>
        have hf : pairB B (.tuple [a, b]) = false := by simp [pairB, prOf, ha]
        have hx : ([a, b].all faceB) = false := by simp [faceB, ha]
        rw [hx] at hc
        simp [f113, startE, hc, hf]
      | some f =>
        cases hb : faceOf b with
        | none =>
          have hf : pairB B (.tuple [a, b]) = false := by simp [pairB, prOf, ha, hb]
          have hx : ([a, b].all faceB) = false := by simp [faceB, hb]
          rw [hx] at hc
          simp [f113, startE, hc, hf]
        | some g =>
          have hx : ([a, b].all faceB) = true := by simp [faceB, ha, hb]
          rw [hx] at hc
          obtain ⟨rfl, h1⟩ := faceOf_some.mp ha
          obtain ⟨rfl, h2⟩ := faceOf_some.mp hb
          have hp := pairB_pr (B := B) (p := (f, g)) h1 h2
          rw [pr_of] at hc ⊢
          rw [hp]
          have hr := fun s => run_lrims (fs := fs) (n := n + 1) (st := s) g (by have := (isF_len h2).2; omega)
          by_cases q2 : g ∈ B
          · by_cases q1 : f ∈ rims g <;> simp [f113, startE, hc, hr, q1, q2]
          · simp [f113, startE, hc, hr, q2]
    · have hf : pairB B (.tuple xs) = false := by
        unfold pairB
        cases e : prOf B (.tuple xs) with
        | none => rfl
        | some p =>
          obtain ⟨e1, _⟩ := prOf_some.mp e
          have : xs = [fc p.1, fc p.2] := by injection e1
          rw [this] at l2
          exact absurd rfl l2
      have l2' : ¬ (xs.length : Int) = 2 := by omega
      simp [f113, startE, l2', hf]
end
/-- a free pair, be it what it may -/
def freeQ (B : Bk) (d : D) : Option (Face × Face) := (prOf B d).bind fun p => if p ∈ freeB B then some p else none
theorem freeQ_some {B : Bk} (h : IsCl B) {d : D} {p : Face × Face} : freeQ B d = some p ↔ d = pr p ∧ p ∈ freeB B := by
  unfold freeQ
  rw [Option.bind_eq_some_iff]
  constructor
  · rintro ⟨q, h1, h2⟩
    split at h2
    · rename_i h3
      cases h2
      exact ⟨(prOf_some.mp h1).1, h3⟩
    · cases h2
  · rintro ⟨rfl, h2⟩
    obtain ⟨h3, h4, h5⟩ := mem_freeB h2
    exact ⟨p, prOf_some.mpr ⟨rfl, h.face _ h3, h.face _ h4, h5, h4⟩, if_pos h2⟩
theorem freeQ_pr {B : Bk} {d : D} {p : Face × Face} (h : prOf B d = some p) : (freeQ B d).isSome = decide (p ∈ freeB B) := by
  unfold freeQ
  rw [h, Option.bind_some]
  by_cases q : p ∈ freeB B <;> simp [q]
theorem freeQ_no {B : Bk} {d : D} (h : prOf B d = none) : freeQ B d = none := by
  unfold freeQ
  rw [h]
  rfl
end TB
set_option maxRecDepth 100000
set_option maxHeartbeats 2000000
namespace TB
open PySem PySem.W
/-! LTold: what lambdas say. -/
@[simp] theorem finish_xc (n c : Nat) (as : List D) (st : Sto) : finish n (.xc c as) st = .exc c as (st.take n) := rfl
/-- laid out plainly, not deep -/
structure Shp (x : D) (k : Nat) : Prop where
  lay : x.canLay0 = true
  dep : x.depth ≤ k
theorem Shp.enc {α : Type} {e : α → D} {k : Nat} [Enc e k] (a : α) : Shp (e a) k := ⟨Enc.lay (e := e) a, Enc.dep (e := e) a⟩
theorem Shp.bk (L : Bk) : Shp (.tuple (L.map fc)) 2 := ⟨(encT (e := fc)).lay L, (encT (e := fc)).dep L⟩
theorem Shp.pg (L : Pg) : Shp (.tuple (L.map pr)) 3 := ⟨(encT (e := pr)).lay L, (encT (e := pr)).dep L⟩
theorem Shp.t2 {x y : D} {j k m : Nat} (h : Shp x j) (g : Shp y k) (hj : j < m := by decide) (hk : k < m := by decide) : Shp (.tuple [x, y]) m where
  lay := by simp only [PyData.canLay0, PyData.canLayAll0, h.lay, g.lay, Bool.and_self]
  dep := by
    have := h.dep
    have := g.dep
    simp only [PyData.depth, PyData.depthAll]
    omega
theorem Shp.t1 {x : D} {j m : Nat} (h : Shp x j) (hj : j < m := by decide) : Shp (.tuple [x]) m where
  lay := by simp only [PyData.canLay0, PyData.canLayAll0, h.lay, Bool.and_self]
  dep := by
    have := h.dep
    simp only [PyData.depth, PyData.depthAll]
    omega
theorem Shp.word {x : Str} (h : PyData.strOk x = true) : Shp (.str x) 0 := ⟨by simp only [PyData.canLay0, h], by simp only [PyData.depth]; omega⟩
theorem Shp.told {x : D} {k m : Nat} (h : Shp x k) (hk : k < m := by decide) : Shp (.tuple [.str "told", x]) m where
  lay := by
    have hs : PyData.strOk (Str.ofString "told") = true := by decide +kernel
    simp only [PyData.canLay0, PyData.canLayAll0, h.lay, hs, Bool.and_self]
  dep := by
    have := h.dep
    simp only [PyData.depth, PyData.depthAll]
    omega
theorem ne_self {x : D} {k : Nat} (h : Shp x k) (hk : k ≤ 64 := by decide) : cmpD .NotEq x x = some false := by
  have hs : shapedB x = true := by
    unfold shapedB SeqAt.shaped
    rw [h.lay, Bool.true_and, decide_eq_true_eq]
    exact Nat.le_trans h.dep hk
  have he : PyData.eqv x x = true := SeqAt.eqv_refl x h.lay
  unfold cmpD
  simp only [hs, Bool.and_self, if_true, he, Bool.not_true]
section
variable {fs : Tbl} [Has fs 2 f2] [Has fs 0 f0] [Has fs 1 f1] [Has fs 3 f3] [Has fs 13 f13] [Has fs 14 f14] [Has fs 24 f24] {n : Nat} {st : Sto}
theorem run_needBX {B : Bk} (h : IsBk B) : callF fs GG (n + 5) 24 [.d (.tuple (B.map fc))] st = .ok (.d .none) st := by
  rw [callF_of rfl]
  simp [f24, startE, run_block, blockB_of h]
end
end TB
set_option maxRecDepth 100000
set_option maxHeartbeats 2000000
namespace TB
open PySem PySem.W
/-! LSign: signs of rims. -/
theorem rims_isF {f : Face} (h : isF f = true) {r : Face} (hr : r ∈ rims f) : isF r = true := by
  obtain ⟨h1, h2⟩ := isF_len h
  unfold rims at hr
  split at hr
  · cases hr
  · rename_i n1
    obtain ⟨k, hk, rfl⟩ := List.mem_map.mp hr
    have hk := List.mem_range.mp hk
    have hs : (f.take k ++ f.drop (k + 1)).Sublist f := by
      have a : f = f.take k ++ f.drop k := (List.take_append_drop k f).symm
      have b : (f.drop (k + 1)).Sublist (f.drop k) := by
        rw [← List.drop_drop]
        exact List.drop_sublist ..
      exact (List.Sublist.append (List.Sublist.refl _) b).trans (by rw [List.take_append_drop]; exact List.Sublist.refl _)
    refine isF_sub h hs fun e => ?_
    have := congrArg List.length e
    simp only [List.length_append, List.length_take, List.length_drop, List.length_nil] at this
    omega
theorem bind_go {α β : Type} {r : Res α} {f : α → Sto → Res β} {a : α} {s : Sto} {X : Res β} (h : r = .ok a s) (g : f a s = X) : r.bind f = X := by
  rw [h, Res.bind_ok]
  exact g
theorem rims_few {f : Face} (h : isF f = true) : (rims f).length ≤ 5 := by
  obtain ⟨h1, h2⟩ := isF_len h
  unfold rims
  split <;> simp <;> omega
/-- the first place of a thing -/
def ixOf {α : Type} [DecidableEq α] (a : α) : List α → Nat
  | [] => 0
  | x :: L => if x = a then 0 else ixOf a L + 1
theorem ixOf_lt {α : Type} [DecidableEq α] {a : α} : ∀ {L : List α}, a ∈ L → ixOf a L < L.length
  | [], h => by cases h
  | x :: L, h => by
    unfold ixOf
    split
    · simp
    · rename_i n
      have := ixOf_lt ((List.mem_cons.mp h).resolve_left fun z => n z.symm)
      simp only [List.length_cons]
      omega
/-- by turns 1 and -1 at the places of a row -/
def turnI (k : Nat) : Int := 1 - 2 * ((k : Int) % 2)
theorem turnI_cases (k : Nat) : turnI k = 1 ∨ turnI k = -1 := by
  unfold turnI
  omega
def sgn (f g : Face) : Int := if g ∈ rims f then turnI (ixOf g (rims f)) else 0
theorem sgn_cases (f g : Face) : sgn f g = 1 ∨ sgn f g = -1 ∨ sgn f g = 0 := by
  unfold sgn
  split
  · rcases turnI_cases (ixOf g (rims f)) with h | h
    · exact .inl h
    · exact .inr (.inl h)
  · exact .inr (.inr rfl)
/-- a walk that ends where a thing is met -/
theorem forL_meet {α : Type} [DecidableEq α] {step : α × Nat → Ev → Sto → Res Fl} (a : α) (w : Nat → W) {σ : Ev} {st : Sto} : ∀ (L : List α) (k : Nat), (∀ x i, (x, i) ∈ L.zipIdx k → step (x, i) σ st = if x = a then .ok (.rt (w i)) st else .ok (.nx σ) st) →
    (a ∈ L → forL step (L.zipIdx k) σ st = .ok (.rt (w (k + ixOf a L))) st) ∧ (a ∉ L → forL step (L.zipIdx k) σ st = .ok (.nx σ) st)
  | [], k, _ => ⟨fun h => absurd h (by simp), fun _ => rfl⟩
  | x :: L, k, h => by
    rw [List.zipIdx_cons, forL, h x k (by simp)]
    by_cases e : x = a
    · subst e
      simp [ixOf]
    · rw [if_neg e, Res.bind_ok]
      simp only
      obtain ⟨h1, h2⟩ := forL_meet a w L (k + 1) fun y i hy => h y i (by rw [List.zipIdx_cons]; exact List.mem_cons_of_mem _ hy)
      have e2 : ixOf a (x :: L) = ixOf a L + 1 := if_neg e
      rw [e2]
      refine ⟨fun m => ?_, fun m => h2 fun q => m (List.mem_cons_of_mem _ q)⟩
      rw [h1 ((List.mem_cons.mp m).resolve_left fun z => e z.symm), Nat.add_assoc, Nat.add_comm 1]
/-- number 56: sign_of -/
def f56_b0 : TB.Ss := (.cons (.ife (.cmp .Eq (.var 3) (.var 1)) (.cons (.ret (.bin .Sub (.cn (.int 1)) (.bin .Mult (.cn (.int 2)) (.bin .Mod (.var 2) (.cn (.int 2)))))) .nil) .nil) .nil)
def f56_l0 : TB.S := .fori (.tp [2, 3]) (.en (.call 13 (.cons (.var 0) .nil))) f56_b0 [2, 3] true
def f56 : TB.Fn := ⟨2, 4, (.cons f56_l0 (.cons (.ret (.cn (.int 0))) .nil))⟩
section
variable {fs : Tbl} [Has fs 13 f13] [Has fs 56 f56] {n : Nat} {st : Sto}
theorem run_sgn (f g : Face) (hf : f.length ≤ 1000) : callF fs GG (n + 2) 56 [.d (fc f), .d (fc g)] st = .ok (.d (.int (sgn f g))) st := by
  rw [callF_of rfl]
  have hr := run_rims (fs := fs) (n := n) (st := st) f hf
  have hl : (g ∈ rims f → ex (callF fs GG (n + 1)) GG f56_l0 [some (.d (fc f)), some (.d (fc g)), none, none] st = .ok (.rt (.d (.int (turnI (0 + ixOf g (rims f)))))) st) ∧ (g ∉ rims f → ex (callF fs GG (n + 1)) GG f56_l0 [some (.d (fc f)), some (.d (fc g)), none, none] st = .ok (.nx [some (.d (fc f)), some (.d (fc g)), none, none]) st) := by
    rw [f56_l0, ex_fori]
    have e0 : evI (callF fs GG (n + 1)) GG (.en (.call 13 (.cons (.var 0) .nil))) [some (.d (fc f)), some (.d (fc g)), none, none] st = .ok (((rims f).zipIdx 0).map fun p => .tuple [.int p.2, fc p.1]) st := by
      simp [hr, listD]
    rw [e0, Res.bind_ok, forL_map]
    refine forL_meet g (fun i => .d (.int (turnI i))) (rims f) 0 fun x i _ => ?_
    have m1 : mulOk 2 ((i : Int) % 2) = true := by simp [mulOk]
    by_cases e : x = g
    · simp [f56_b0, e, m1, turnI]
    · simp [f56_b0, e]
  by_cases m : g ∈ rims f
  · have hl := hl.1 m
    rw [Nat.zero_add] at hl
    simp [f56, startE, hl, sgn, m]
  · have hl := hl.2 m
    simp [f56, startE, hl, sgn, m]
end
/-- number 162: sign -/
def f162 : TB.Fn := ⟨2, 2, (.cons (.ife (.or (.not (.call 3 (.cons (.var 0) .nil))) (.not (.call 3 (.cons (.var 1) .nil)))) (.cons (.rais 0 .nil) .nil) .nil) (.cons (.ret (.call 56 (.cons (.var 0) (.cons (.var 1) .nil)))) .nil))⟩
section
variable {fs : Tbl} [Has fs 13 f13] [Has fs 56 f56] [Has fs 2 f2] [Has fs 0 f0] [Has fs 1 f1] [Has fs 3 f3] [Has fs 162 f162] {n : Nat} {st : Sto}
theorem run_sign {f g : Face} (hf : isF f = true) (hg : isF g = true) : callF fs GG (n + 4) 162 [.d (fc f), .d (fc g)] st = .ok (.d (.int (sgn f g))) st := by
  rw [callF_of rfl]
  have r1 := fun s => run_sgn (fs := fs) (n := n + 1) (st := s) f g (by have := (isF_len hf).2; omega)
  simp [f162, startE, run_face, faceB_fc, hf, hg, r1]
theorem run_sign_x {a b : D} (h : faceB a = false ∨ faceB b = false) : callF fs GG (n + 4) 162 [.d a, .d b] st = .exc 0 [] st := by
  rw [callF_of rfl]
  cases ha : faceB a with
  | false => simp [f162, startE, run_face, ha]
  | true =>
    rw [ha] at h
    have hb : faceB b = false := h.resolve_left (by decide)
    simp [f162, startE, run_face, ha, hb]
end
/-- number 163: law_sign -/
def f163 : TB.Fn := ⟨2, 3, (.cons (.asg 2 (.call 17 (.cons (.var 0) .nil)) false) (.cons (.ret (.ite (.cmp .In (.var 1) (.var 2)) (.idx (.lst (.cons (.cn (.int 1)) (.cons (.neg (.cn (.int 1))) (.cons (.cn (.int 1)) (.cons (.neg (.cn (.int 1))) (.cons (.cn (.int 1)) .nil)))))) (.me .index (.var 2) (.cons (.var 1) .nil))) (.cn (.int 0)))) .nil))⟩
section
variable {fs : Tbl} [Has fs 17 f17] [Has fs 163 f163] {n : Nat} {st : Sto}
theorem idx_find {α : Type} [DecidableEq α] (a : α) : ∀ L : List α, a ∈ L → L.findIdx? (fun y => decide (y = a)) = some (ixOf a L)
  | [], h => by cases h
  | x :: L, h => by
    rw [List.findIdx?_cons]
    by_cases e : x = a
    · simp [e, ixOf]
    · have e2 : ixOf a (x :: L) = ixOf a L + 1 := if_neg e
      rw [e2, decide_eq_false e, idx_find a L ((List.mem_cons.mp h).resolve_left fun z => e z.symm)]
      simp
theorem me_idx {a : Face} {L : Bk} (h : a ∈ L) : meD .index (.list (L.map fc)) [fc a] = some (.int (ixOf a L : Nat)) := by
  have e : meD .index (.list (L.map fc)) [fc a] = if shapedB (.list (L.map fc)) && shapedB (fc a) then ((L.map fc).findIdx? fun y => PyData.eqv y (fc a)).map fun n => .int (n : Nat) else none := by
    simp only [meD]
  rw [e, shaped_l (e := fc) (by decide), shaped_enc (e := fc) (by decide), Bool.and_self, if_pos rfl, List.findIdx?_map]
  have e2 : ((fun y => PyData.eqv y (fc a)) ∘ fc) = fun y => decide (y = a) := by
    funext y
    exact eqv_dec (e := fc) y a
  rw [e2, idx_find a L h]
  rfl
theorem run_lsign {f g : Face} (hf : isF f = true) : callF fs GG (n + 2) 163 [.d (fc f), .d (fc g)] st = .ok (.d (.int (sgn f g))) st := by
  rw [callF_of rfl]
  have hr := fun s => run_lrims (fs := fs) (n := n) (st := s) f (by have := (isF_len hf).2; omega)
  have hl := rims_few hf
  by_cases m : g ∈ rims f
  · have hm := me_idx m
    have hi : ixOf g (rims f) < 5 := Nat.lt_of_lt_of_le (ixOf_lt m) hl
    have ht : meTy .index (.list ((rims f).map fc)) = some () := rfl
    unfold sgn
    rw [if_pos m]
    generalize ixOf g (rims f) = i at hm hi ⊢
    have hx : (placeOf 5 (i : Int)).bind (fun j => ([.int 1, .int (-1), .int 1, .int (-1), .int 1] : List D)[j]?) = some (.int (turnI i)) := by
      match i, hi with
      | 0, _ => rfl
      | 1, _ => rfl
      | 2, _ => rfl
      | 3, _ => rfl
      | 4, _ => rfl
    simp [f163, startE, hr, m, hm, ht, hx]
  · simp [f163, startE, hr, m, sgn]
end
/-- number 10: law_some_face -/
def f10_c0 : TB.E := .lc (.var 2) (.nm 2) (.r1 (.cn (.int 10))) [2] (.yes (.cmp .Eq (.bin .BitAnd (.bin .RShift (.var 1) (.var 2)) (.cn (.int 1))) (.cn (.int 1))))
def f10 : TB.Fn := ⟨1, 3, (.cons (.asg 1 (.bin .Add (.cn (.int 1)) (.call 5 (.cons (.var 0) (.cons (.cn (.int 1023)) .nil)))) false) (.cons (.ret (.bi .tuple (.cons (.slc f10_c0 .no (.yes (.bin .Add (.cn (.int 1)) (.call 5 (.cons (.var 0) (.cons (.cn (.int 5)) .nil)))))) .nil))) .nil))⟩
section
variable {fs : Tbl} [Has fs 5 f5] [Has fs 10 f10] {n : Nat} {st : Sto}
def bitOn (m : Int) (k : Nat) : Bool := decide (Builtin.bitAnd (m / 2 ^ k) 1 = 1)
def bitsI (m : Int) : Face := ((List.range 10).filter (bitOn m)).map fun (k : Nat) => (k : Int)
def bitsOk (m : Nat) : Bool := (List.range 5).all fun j => isF ((bitsI ((m : Int) + 1)).take (j + 1))
theorem bits_ok : (List.range 1023).all bitsOk = true := by decide +kernel
theorem bits_face {v w : Int} (h1 : 0 ≤ v) (h2 : v < 1023) (h3 : 0 ≤ w) (h4 : w < 5) : isF (cutD (bitsI (1 + v)) none (some (1 + w))) = true := by
  have a := List.all_eq_true.mp bits_ok v.toNat (List.mem_range.mpr (by omega))
  have b := List.all_eq_true.mp a w.toNat (List.mem_range.mpr (by omega))
  have e : ((v.toNat : Nat) : Int) + 1 = 1 + v := by omega
  rw [e] at b
  rw [← b]
  congr 1
  unfold cutD clipD
  simp only
  rw [if_neg (by omega), List.drop_zero, Nat.sub_zero]
  have e2 : (1 + w).toNat = w.toNat + 1 := by omega
  rw [e2, List.take_eq_take_iff]
  omega
theorem run_someFace {a : Nat} (h : isPen st a = true) : ∃ f P, isF f = true ∧ callF fs GG (n + 2) 10 [.r a] st = .ok (.d (fc f)) (st.set a (penO P)) := by
  have e1 := run_draw (fs := fs) (n := n) (m := 1023) h (by decide) (by decide)
  obtain ⟨v1, v2⟩ := drawV_lt (penAt st a) (m := 1023) (by decide)
  generalize drawV (penAt st a) 1023 = v at e1 v1 v2
  generalize hP : drawP (penAt st a) 1023 = P1 at e1
  have e2 := run_draw (fs := fs) (n := n) (m := 5) (isPen_set h P1) (by decide) (by decide)
  obtain ⟨w1, w2⟩ := drawV_lt (penAt (st.set a (penO P1)) a) (m := 5) (by decide)
  generalize drawV (penAt (st.set a (penO P1)) a) 5 = w at e2 w1 w2
  generalize hP2 : drawP (penAt (st.set a (penO P1)) a) 5 = P2 at e2
  rw [List.set_set] at e2
  refine ⟨_, P2, bits_face v1 v2 w1 w2, ?_⟩
  have s10 : smallB 10 = true := by decide +kernel
  have hc : ev (callF fs GG (n + 1)) GG f10_c0 [some (.r a), some (.d (.int (1 + v))), none] (st.set a (penO P1)) = .ok (.d (.list ((bitsI (1 + v)).map .int))) (st.set a (penO P1)) := by
    simp only [f10_c0, ev_lc, evI_r1, ev_cn, Res.bind_ok, s10, if_true]
    have er : rangeL 0 1 (10 : Int).toNat = (List.range 10).map fun k : Nat => PyData.int k := rangeL_0 10
    rw [er, compL_map, compL_filt (p := bitOn (1 + v)) (g := fun k : Nat => PyData.int k)]
    · simp [bitsI, Function.comp_def]
    · intro k _
      have k0 : (0 : Int) ≤ (k : Int) := by omega
      cases hb : bitOn (1 + v) k with
      | true =>
        have hb' : Builtin.bitAnd ((1 + v) / 2 ^ k) 1 = 1 := of_decide_eq_true hb
        simp [k0, hb']
      | false =>
        have hb' : ¬ Builtin.bitAnd ((1 + v) / 2 ^ k) 1 = 1 := of_decide_eq_false hb
        simp [k0, hb']
  rw [callF_of rfl]
  generalize bitsI (1 + v) = L at hc ⊢
  simp [f10, startE, e1, hc, e2, fc_tup]
end
end TB
set_option maxRecDepth 100000
set_option maxHeartbeats 2000000
namespace TB
open PySem PySem.W
/-! LCapX: a face's caps, told plainly. -/
theorem rims_nd {f : Face} (h : isF f = true) : (rims f).Nodup := by
  unfold rims
  split
  · exact List.nodup_nil
  · have nd := isF_nd h
    rw [List.nodup_iff_pairwise_ne, List.pairwise_map]
    refine List.Pairwise.imp_of_mem ?_ List.pairwise_lt_range
    intro i j hi hj hij e
    have hj := List.mem_range.mp hj
    have hi : i < f.length := by omega
    have m1 : f[i] ∈ f.take j ++ f.drop (j + 1) := List.mem_append_left _ (List.mem_take_iff_getElem.mpr ⟨i, by omega, rfl⟩)
    rw [← e, List.mem_append] at m1
    have nd' := List.nodup_iff_pairwise_ne.mp nd
    rcases m1 with m | m
    · obtain ⟨a, ha, e2⟩ := List.mem_take_iff_getElem.mp m
      have := (List.getElem_inj nd).mp e2
      omega
    · obtain ⟨a, ha, e2⟩ := List.mem_drop_iff_getElem.mp m
      have := (List.getElem_inj nd).mp e2
      omega
theorem look_app2 {r g f : Face} : ∀ {M : List (Face × Bk)} {L : Bk}, M.lookup f = some L → (appM M r g).lookup f = some (if f = r then L ++ [g] else L)
  | [], L, h => by cases h
  | (a, b) :: M, L, h => by
    rw [List.lookup_cons] at h
    unfold appM
    by_cases e2 : f = a
    · subst e2
      rw [beq_self_eq_true] at h
      cases h
      by_cases e : f = r
      · subst e
        simp
      · simp [e, List.lookup_cons]
    · have e3 : (f == a) = false := by simpa using e2
      rw [e3] at h
      by_cases e : a = r
      · have : ¬ f = r := fun z => e2 (by rw [z, e])
        simp only [e, if_true, this, if_false]
        rw [List.lookup_cons, ← e, e3]
        exact h
      · simp only [e, if_false]
        rw [List.lookup_cons, e3]
        exact look_app2 h
theorem look_rims2 {g f : Face} : ∀ (rs : Bk) {M : List (Face × Bk)} {L : Bk}, rs.Nodup → M.lookup f = some L → (rs.foldl (fun M r => appM M r g) M).lookup f = some (if f ∈ rs then L ++ [g] else L)
  | [], M, L, _, h => by simpa using h
  | r :: rs, M, L, nd, h => by
    obtain ⟨n1, n2⟩ := List.nodup_cons.mp nd
    rw [List.foldl_cons, look_rims2 rs n2 (look_app2 h)]
    by_cases e : f = r
    · subst e
      simp [n1]
    · simp [e]
theorem look_caps2 {f : Face} : ∀ (C : Bk) {M : List (Face × Bk)} {L : Bk}, (∀ g ∈ C, (rims g).Nodup) → M.lookup f = some L → (C.foldl (fun M g => rimM g M) M).lookup f = some (L ++ C.filter fun g => decide (f ∈ rims g))
  | [], M, L, _, h => by simpa using h
  | g :: C, M, L, nd, h => by
    have h1 : (rimM g M).lookup f = some (if f ∈ rims g then L ++ [g] else L) := look_rims2 (rims g) (nd g (List.mem_cons_self ..)) h
    rw [List.foldl_cons, look_caps2 C (fun x hx => nd x (List.mem_cons_of_mem _ hx)) h1]
    by_cases e : f ∈ rims g <;> simp [e]
theorem look_start {f : Face} : ∀ {B : Bk}, f ∈ B → (B.map fun f : Face => (f, ([] : Bk))).lookup f = some []
  | g :: B, h => by
    rw [List.map_cons, List.lookup_cons]
    by_cases e : f = g
    · simp [e]
    · have e3 : (f == g) = false := by simpa using e
      rw [e3]
      exact look_start ((List.mem_cons.mp h).resolve_left e)
theorem capL_eq {B : Bk} (h : IsCl B) {f : Face} (hf : f ∈ B) : capL B f = B.filter fun g => decide (f ∈ rims g) := by
  have := look_caps2 B (fun g hg => rims_nd (h.face g hg)) (look_start hf)
  rw [List.nil_append] at this
  unfold capL capM
  rw [this]
  rfl
/-- just when a pair is free -/
theorem free_iff {B : Bk} (h : IsCl B) {p : Face × Face} : p ∈ freeB B ↔ p.1 ∈ B ∧ p.2 ∈ B ∧ p.1 ∈ rims p.2 ∧ (∀ x ∈ B, p.1 ∈ rims x → x = p.2) ∧ ∀ x ∈ B, p.2 ∉ rims x := by
  refine ⟨mem_freeB2, fun ⟨h1, h2, h3, h4, h5⟩ => ?_⟩
  have e1 : capL B p.1 = [p.2] := by
    have nd : (capL B p.1).Nodup := by rw [capL_eq h h1]; exact h.nd.filter _
    have all : ∀ x ∈ capL B p.1, x = p.2 := fun x hx => by
      obtain ⟨a, b⟩ := (mem_capL h1).mp hx
      exact h4 x a b
    have mem : p.2 ∈ capL B p.1 := (mem_capL h1).mpr ⟨h2, h3⟩
    cases e : capL B p.1 with
    | nil => rw [e] at mem; cases mem
    | cons x L =>
      rw [e] at nd all
      have hx := all x (List.mem_cons_self ..)
      cases L with
      | nil => rw [hx]
      | cons y L =>
        have hy := all y (List.mem_cons_of_mem _ (List.mem_cons_self ..))
        have := (List.nodup_cons.mp nd).1
        rw [hx, hy] at this
        exact absurd (List.mem_cons_self ..) this
  have e2 : capL B p.2 = [] := by
    cases e : capL B p.2 with
    | nil => rfl
    | cons x L =>
      have : x ∈ capL B p.2 := by rw [e]; exact List.mem_cons_self ..
      obtain ⟨a, b⟩ := (mem_capL h2).mp this
      exact absurd b (h5 x a)
  have e3 : capH B p.1 = p.2 := by
    unfold capH
    rw [e1]
    rfl
  unfold freeB
  refine List.mem_map.mpr ⟨p.1, List.mem_filter.mpr ⟨h1, ?_⟩, ?_⟩
  · unfold isFree
    rw [e1, e3, e2]
    rfl
  · rw [e3]
end TB
set_option maxRecDepth 100000
set_option maxHeartbeats 2000000
namespace TB
open PySem PySem.W
/-! LStay: what no taking takes away of faces of three points. -/
def cntR (S : Bk) (r : Face) : Nat := (S.flatMap rims).count r
def wearS (S : Bk) : Bk := S.filter fun f => (rims f).all fun r => decide (1 < cntR S r)
def coreN : Nat → Bk → Bk
  | 0, S => S
  | n + 1, S => if (wearS S).length = S.length then wearS S else coreN n (wearS S)
def coreB (S : Bk) : Bk := coreN (S.length + 1) S
/-- each rim of each is a rim of another one -/
def Bound (T : Bk) : Prop := ∀ f ∈ T, ∀ r ∈ rims f, ∃ g ∈ T, g ≠ f ∧ r ∈ rims g
theorem cnt_flat (r : Face) : ∀ {S : Bk}, (∀ f ∈ S, (rims f).Nodup) → cntR S r = (S.filter fun f => decide (r ∈ rims f)).length
  | [], _ => rfl
  | f :: S, h => by
    have ih := cnt_flat r (S := S) fun g hg => h g (List.mem_cons_of_mem _ hg)
    unfold cntR at ih ⊢
    rw [List.flatMap_cons, List.count_append, ih]
    by_cases e : r ∈ rims f
    · have h1 : (rims f).count r = 1 := by
        have a := List.nodup_iff_count.mp (h f (List.mem_cons_self ..)) r
        have b := List.count_pos_iff.mpr e
        omega
      rw [List.filter_cons_of_pos (by simpa using e), h1, List.length_cons]
      omega
    · have h1 : (rims f).count r = 0 := List.count_eq_zero.mpr e
      rw [List.filter_cons_of_neg (by simpa using e), h1]
      omega
theorem cnt_two {S : Bk} (nd : S.Nodup) (h : ∀ f ∈ S, (rims f).Nodup) {f r : Face} (hf : f ∈ S) (hr : r ∈ rims f) : 1 < cntR S r ↔ ∃ g ∈ S, g ≠ f ∧ r ∈ rims g := by
  rw [cnt_flat r h]
  have m : f ∈ S.filter fun f => decide (r ∈ rims f) := List.mem_filter.mpr ⟨hf, by simpa using hr⟩
  have nd2 : (S.filter fun f => decide (r ∈ rims f)).Nodup := nd.filter _
  constructor
  · intro hl
    match e : S.filter fun f => decide (r ∈ rims f), hl with
    | x :: y :: L, _ =>
      rw [e] at nd2 m
      have hxy : x ≠ y := fun z => by
        have := (List.nodup_cons.mp nd2).1
        rw [z] at this
        exact this (List.mem_cons_self ..)
      by_cases q : x = f
      · have : y ∈ S.filter fun f => decide (r ∈ rims f) := by rw [e]; simp
        obtain ⟨a, b⟩ := List.mem_filter.mp this
        exact ⟨y, a, fun z => hxy (by rw [q, z]), by simpa using b⟩
      · have : x ∈ S.filter fun f => decide (r ∈ rims f) := by rw [e]; simp
        obtain ⟨a, b⟩ := List.mem_filter.mp this
        exact ⟨x, a, q, by simpa using b⟩
  · rintro ⟨g, hg, hn, hr2⟩
    have m2 : g ∈ S.filter fun f => decide (r ∈ rims f) := List.mem_filter.mpr ⟨hg, by simpa using hr2⟩
    match e : S.filter fun f => decide (r ∈ rims f) with
    | [] => rw [e] at m; cases m
    | [x] =>
      rw [e] at m m2
      exact absurd ((List.mem_singleton.mp m2).trans (List.mem_singleton.mp m).symm) hn
    | x :: y :: L => simp
theorem flat_rims_len : ∀ {S : Bk}, (∀ f ∈ S, isF f = true) → (S.flatMap rims).length ≤ 5 * S.length
  | [], _ => Nat.le_refl 0
  | f :: S, h => by
    rw [List.flatMap_cons, List.length_append, List.length_cons]
    have := rims_few (h f (List.mem_cons_self ..))
    have := flat_rims_len fun g hg => h g (List.mem_cons_of_mem _ hg)
    omega
structure Threes (S : Bk) : Prop where
  nd : S.Nodup
  face : ∀ f ∈ S, isF f = true
theorem Threes.wear {S : Bk} (h : Threes S) : Threes (wearS S) := ⟨h.nd.filter _, fun f hf => h.face f (List.mem_filter.mp hf).1⟩
theorem Threes.two {S : Bk} (h : Threes S) {f r : Face} (hf : f ∈ S) (hr : r ∈ rims f) : 1 < cntR S r ↔ ∃ g ∈ S, g ≠ f ∧ r ∈ rims g := cnt_two h.nd (fun g hg => rims_nd (h.face g hg)) hf hr
theorem wear_keeps {S T : Bk} (h : Threes S) (hT : Bound T) (hs : ∀ f ∈ T, f ∈ S) : ∀ f ∈ T, f ∈ wearS S := by
  intro f hf
  refine List.mem_filter.mpr ⟨hs f hf, List.all_eq_true.mpr fun r hr => decide_eq_true ?_⟩
  obtain ⟨g, hg, hn, hr2⟩ := hT f hf r hr
  exact (h.two (hs f hf) hr).mpr ⟨g, hs g hg, hn, hr2⟩
theorem wear_le (S : Bk) : (wearS S).length ≤ S.length := List.length_filter_le ..
theorem core_keeps {T : Bk} (hT : Bound T) : ∀ (n : Nat) {S : Bk}, Threes S → (∀ f ∈ T, f ∈ S) → ∀ f ∈ T, f ∈ coreN n S
  | 0, S, _, hs => hs
  | n + 1, S, h, hs => by
    unfold coreN
    split
    · exact wear_keeps h hT hs
    · exact core_keeps hT n h.wear (wear_keeps h hT hs)
theorem core_sub : ∀ (n : Nat) {S : Bk}, (coreN n S).Sublist S
  | 0, S => List.Sublist.refl _
  | n + 1, S => by
    unfold coreN
    split
    · exact List.filter_sublist
    · exact (core_sub n).trans List.filter_sublist
theorem core_bound : ∀ (n : Nat) {S : Bk}, Threes S → S.length < n → Bound (coreN n S)
  | 0, S, _, hl => absurd hl (Nat.not_lt_zero _)
  | n + 1, S, h, hl => by
    unfold coreN
    split
    · rename_i e
      have e2 := List.length_filter_eq_length_iff.mp e
      have e3 : wearS S = S := List.filter_eq_self.mpr e2
      rw [e3]
      intro f hf r hr
      have := List.all_eq_true.mp (e2 f hf) r hr
      exact (h.two hf hr).mp (of_decide_eq_true this)
    · rename_i e
      have := wear_le S
      exact core_bound n h.wear (by omega)
theorem core_steps : ∀ (n m : Nat) {S : Bk}, Threes S → S.length < n → S.length < m → coreN n S = coreN m S
  | 0, _, S, _, h, _ => absurd h (Nat.not_lt_zero _)
  | _, 0, S, _, _, h => absurd h (Nat.not_lt_zero _)
  | n + 1, m + 1, S, h, h1, h2 => by
    unfold coreN
    by_cases q : (wearS S).length = S.length
    · rw [if_pos q, if_pos q]
    · rw [if_neg q, if_neg q]
      have := wear_le S
      exact core_steps n m h.wear (by omega) (by omega)
theorem core_next {S : Bk} (h : Threes S) (q : ¬ (wearS S).length = S.length) : coreB S = coreB (wearS S) := by
  have := wear_le S
  have e : coreB S = coreN S.length (wearS S) := by
    unfold coreB
    show (if (wearS S).length = S.length then wearS S else coreN S.length (wearS S)) = _
    rw [if_neg q]
  rw [e]
  exact core_steps _ _ h.wear (by omega) (Nat.lt_succ_self _)
theorem mem_core {S : Bk} (h : Threes S) {f : Face} : f ∈ coreB S ↔ ∃ T : Bk, Bound T ∧ (∀ g ∈ T, g ∈ S) ∧ f ∈ T := by
  constructor
  · intro hf
    exact ⟨coreB S, core_bound _ h (Nat.lt_succ_self _), fun g hg => (core_sub _).subset hg, hf⟩
  · rintro ⟨T, hT, hs, hf⟩
    exact core_keeps hT _ h hs f hf
theorem threes_of {B : Bk} (h : IsCl B) (k : Int) : Threes (sized B k) := ⟨h.nd.filter _, fun f hf => h.face f (List.mem_filter.mp hf).1⟩
theorem core_rise {B : Bk} (h : IsCl B) (k : Int) : (coreB (sized B k)).Pairwise fun a b => ltF a b = true := h.rise.sublist ((core_sub _).trans List.filter_sublist)
def Flat3 (B : Bk) : Prop := ∀ f ∈ B, f.length ≤ 3
theorem rim_len {f r : Face} (h : r ∈ rims f) : r.length + 1 = f.length := by
  unfold rims at h
  split at h
  · cases h
  · obtain ⟨k, hk, rfl⟩ := List.mem_map.mp h
    have := List.mem_range.mp hk
    rw [List.length_append, List.length_take, List.length_drop]
    omega
/-- nothing that stays is taken -/
theorem core_free {B : Bk} (h : IsCl B) (h3 : Flat3 B) {p : Face × Face} (hp : p ∈ freeB B) : p.1 ∉ coreB (sized B 3) ∧ p.2 ∉ coreB (sized B 3) := by
  obtain ⟨h1, h2, hr, hc, ht⟩ := mem_freeB2 hp
  constructor
  · intro m
    have := (List.mem_filter.mp ((core_sub _).subset m)).2
    have e : (p.1.length : Int) = 3 := of_decide_eq_true this
    have := rim_len hr
    have := h3 p.2 h2
    omega
  · intro m
    obtain ⟨g, hg, hn, hr2⟩ := core_bound _ (threes_of h 3) (Nat.lt_succ_self _) p.2 m p.1 hr
    exact hn (hc g (List.mem_filter.mp ((core_sub _).subset hg)).1 hr2)
theorem core_less {B : Bk} (h : IsCl B) (hL : IsCl (lessB B p)) (h3 : Flat3 B) (hp : p ∈ freeB B) : coreB (sized (lessB B p) 3) = coreB (sized B 3) := by
  refine bk_eq (core_rise hL 3) (core_rise h 3) fun x => ?_
  rw [mem_core (threes_of hL 3), mem_core (threes_of h 3)]
  constructor
  · rintro ⟨T, hT, hs, hx⟩
    refine ⟨T, hT, fun g hg => ?_, hx⟩
    obtain ⟨a, b⟩ := List.mem_filter.mp (hs g hg)
    exact List.mem_filter.mpr ⟨(mem_less.mp a).1, b⟩
  · intro hx
    have hx := (mem_core (threes_of h 3)).mpr hx
    obtain ⟨n1, n2⟩ := core_free h h3 hp
    refine ⟨coreB (sized B 3), core_bound _ (threes_of h 3) (Nat.lt_succ_self _), fun g hg => ?_, hx⟩
    obtain ⟨a, b⟩ := List.mem_filter.mp ((core_sub _).subset hg)
    exact List.mem_filter.mpr ⟨mem_less.mpr ⟨a, fun z => n1 (by rw [← z]; exact hg), fun z => n2 (by rw [← z]; exact hg)⟩, b⟩
/-- where no pair is free, all of three points stay -/
theorem core_stuck {B : Bk} (h : IsCl B) (h3 : Flat3 B) (hf : freeB B = []) : coreB (sized B 3) = sized B 3 := by
  refine bk_eq (core_rise h 3) (h.rise.sublist List.filter_sublist) fun x => ⟨fun hx => (core_sub _).subset hx, fun hx => ?_⟩
  refine (mem_core (threes_of h 3)).mpr ⟨sized B 3, fun f hf2 r hr => ?_, fun g hg => hg, hx⟩
  obtain ⟨f1, f2⟩ := List.mem_filter.mp hf2
  have f2 : (f.length : Int) = 3 := of_decide_eq_true f2
  by_cases q : ∃ g ∈ sized B 3, g ≠ f ∧ r ∈ rims g
  · exact q
  · have : (r, f) ∈ freeB B := (free_iff h).mpr ⟨h.whole f f1 r hr, f1, hr, fun x hx hrx => ?_, fun x hx hfx => ?_⟩
    · rw [hf] at this
      cases this
    · have e1 := rim_len hr
      have e2 : r.length + 1 = x.length := rim_len hrx
      by_cases e : x = f
      · exact e
      · exact absurd ⟨x, List.mem_filter.mpr ⟨hx, decide_eq_true (by omega)⟩, e, hrx⟩ q
    · have : f.length + 1 = x.length := rim_len hfx
      have := h3 x hx
      omega
theorem put_look {β : Type} (f : Face) (b : β) (g : Face) : ∀ m : List (Face × β), (alPut m f b).lookup g = if g = f then some b else m.lookup g := by
  intro m
  unfold alPut
  by_cases q : f ∈ m.map (·.1)
  · rw [if_pos q]
    induction m with
    | nil => cases q
    | cons p m ih =>
      obtain ⟨a, c⟩ := p
      rw [List.map_cons, List.lookup_cons]
      by_cases e : a = f
      · subst e
        by_cases e2 : g = a
        · simp [e2]
        · have e3 : (g == a) = false := by simpa using e2
          simp only [if_true, e2, if_false, List.lookup_cons, e3]
          by_cases q2 : a ∈ m.map (·.1)
          · rw [ih q2, if_neg e2]
          · have : (m.map fun p => if p.1 = a then (p.1, b) else p) = m := by
              conv => rhs; rw [← List.map_id m]
              apply List.map_congr_left
              intro p hp
              have : p.1 ≠ a := fun z => q2 (List.mem_map.mpr ⟨p, hp, z⟩)
              simp [this]
            rw [this]
      · have q2 : f ∈ m.map (·.1) := (List.mem_cons.mp q).resolve_left fun z => e z.symm
        simp only [e, if_false, List.lookup_cons]
        by_cases e2 : g = a
        · subst e2
          simp [e]
        · have e3 : (g == a) = false := by simpa using e2
          rw [e3]
          exact ih q2
  · rw [if_neg q]
    induction m with
    | nil =>
      by_cases e : g = f
      · subst e
        simp [List.lookup_cons]
      · have e3 : (g == f) = false := by simpa using e
        simp [List.lookup_cons, e, e3]
    | cons p m ih =>
      obtain ⟨a, c⟩ := p
      have q1 : f ≠ a := fun z => q (by rw [z]; simp)
      have q2 : f ∉ m.map (·.1) := fun z => q (by rw [List.map_cons]; exact List.mem_cons_of_mem _ z)
      rw [List.cons_append, List.lookup_cons, List.lookup_cons]
      by_cases e2 : g = a
      · subst e2
        have : g ≠ f := fun z => q1 z.symm
        simp [this]
      · have e3 : (g == a) = false := by simpa using e2
        rw [e3]
        exact ih q2
theorem get_rows2 {β : Type} (h : β → D) (f : Face) (m : List (Face × β)) (v : D) : meD .get (.dict (rows h m)) [fc f, v] = some (((m.lookup f).map h).getD v) := by
  have e : meD .get (.dict (rows h m)) [fc f, v] = if keysOk (rows h m) (fc f) then some ((lookD (rows h m) (fc f)).getD v) else none := by simp only [meD]
  rw [e, keys_rows, if_pos rfl, look_rows]
/-- how often each was met -/
def Counts (m : List (Face × Int)) (L : Bk) : Prop := (∀ r, m.lookup r = if L.count r = 0 then none else some (L.count r : Int)) ∧ m.length ≤ L.length
theorem Counts.nil : Counts [] [] := ⟨fun r => rfl, Nat.le_refl 0⟩
theorem Counts.get {m : List (Face × Int)} {L : Bk} (h : Counts m L) (r : Face) : ((m.lookup r).map PyData.int).getD (.int 0) = .int (L.count r) := by
  rw [h.1 r]
  split
  · rename_i e
    rw [e]
    rfl
  · rfl
theorem Counts.snoc {m : List (Face × Int)} {L : Bk} (h : Counts m L) (r : Face) : Counts (alPut m r ((L.count r : Int) + 1)) (L ++ [r]) := by
  refine ⟨fun g => ?_, ?_⟩
  · rw [put_look, h.1 g, List.count_append]
    by_cases e : g = r
    · subst e
      simp
    · have : List.count g [r] = 0 := by
        rw [List.count_eq_zero]
        simpa using e
      rw [this, if_neg e]
      simp
  · have := alPut_len m r ((L.count r : Int) + 1)
    rw [List.length_append, List.length_singleton]
    have := h.2
    omega
/-- number 106: bound_of -/
def f106_c0 : TB.E := .lc (.cmp .Gt (.idx (.var 1) (.var 4)) (.cn (.int 1))) (.nm 4) (.e (.call 13 (.cons (.var 2) .nil))) [4] .no
def f106_a0 : TB.E := .bi .all (.cons f106_c0 .nil)
def f106_c1 : TB.E := .lc (.var 2) (.nm 2) (.e (.var 0)) [2] (.yes f106_a0)
def f106_b1 : TB.Ss := (.cons (.seti 1 (.var 4) (.bin .Add (.get2 (.var 1) (.var 4) (.cn (.int 0))) (.cn (.int 1)))) .nil)
def f106_l1 : TB.S := .fori (.nm 4) (.e (.call 13 (.cons (.var 2) .nil))) f106_b1 [4] true
def f106_b0 : TB.Ss := (.cons f106_l1 .nil)
def f106_l0 : TB.S := .fori (.nm 2) (.e (.var 0)) f106_b0 [2, 4] true
def f106 : TB.Fn := ⟨1, 5, (.cons (.asg 1 .dnew true) (.cons f106_l0 (.cons (.asg 3 f106_c1 false) (.cons (.ife (.cmp .Eq (.bi .len (.cons (.var 3) .nil)) (.bi .len (.cons (.var 0) .nil))) (.cons (.ret (.var 3)) .nil) .nil) (.cons (.ret (.call 106 (.cons (.var 3) .nil))) .nil)))))⟩
section
variable {fs : Tbl} [Has fs 13 f13] [Has fs 106 f106] {n : Nat} {st : Sto}
theorem bound_in {m : List (Face × Int)} {L : Bk} {f : Face} (x0 : D) (hf : isF f = true) (h : Counts m L) (hl : L.length + 5 < 1000) : ∃ m', ex (callF fs GG (n + 1)) GG f106_l1 [some (.d x0), some (.r st.length), some (.d (fc f)), none, none] (st ++ [.dct (rows .int m)]) =
    .ok (.nx [some (.d x0), some (.r st.length), some (.d (fc f)), none, none]) (st ++ [.dct (rows .int m')]) ∧ Counts m' (L ++ rims f) := by
  have hr := fun s => run_rims (fs := fs) (n := n) (st := s) f (by have := (isF_len hf).2; omega)
  have h5 := rims_few hf
  simp only [f106_l1, ex_fori, evI_e, ev_call, evs_cons, evs_nil, ev_var, List.getElem?_cons_succ, List.getElem?_cons_zero, Res.bind_ok, hr, val_d, seq_l, ofO_some, forL_map]
  refine forL_ex (fun _ => [some (.d x0), some (.r st.length), some (.d (fc f)), none, none]) (fun q : List (Face × Int) => st ++ [Ob.dct (rows .int q)]) (fun d q => Counts q (L ++ d)) m rfl rfl (by simpa using h) ?_
  rintro d r q ⟨z, hz⟩ hq
  have hd : d.length + 1 ≤ (rims f).length := by
    rw [hz, List.length_append, List.length_cons]
    omega
  have hlen : (rows PyData.int q).length < LIM := by
    rw [rows_len]
    have := hq.2
    rw [List.length_append] at this
    unfold LIM
    omega
  have g1 := hq.get r
  have p1 := put_rows PyData.int q r (((L ++ d).count r : Int) + 1)
  refine ⟨_, ?_, by rw [← List.append_assoc]; exact hq.snoc r⟩
  simp only [List.count_append, Int.natCast_add] at g1 p1
  simp [f106_b1, get_rows2, g1, atVar, change, setSlot, keys_rows, hlen, p1, peek]
theorem bound_all {S : Bk} (hS : ∀ f ∈ S, isF f = true) (hl : S.length ≤ 100) : ∃ m, ex (callF fs GG (n + 1)) GG f106_l0 [some (.d (.list (S.map fc))), some (.r st.length), none, none, none] (st ++ [.dct []]) =
    .ok (.nx [some (.d (.list (S.map fc))), some (.r st.length), none, none, none]) (st ++ [.dct (rows .int m)]) ∧ Counts m (S.flatMap rims) := by
  simp only [f106_l0, ex_fori, evI_e, ev_var, List.getElem?_cons_zero, Res.bind_ok, val_d, seq_l, ofO_some, forL_map]
  refine forL_ex (fun _ => [some (.d (.list (S.map fc))), some (.r st.length), none, none, none]) (fun q : List (Face × Int) => st ++ [Ob.dct (rows .int q)]) (fun d q => Counts q (d.flatMap rims)) [] rfl rfl Counts.nil ?_
  rintro d f q ⟨z, hz⟩ hq
  have hf : isF f = true := hS f (by rw [hz]; simp)
  have hd : (d.flatMap rims).length ≤ 5 * d.length := flat_rims_len fun g hg => hS g (by rw [hz]; exact List.mem_append_left _ hg)
  have hdl : d.length + 1 ≤ S.length := by
    rw [hz, List.length_append, List.length_cons]
    omega
  obtain ⟨m', e, hm⟩ := bound_in (fs := fs) (n := n) (st := st) (.list (S.map fc)) hf hq (by omega)
  refine ⟨m', ?_, by rw [List.flatMap_append]; simpa using hm⟩
  simp [f106_b0, e]
theorem run_boundOf : ∀ (k : Nat) {S : Bk} {st : Sto}, Threes S → S.length ≤ 100 → S.length < k → callF fs GG (n + k + 2) 106 [.d (.list (S.map fc))] st = .ok (.d (.list ((coreB S).map fc))) st
  | 0, S, st, _, _, hk => absurd hk (Nat.not_lt_zero _)
  | k + 1, S, st, h, hl, hk => by
    rw [show n + (k + 1) + 2 = (n + k + 2) + 1 from by omega, callF_of rfl]
    obtain ⟨m, e, hm⟩ := bound_all (fs := fs) (n := n + k + 1) (st := st) (S := S) h.face hl
    have hc : ev (callF fs GG (n + k + 2)) GG f106_c1 [some (.d (.list (S.map fc))), some (.r st.length), none, none, none] (st ++ [.dct (rows .int m)]) = .ok (.d (.list ((wearS S).map fc))) (st ++ [.dct (rows .int m)]) := by
      simp only [f106_c1, ev_lc, evI_e, ev_var, List.getElem?_cons_zero, Res.bind_ok, val_d, seq_l, ofO_some, compL_map]
      rw [compL_filt (p := fun f => (rims f).all fun r => decide (1 < cntR S r)) (g := fc)]
      · rfl
      · intro f hf
        have hr := fun s => run_rims (fs := fs) (n := n + k + 1) (st := s) f (by have := (isF_len (h.face f hf)).2; omega)
        have ha : ev (callF fs GG (n + k + 2)) GG f106_a0 [some (.d (.list (S.map fc))), some (.r st.length), some (.d (fc f)), none, none] (st ++ [.dct (rows .int m)]) = .ok (.d (.bool ((rims f).all fun r => decide (1 < cntR S r)))) (st ++ [.dct (rows .int m)]) := by
          have hc0 : ev (callF fs GG (n + k + 2)) GG f106_c0 [some (.d (.list (S.map fc))), some (.r st.length), some (.d (fc f)), none, none] (st ++ [.dct (rows .int m)]) = .ok (.d (.list ((rims f).map fun r => .bool (decide (1 < cntR S r))))) (st ++ [.dct (rows .int m)]) := by
            simp only [f106_c0, ev_lc, evI_e, ev_call, evs_cons, evs_nil, ev_var, List.getElem?_cons_succ, List.getElem?_cons_zero, Res.bind_ok, hr, val_d, seq_l, ofO_some, compL_map]
            rw [compL_all (g := fun r => .bool (decide (1 < cntR S r)))]
            · rfl
            · intro r hrr
              have hm0 : m.lookup r = some (cntR S r : Int) := by
                rw [hm.1 r, if_neg]
                · rfl
                · have : r ∈ S.flatMap rims := List.mem_flatMap.mpr ⟨f, hf, hrr⟩
                  have := List.count_pos_iff.mpr this
                  omega
              simp [hm0, peek]
              omega
          simp [f106_a0, hc0]
        cases hb : (rims f).all fun r => decide (1 < cntR S r) <;> rw [hb] at ha <;> simp [ha]
    have h1 : (.lst ((wearS S).map fc) : Ob).isTb = false := rfl
    by_cases q : (wearS S).length = S.length
    · have ec : coreB S = wearS S := by
        unfold coreB coreN
        rw [if_pos q]
      simp [f106, startE, e, hc, freshE, newOb, ec, q]
    · have ec : coreB S = coreB (wearS S) := core_next h q
      have hlt : (wearS S).length < S.length := Nat.lt_of_le_of_ne (wear_le S) q
      have ih := fun s => run_boundOf k (S := wearS S) (st := s) h.wear (by omega) (by omega)
      have q' : ¬ ((wearS S).length : Int) = S.length := by omega
      rw [ec]
      simp [f106, startE, e, hc, freshE, newOb, q', ih]
end
end TB
set_option maxRecDepth 100000
set_option maxHeartbeats 2000000
namespace TB
open PySem PySem.W
/-! LDown: what stays, takings, and what is left of them. -/
theorem get_drawn {L : List D} {P : Pen} (h : 0 < L.length) : ∃ o, o ∈ L ∧ TB.getD (.list L) (.int (drawV P L.length)) = some o := by
  have hv := drawV_lt P (m := L.length) (by omega)
  generalize drawV P L.length = v at hv ⊢
  obtain ⟨k, rfl⟩ : ∃ k : Nat, v = (k : Int) := ⟨v.toNat, by omega⟩
  have hk : k < L.length := by omega
  refine ⟨L[k], List.getElem_mem hk, ?_⟩
  show ((placeOf L.length (k : Int)).bind fun j => L[j]?) = _
  have : placeOf L.length (k : Int) = some k := by
    unfold placeOf
    rw [if_pos (by omega), if_pos hv.2]
    simp
  rw [this]
  exact List.getElem?_eq_getElem hk
/-- number 55: need_flat -/
def f55 : TB.Fn := ⟨1, 1, (.cons (.exprX 24 (.cons (.var 0) .nil)) (.cons (.ife (.cmp .Gt (.call 39 (.cons (.var 0) .nil)) (.cn (.int 3))) (.cons (.rais 8 .nil) .nil) .nil) .nil))⟩
section
variable {fs : Tbl} [Has fs 2 f2] [Has fs 0 f0] [Has fs 1 f1] [Has fs 3 f3] [Has fs 13 f13] [Has fs 14 f14] [Has fs 24 f24] [Has fs 39 f39] [Has fs 55 f55] {n : Nat} {st : Sto}
theorem run_needFlat {B : Bk} (h : IsBk B) (h3 : Flat3 B) : callF fs GG (n + 6) 55 [.d (.tuple (B.map fc))] st = .ok (.d .none) st := by
  rw [callF_of rfl]
  have r1 := fun s => run_needB (fs := fs) (n := n) (st := s) h
  have r2 := fun s => run_most (fs := fs) (n := n + 4) (st := s) (B := B) (by intro e; have := h.one; rw [e] at this; simp at this)
  have hm : ¬ ((3 : Int) < (TB.most B : Nat)) := by
    have := most_lt (B := B) (k := 3) h3
    omega
  simp [f55, startE, r1, r2, hm]
theorem run_needFlat_x {B : Bk} (h : IsBk B) (h3 : 3 < TB.most B) : callF fs GG (n + 6) 55 [.d (.tuple (B.map fc))] st = .exc 8 [] st := by
  rw [callF_of rfl]
  have r1 := fun s => run_needB (fs := fs) (n := n) (st := s) h
  have r2 := fun s => run_most (fs := fs) (n := n + 4) (st := s) (B := B) (by intro e; have := h.one; rw [e] at this; simp at this)
  have hm : ((3 : Int) < (TB.most B : Nat)) := by omega
  simp [f55, startE, r1, r2, hm]
end
/-- number 107: stays -/
def f107 : TB.Fn := ⟨1, 1, (.cons (.exprX 55 (.cons (.var 0) .nil)) (.cons (.ret (.call 106 (.cons (.call 38 (.cons (.var 0) (.cons (.cn (.int 3)) .nil))) .nil))) .nil))⟩
section
variable {fs : Tbl} [Has fs 2 f2] [Has fs 0 f0] [Has fs 1 f1] [Has fs 3 f3] [Has fs 13 f13] [Has fs 14 f14] [Has fs 24 f24] [Has fs 39 f39] [Has fs 55 f55] [Has fs 106 f106] [Has fs 38 f38] [Has fs 107 f107] {n : Nat} {st : Sto}
theorem two_len {α : Type} (p q : α → Bool) (hd : ∀ x, ¬ (p x = true ∧ q x = true)) : ∀ L : List α, (L.filter p).length + (L.filter q).length ≤ L.length
  | [] => Nat.le_refl _
  | x :: L => by
    have ih := two_len p q hd L
    have := hd x
    cases hp : p x <;> cases hq : q x <;> simp_all <;> omega
theorem prod_len {α : Type} (L : List α) : ∀ M : List α, (M.flatMap fun a => L.map fun b => (a, b)).length = M.length * L.length
  | [] => by simp
  | a :: M => by
    rw [List.flatMap_cons, List.length_append, prod_len L M, List.length_map, List.length_cons, Nat.succ_mul, Nat.add_comm]
/-- faces of three points take room for their rims -/
theorem threes_few {B : Bk} (h : IsBk B) : (sized B 3).length ≤ 52 := by
  have h1 := two_len (fun f : Face => decide ((f.length : Int) = 3)) (fun f : Face => decide ((f.length : Int) = 2)) (fun f q => by
    have a := of_decide_eq_true q.1
    have b := of_decide_eq_true q.2
    omega) B
  have h2 := h.few
  have e1 : (B.filter fun f : Face => decide ((f.length : Int) = 3)) = sized B 3 := rfl
  have e2 : (B.filter fun f : Face => decide ((f.length : Int) = 2)) = sized B 2 := rfl
  rw [e1, e2] at h1
  have m3 : ∀ f ∈ sized B 3, f ∈ B ∧ ∃ a b c, f = [a, b, c] := fun f hf => by
    obtain ⟨a, b⟩ := List.mem_filter.mp hf
    have b : (f.length : Int) = 3 := of_decide_eq_true b
    match f, b with
    | [x, y, z], _ => exact ⟨a, x, y, z, rfl⟩
  have key : (sized B 3).length ≤ (sized B 2).length * (sized B 2).length := by
    have := nd_len (A := (sized B 3).map fun f => (f.tail, f.take 2)) (B := (sized B 2).flatMap fun a => (sized B 2).map fun b => (a, b)) ?_ ?_
    · rwa [List.length_map, prod_len] at this
    · rw [List.nodup_iff_pairwise_ne, List.pairwise_map]
      refine List.Pairwise.imp_of_mem ?_ (List.nodup_iff_pairwise_ne.mp (h.toIsCl.nd.filter _))
      intro f g hf hg ne e
      obtain ⟨_, a, b, c, rfl⟩ := m3 f hf
      obtain ⟨_, a', b', c', rfl⟩ := m3 g hg
      simp only [List.tail_cons, Prod.mk.injEq, List.cons.injEq, and_true] at e
      simp at e
      exact ne (by simp [e])
    · intro q hq
      obtain ⟨f, hf, rfl⟩ := List.mem_map.mp hq
      obtain ⟨hB, a, b, c, rfl⟩ := m3 f hf
      have r1 : [b, c] ∈ rims [a, b, c] := rims_idx.mpr ⟨by simp, 0, by simp, rfl⟩
      have r2 : [a, b] ∈ rims [a, b, c] := rims_idx.mpr ⟨by simp, 2, by simp, rfl⟩
      have s1 : [b, c] ∈ sized B 2 := List.mem_filter.mpr ⟨h.whole _ hB _ r1, by simp⟩
      have s2 : [a, b] ∈ sized B 2 := List.mem_filter.mpr ⟨h.whole _ hB _ r2, by simp⟩
      exact List.mem_flatMap.mpr ⟨_, s1, List.mem_map.mpr ⟨_, s2, rfl⟩⟩
  by_cases q : (sized B 3).length ≤ 52
  · exact q
  · exfalso
    have e7 : (sized B 2).length ≤ 7 := by omega
    have := Nat.mul_le_mul e7 e7
    omega
theorem run_stays {B : Bk} (h : IsBk B) (h3 : Flat3 B) : callF fs GG (n + 56) 107 [.d (.tuple (B.map fc))] st = .ok (.d (.list ((coreB (sized B 3)).map fc))) st := by
  rw [callF_of rfl]
  have r1 := fun s => run_needFlat (fs := fs) (n := n + 49) (st := s) h h3
  have r2 := fun s => run_facesOf (fs := fs) (n := n + 54) (st := s) B 3
  have hl := threes_few h
  have r3 := fun s => run_boundOf (fs := fs) (n := n) 53 (S := sized B 3) (st := s) (threes_of h.toIsCl 3) (by omega) (by omega)
  simp [f107, startE, r1, r2, r3]
end
/-- number 100: is_free -/
def f100 : TB.Fn := ⟨2, 2, (.cons (.ret (.and (.call 57 (.cons (.var 0) (.cons (.var 1) .nil))) (.cmp .In (.var 1) (.fz (.call 97 (.cons (.var 0) .nil)))))) .nil)⟩
section
variable {fs : Tbl} [Has fs 13 f13] [Has fs 2 f2] [Has fs 0 f0] [Has fs 1 f1] [Has fs 3 f3] [Has fs 57 f57] [Has fs 23 f23] [Has fs 97 f97] [Has fs 100 f100] {n : Nat} {st : Sto}
theorem run_isFree {B : Bk} (h : IsBk B) {p : Face × Face} (hp : p ∈ freeB B) : callF fs GG (n + 5) 100 [.d (.tuple (B.map fc)), .d (pr p)] st = .ok (.d (.bool true)) st := by
  obtain ⟨h1, h2, h3⟩ := mem_freeB hp
  rw [callF_of rfl]
  have r1 := fun s => run_apair (fs := fs) (n := n) (st := s) B (pr p)
  have r2 := fun s => run_freeOf (fs := fs) (n := n + 1) (st := s) h
  have e1 : pairB B (pr p) = true := by rw [pairB_pr (h.face _ h1) (h.face _ h2)]; exact decide_eq_true ⟨h3, h2⟩
  simp [f100, startE, r1, r2, e1, hp]
end
/-- number 102: gone_down -/
def f102_b0 : TB.Ss := (.cons (.ife (.not (.call 100 (.cons (.var 2) (.cons (.var 3) .nil)))) (.cons (.ret (.cn .none)) .nil) .nil) (.cons (.asg 2 (.call 98 (.cons (.var 2) (.cons (.var 3) .nil))) false) .nil))
def f102_l0 : TB.S := .fori (.nm 3) (.e (.var 1)) f102_b0 [3] true
def f102 : TB.Fn := ⟨2, 4, (.cons (.ife (.not (.isin (.var 1) .tuple)) (.cons (.ret (.cn .none)) .nil) .nil) (.cons (.asg 2 (.var 0) false) (.cons f102_l0 (.cons (.ret (.var 2)) .nil))))⟩
section
variable {fs : Tbl} [Has fs 98 f98] [Has fs 13 f13] [Has fs 2 f2] [Has fs 0 f0] [Has fs 1 f1] [Has fs 3 f3] [Has fs 57 f57] [Has fs 23 f23] [Has fs 97 f97] [Has fs 100 f100] [Has fs 102 f102] {n : Nat} {st : Sto}
/-- pairs that can be taken one behind the other -/
def Takes : Bk → Pg → Prop
  | _, [] => True
  | B, p :: L => p ∈ freeB B ∧ Takes (lessB B p) L
def downB (B : Bk) (L : Pg) : Bk := L.foldl lessB B
theorem down_bk : ∀ {L : Pg} {B : Bk}, IsBk B → Takes B L → IsBk (downB B L)
  | [], _, h, _ => h
  | p :: L, B, h, t => down_bk (L := L) (less_bk h t.1) t.2
theorem Takes.snoc : ∀ {L : Pg} {B : Bk} {p : Face × Face}, Takes B L → p ∈ freeB (downB B L) → Takes B (L ++ [p])
  | [], _, _, _, h => ⟨h, True.intro⟩
  | q :: L, B, p, t, h => ⟨t.1, Takes.snoc (L := L) t.2 h⟩
theorem down_snoc (B : Bk) (L : Pg) (p : Face × Face) : downB B (L ++ [p]) = lessB (downB B L) p := by
  unfold downB
  rw [List.foldl_append]
  rfl
theorem Takes.pre : ∀ {d : Pg} {B : Bk} {p : Face × Face} {r : Pg}, Takes B (d ++ p :: r) → Takes B d ∧ p ∈ freeB (downB B d)
  | [], _, _, _, t => ⟨True.intro, t.1⟩
  | q :: d, B, p, r, t => ⟨⟨t.1, (Takes.pre (d := d) t.2).1⟩, (Takes.pre (d := d) t.2).2⟩
theorem Takes.len : ∀ {L : Pg} {B : Bk}, Takes B L → (downB B L).length + L.length ≤ B.length
  | [], _, _ => Nat.le_refl _
  | p :: L, B, t => by
    have := Takes.len (L := L) t.2
    have := less_len t.1
    show (downB (lessB B p) L).length + (L.length + 1) ≤ _
    omega
theorem Takes.good : ∀ {L : Pg} {B : Bk}, IsBk B → Takes B L → ∀ p ∈ L, isF p.1 = true ∧ isF p.2 = true
  | [], _, _, _, p, hp => by cases hp
  | q :: L, B, h, t, p, hp => by
    rcases List.mem_cons.mp hp with rfl | hp
    · obtain ⟨h1, h2, h3⟩ := mem_freeB t.1
      exact ⟨h.face _ h1, h.face _ h2⟩
    · exact Takes.good (L := L) (less_bk h t.1) t.2 p hp
theorem takeN_takes : ∀ (k : Nat) {B : Bk}, Takes B (takeN k B)
  | 0, _ => True.intro
  | k + 1, B => by
    unfold takeN
    cases e : freeB B with
    | nil => exact True.intro
    | cons p L => exact ⟨by rw [e]; exact List.mem_cons_self .., takeN_takes k⟩
theorem takeN_end : ∀ (k : Nat) {B : Bk}, IsBk B → B.length ≤ k → freeB (downB B (takeN k B)) = []
  | 0, B, h, hk => by
    have := h.one
    omega
  | k + 1, B, h, hk => by
    unfold takeN
    cases e : freeB B with
    | nil => exact e
    | cons p L =>
      have hp : p ∈ freeB B := by rw [e]; exact List.mem_cons_self ..
      have := less_len hp
      exact takeN_end k (less_bk h hp) (by omega)
theorem flat_less {B : Bk} (h3 : Flat3 B) (p : Face × Face) : Flat3 (lessB B p) := fun f hf => h3 f (mem_less.mp hf).1
theorem down_flat : ∀ {L : Pg} {B : Bk}, Flat3 B → Flat3 (downB B L)
  | [], _, h => h
  | p :: L, B, h => down_flat (L := L) (flat_less h p)
theorem core_down : ∀ {L : Pg} {B : Bk}, IsBk B → Flat3 B → Takes B L → coreB (sized (downB B L) 3) = coreB (sized B 3)
  | [], _, _, _, _ => rfl
  | p :: L, B, h, h3, t => by
    have hb := less_bk h t.1
    rw [← core_less h.toIsCl hb.toIsCl h3 t.1]
    exact core_down (L := L) hb (flat_less h3 p) t.2
theorem core_not : ∀ {L : Pg} {B : Bk}, IsBk B → Flat3 B → Takes B L → ∀ p ∈ L, p.2 ∉ coreB (sized B 3)
  | [], _, _, _, _, p, hp => by cases hp
  | q :: L, B, h, h3, t, p, hp => by
    rcases List.mem_cons.mp hp with rfl | hp
    · exact (core_free h.toIsCl h3 t.1).2
    · have hb := less_bk h t.1
      rw [← core_less h.toIsCl hb.toIsCl h3 t.1]
      exact core_not (L := L) hb (flat_less h3 q) t.2 p hp
theorem run_goneDown {B : Bk} {L : Pg} (h : IsBk B) (t : Takes B L) : callF fs GG (n + 6) 102 [.d (.tuple (B.map fc)), .d (.tuple (L.map pr))] st = .ok (.d (.tuple ((downB B L).map fc))) st := by
  rw [callF_of rfl]
  have e : ex (callF fs GG (n + 5)) GG f102_l0 [some (.d (.tuple (B.map fc))), some (.d (.tuple (L.map pr))), some (.d (.tuple (B.map fc))), none] st = .ok (.nx [some (.d (.tuple (B.map fc))), some (.d (.tuple (L.map pr))), some (.d (.tuple ((downB B L).map fc))), none]) st := by
    simp only [f102_l0, ex_fori, evI_e, ev_var, List.getElem?_cons_succ, List.getElem?_cons_zero, Res.bind_ok, val_d, seq_t, ofO_some, forL_map]
    refine forL_go (fun C : Bk => [some (.d (.tuple (B.map fc))), some (.d (.tuple (L.map pr))), some (.d (.tuple (C.map fc))), none]) (fun _ => st) (fun d C => C = downB B d) B rfl rfl rfl ?_ (fun C hC => by rw [hC])
    rintro d p C ⟨r, hr⟩ rfl
    rw [hr] at t
    obtain ⟨t1, hp⟩ := t.pre
    have hb := down_bk h t1
    have r1 := fun s => run_isFree (fs := fs) (n := n) (st := s) hb hp
    have r2 := fun s => run_less (fs := fs) (n := n + 4) (st := s) (downB B d) p
    refine ⟨lessB (downB B d) p, ?_, (down_snoc B d p).symm⟩
    simp [f102_b0, r1, r2]
  simp [f102, startE, e]
end
/-- number 104: taken_down -/
def f104 : TB.Fn := ⟨2, 3, (.cons (.exprX 24 (.cons (.var 0) .nil)) (.cons (.asg 2 (.call 102 (.cons (.var 0) (.cons (.var 1) .nil))) false) (.cons (.ife (.cmp .Is (.var 2) (.cn .none)) (.cons (.rais 7 .nil) .nil) .nil) (.cons (.ret (.var 2)) .nil))))⟩
section
variable {fs : Tbl} [Has fs 2 f2] [Has fs 0 f0] [Has fs 1 f1] [Has fs 3 f3] [Has fs 13 f13] [Has fs 14 f14] [Has fs 24 f24] [Has fs 98 f98] [Has fs 57 f57] [Has fs 23 f23] [Has fs 97 f97] [Has fs 100 f100] [Has fs 102 f102] [Has fs 104 f104] {n : Nat} {st : Sto}
theorem run_takenDown {B : Bk} {L : Pg} (h : IsBk B) (t : Takes B L) : callF fs GG (n + 7) 104 [.d (.tuple (B.map fc)), .d (.tuple (L.map pr))] st = .ok (.d (.tuple ((downB B L).map fc))) st := by
  rw [callF_of rfl]
  have r1 := fun s => run_needB (fs := fs) (n := n + 1) (st := s) h
  have r2 := fun s => run_goneDown (fs := fs) (n := n) (st := s) h t
  have e : cmpD .Is (.tuple ((downB B L).map fc)) .none = some false := rfl
  simp [f104, startE, r1, r2, e]
end
/-- number 154: law_down -/
def f154_b0 : TB.Ss := (.cons (.asg 6 (.call 117 (.cons (.var 4) .nil)) false) (.cons (.ife (.cmp .NotEq (.var 6) (.lst .nil)) (.cons (.asg 7 (.idx (.var 6) (.call 5 (.cons (.var 0) (.cons (.bi .len (.cons (.var 6) .nil)) .nil)))) false) (.cons (.app 5 (.var 7)) (.cons (.asg 4 (.call 150 (.cons (.var 4) (.cons (.var 7) .nil))) false) .nil))) .nil) .nil))
def f154_l0 : TB.S := .fori (.nm 3) (.r1 (.var 2)) f154_b0 [3, 6, 7] true
def f154 : TB.Fn := ⟨3, 8, (.cons (.asgQ [4, 5] [false, true] (.cons (.var 1) (.cons (.lst .nil) .nil))) (.cons f154_l0 (.cons (.ret (.bi .tuple (.cons (.var 5) .nil))) .nil)))⟩
section
variable {fs : Tbl} [Has fs 17 f17] [Has fs 32 f32] [Has fs 117 f117] [Has fs 150 f150] [Has fs 5 f5] [Has fs 154 f154] {n : Nat} {st : Sto}
theorem run_ldownE {B : Bk} (h : IsBk B) {a : Nat} (ha : isPen st a = true) {m : Nat} (hm : m ≤ 100) : ∃ (L : Pg) (P : Pen), Takes B L ∧ (freeB (downB B L) = [] ∨ L.length = m) ∧ callF fs GG (n + 4) 154 [.r a, .d (.tuple (B.map fc)), .d (.int m)] st = .ok (.d (.tuple (L.map pr))) (st.set a (penO P)) := by
  have hs : smallB m = true := by
    simp [smallB]
    omega
  have e : ∃ s : Pg × Pen, ex (callF fs GG (n + 3)) GG f154_l0 [some (.r a), some (.d (.tuple (B.map fc))), some (.d (.int m)), none, some (.d (.tuple (B.map fc))), some (.r st.length), none, none] (st ++ [.lst []]) =
      .ok (.nx [some (.r a), some (.d (.tuple (B.map fc))), some (.d (.int m)), none, some (.d (.tuple ((downB B s.1).map fc))), some (.r st.length), none, none]) (st.set a (penO s.2) ++ [.lst (s.1.map pr)]) ∧ Takes B s.1 ∧ (freeB (downB B s.1) = [] ∨ s.1.length = (List.range m).length) := by
    simp only [f154_l0, ex_fori, evI_r1, ev_var, List.getElem?_cons_succ, List.getElem?_cons_zero, Res.bind_ok, hs, if_true, Int.toNat_natCast, rangeL_0, forL_map]
    refine forL_ex (fun s : Pg × Pen => [some (.r a), some (.d (.tuple (B.map fc))), some (.d (.int m)), none, some (.d (.tuple ((downB B s.1).map fc))), some (.r st.length), none, none]) (fun s : Pg × Pen => st.set a (penO s.2) ++ [Ob.lst (s.1.map pr)]) (fun d s => Takes B s.1 ∧ (freeB (downB B s.1) = [] ∨ s.1.length = d.length)) ([], penAt st a) rfl (by rw [set_self ha]; rfl) ⟨True.intro, .inr rfl⟩ ?_
    rintro d k ⟨L, P⟩ _ ⟨t, te⟩
    have t : Takes B L := t
    have te : freeB (downB B L) = [] ∨ L.length = d.length := te
    have hb : IsBk (downB B L) := down_bk h t
    have r1 := fun s => run_lfree (fs := fs) (n := n) (st := s) hb
    have hlt := pen_lt ha
    have hlt1 : a < st.length + 1 := by omega
    have hp : isPen (st.set a (penO P) ++ [Ob.lst (L.map pr)]) a = true := isPen_app (isPen_set ha P)
    cases ef : freeB (downB B L) with
    | nil =>
      rw [ef] at r1
      refine ⟨(L, P), ?_, t, .inl ef⟩
      have : ne_ll = ne_ll := rfl
      simp [f154_b0, r1, ne_ll, hlt, hlt1]
    | cons p F =>
      have ne : freeB (downB B L) ≠ [] := by rw [ef]; simp
      obtain ⟨j, q, hq, hj, hg⟩ := draw_at ne P
      have hfl : 0 < (freeB (downB B L)).length := List.length_pos_iff.mpr ne
      have hfl2 := free_len (downB B L)
      have hfew := hb.few
      have r2 := run_draw (fs := fs) (n := n + 2) (st := st.set a (penO P) ++ [Ob.lst (L.map pr)]) (a := a) (m := ((freeB (downB B L)).length : Nat)) hp (by omega) (by omega)
      have pa : penAt (st.set a (penO P) ++ [Ob.lst (L.map pr)]) a = P := by rw [penAt_app (isPen_set ha P), penAt_set ha]
      rw [pa, set_pen_app (isPen_set ha P), List.set_set] at r2
      have r3 := fun s => run_lless (fs := fs) (n := n + 2) (st := s) (downB B L) q
      have ne2 : cmpD .NotEq (.list ((freeB (downB B L)).map pr)) (.list []) = some true := by
        rw [ne_pl0]
        simp [ne]
      have hlen : L.length < LIM := by
        have := t.len
        have := h.few
        unfold LIM
        omega
      have tl : (L ++ [q]).length = (d ++ [k]).length := by
        rw [List.length_append, List.length_append, te.resolve_left ne]
        rfl
      refine ⟨(L ++ [q], drawP P ((freeB (downB B L)).length : Nat)), ?_, t.snoc hq, .inr tl⟩
      simp only [down_snoc]
      have hgd : TB.getD (.list ((freeB (downB B L)).map pr)) (.int (drawV P ((freeB (downB B L)).length : Nat))) = some (pr q) := by simp [hj, hg]
      generalize freeB (downB B L) = Z at *
      simp [f154_b0, r1, r2, r3, ne2, hj, hg, lstAt, atVar, change, appSlot, hlen, hlt, hlt1]
  obtain ⟨⟨L, P⟩, e, t, te⟩ := e
  refine ⟨L, P, t, ?_, ?_⟩
  · simpa using te
  · rw [callF_of rfl]
    have hlt := pen_lt ha
    simp [f154, startE, e, freshE, newOb, peek, Ob.tree]
theorem run_ldown {B : Bk} (h : IsBk B) {a : Nat} (ha : isPen st a = true) {m : Nat} (hm : m ≤ 100) : ∃ (L : Pg) (P : Pen), Takes B L ∧ callF fs GG (n + 4) 154 [.r a, .d (.tuple (B.map fc)), .d (.int m)] st = .ok (.d (.tuple (L.map pr))) (st.set a (penO P)) := by
  obtain ⟨L, P, t, _, e⟩ := run_ldownE (fs := fs) (n := n) h ha hm
  exact ⟨L, P, t, e⟩
end
end TB
set_option maxRecDepth 100000
set_option maxHeartbeats 2000000
namespace TB
open PySem PySem.W
/-! LCalm: pairings without a round, as told. -/
/-- pairs of a taking are a calm pairing -/
theorem Takes.mem : ∀ {L : Pg} {B : Bk}, Takes B L → ∀ p ∈ L, p.1 ∈ B ∧ p.2 ∈ B ∧ p.1 ∈ rims p.2
  | [], _, _, _, hp => by cases hp
  | q :: L, B, t, p, hp => by
    rcases List.mem_cons.mp hp with rfl | hp
    · obtain ⟨h1, h2, h3, _, _⟩ := mem_freeB2 t.1
      exact ⟨h1, h2, h3⟩
    · obtain ⟨h1, h2, h3⟩ := Takes.mem (L := L) t.2 p hp
      exact ⟨(mem_less.mp h1).1, (mem_less.mp h2).1, h3⟩
theorem Takes.fol : ∀ {L : Pg} {B : Bk}, Takes B L → L.Pairwise fun a b => folB b a = false
  | [], _, _ => List.Pairwise.nil
  | p :: L, B, t => List.pairwise_cons.mpr ⟨fun b hb => fol_not fun h => by
      obtain ⟨_, _, _, h4, _⟩ := mem_freeB2 t.1
      obtain ⟨_, h2, _⟩ := Takes.mem (L := L) t.2 b hb
      obtain ⟨q1, _, q3⟩ := mem_less.mp h2
      exact q3 (h4 _ q1 h), Takes.fol (L := L) t.2⟩
theorem Takes.calm {L : Pg} {B : Bk} (t : Takes B L) : NoRound folB L := noRound_of fol_irr t.fol
theorem Takes.held_nd : ∀ {L : Pg} {B : Bk}, Takes B L → (heldL L).Nodup
  | [], _, _ => List.nodup_nil
  | p :: L, B, t => by
    obtain ⟨h1, h2, h3, _, _⟩ := mem_freeB2 t.1
    have ne : p.1 ≠ p.2 := fun e => by
      have := rim_len h3
      rw [e] at this
      omega
    have off : ∀ f ∈ heldL L, f ≠ p.1 ∧ f ≠ p.2 := fun f hf => by
      obtain ⟨q, hq, e⟩ := mem_held.mp hf
      obtain ⟨a, b, _⟩ := Takes.mem (L := L) t.2 q hq
      rcases e with e | e
      · rw [e]
        exact (mem_less.mp a).2
      · rw [e]
        exact (mem_less.mp b).2
    show (p.1 :: p.2 :: heldL L).Nodup
    refine List.nodup_cons.mpr ⟨fun m => ?_, List.nodup_cons.mpr ⟨fun m => ?_, Takes.held_nd (L := L) t.2⟩⟩
    · rcases List.mem_cons.mp m with m | m
      · exact ne m
      · exact (off _ m).1 rfl
    · exact (off _ m).2 rfl
theorem left_down : ∀ (L : Pg) (B : Bk), leftB B L = downB B L
  | [], B => by
    unfold leftB
    exact List.filter_eq_self.mpr fun f _ => by simp [heldL]
  | p :: L, B => by
    show leftB B (p :: L) = downB (lessB B p) L
    rw [← left_down L]
    unfold leftB lessB
    rw [List.filter_filter]
    refine List.filter_congr fun f _ => ?_
    have : heldL (p :: L) = p.1 :: p.2 :: heldL L := rfl
    rw [this]
    by_cases a : f = p.1 <;> by_cases b : f = p.2 <;> by_cases c : f ∈ heldL L <;> simp [a, b, c]
theorem left_perm {B : Bk} {L M : Pg} (h : ∀ p, p ∈ L ↔ p ∈ M) : leftB B L = leftB B M := by
  unfold leftB
  refine List.filter_congr fun f _ => ?_
  have : f ∈ heldL L ↔ f ∈ heldL M := by simp only [mem_held, h]
  simp only [this]
theorem Takes.pg {B : Bk} {L : Pg} (h : IsBk B) (t : Takes B L) : IsPg B (srtP L) := by
  refine pg_of (fun p hp => ?_) t.held_nd
  obtain ⟨h1, h2, h3⟩ := t.mem p hp
  exact ⟨h.face _ h1, h.face _ h2, h3, h2⟩
theorem calm_srt {L : Pg} (h : NoRound folB L) : NoRound folB (srtP L) := h.sub fun p hp => mem_srtP.mp hp
theorem enum_map {α : Type} (f : α → D) : ∀ (L : List α) (k : Nat), enumL k (L.map f) = (L.zipIdx k).map fun q => PyData.tuple [.int q.2, f q.1]
  | [], _ => rfl
  | x :: L, k => by
    rw [List.map_cons, enumL, enum_map f L, List.zipIdx_cons, List.map_cons]
/-- number 78: can_follow -/
def f78 : TB.Fn := ⟨2, 2, (.cons (.ret (.and (.cmp .NotEq (.var 0) (.var 1)) (.cmp .In (.idx (.var 1) (.cn (.int 0))) (.call 13 (.cons (.idx (.var 0) (.cn (.int 1))) .nil))))) .nil)⟩
section
variable {fs : Tbl} [Has fs 13 f13] [Has fs 78 f78] {n : Nat} {st : Sto}
theorem run_follow (p q : Face × Face) (h : isF p.2 = true) : callF fs GG (n + 2) 78 [.d (pr p), .d (pr q)] st = .ok (.d (.bool (folB p q))) st := by
  rw [callF_of rfl]
  have hr := fun s => run_rims (fs := fs) (n := n) (st := s) p.2 (by have := (isF_len h).2; omega)
  by_cases e : p = q
  · subst e
    simp [f78, startE, folB]
  · simp [f78, startE, folB, e, hr]
end
/-- number 79: later_by -/
def f79_c0 : TB.E := .lc (.var 3) (.tp [3, 4]) (.en (.var 0)) [3, 4] (.yes (.call 78 (.cons (.var 2) (.cons (.var 4) .nil))))
def f79_b0 : TB.Ss := (.cons (.app 1 f79_c0) .nil)
def f79_l0 : TB.S := .fori (.nm 2) (.e (.var 0)) f79_b0 [2] true
def f79 : TB.Fn := ⟨1, 5, (.cons (.asg 1 (.lst .nil) true) (.cons f79_l0 (.cons (.ret (.var 1)) .nil)))⟩
section
variable {fs : Tbl} [Has fs 13 f13] [Has fs 78 f78] [Has fs 79 f79] {n : Nat} {st : Sto}
theorem run_laterBy {P : Pg} (hP : ∀ p ∈ P, isF p.2 = true) (hl : P.length ≤ 1000) : callF fs GG (n + 3) 79 [.d (.tuple (P.map pr))] st = .ok (.d (.list ((laterL P).map nl))) st := by
  rw [callF_of rfl]
  have hc : ∀ p ∈ P, ∀ s : Sto, ev (callF fs GG (n + 2)) GG f79_c0 [some (.d (.tuple (P.map pr))), some (.r st.length), some (.d (pr p)), none, none] s = .ok (.d (nl (laterI P p))) s := fun p hp s => by
    have hL : listD (.tuple (P.map pr)) = some (P.map pr) := rfl
    simp only [f79_c0, ev_lc, evI_en, ev_var, List.getElem?_cons_zero, Res.bind_ok, val_d, hL, Option.map_some, enum_map, ofO_some, compL_map]
    rw [compL_filt (p := fun q => folB p q.1) (g := fun q => PyData.int (q.2 : Nat))]
    · simp [laterI, Function.comp_def]
    · intro q hq
      have r1 := fun s => run_follow (fs := fs) (n := n) (st := s) p q.1 (hP p hp)
      cases hf : folB p q.1 <;> simp [r1, hf]
  have e : ex (callF fs GG (n + 2)) GG f79_l0 [some (.d (.tuple (P.map pr))), some (.r st.length), none, none, none] (st ++ [.lst []]) = .ok (.nx [some (.d (.tuple (P.map pr))), some (.r st.length), none, none, none]) (st ++ [.lst ((laterL P).map nl)]) := by
    simp only [f79_l0, ex_fori, evI_e, ev_var, List.getElem?_cons_zero, Res.bind_ok, val_d, seq_t, ofO_some, forL_map]
    refine forL_go (fun _ => [some (.d (.tuple (P.map pr))), some (.r st.length), none, none, none]) (fun s : List (List Nat) => st ++ [.lst (s.map nl)]) (fun d s => s = d.map (laterI P)) [] rfl rfl rfl (fun d p s hd hs => ?_) fun s hs => by rw [hs]; rfl
    obtain ⟨r, hr⟩ := hd
    have hp : p ∈ P := by rw [hr]; simp
    have hlen : s.length < LIM := by
      rw [hs, List.length_map]
      have := congrArg List.length hr
      simp only [List.length_append, List.length_cons] at this
      unfold LIM
      omega
    refine ⟨s ++ [laterI P p], ?_, by rw [hs]; simp⟩
    simp [f79_b0, hc p hp, lstAt, atVar, change, appSlot, hlen]
  simp [f79, startE, e, freshE, newOb, Ob.tree]
end
/-- number 80: calm -/
def f80_c0 : TB.E := .lc (.cmp .In (.var 6) (.var 2)) (.nm 6) (.e (.idx (.var 1) (.var 5))) [6] .no
def f80_a0 : TB.E := .bi .any (.cons f80_c0 .nil)
def f80_c1 : TB.E := .lc (.var 5) (.nm 5) (.e (.var 2)) [5] (.yes f80_a0)
def f80_b0 : TB.Ss := (.cons (.asg 4 f80_c1 false) (.cons (.asg 3 (.cmp .Lt (.bi .len (.cons (.var 4) .nil)) (.bi .len (.cons (.var 2) .nil))) false) (.cons (.asg 2 (.var 4) false) .nil)))
def f80_l0 : TB.S := .whil (.var 3) f80_b0 [4] true
def f80 : TB.Fn := ⟨1, 7, (.cons (.asg 1 (.call 79 (.cons (.var 0) .nil)) false) (.cons (.asg 2 (.lof (.r1 (.bi .len (.cons (.var 0) .nil)))) false) (.cons (.asg 3 (.cn (.bool true)) false) (.cons f80_l0 (.cons (.ret (.cmp .Eq (.var 2) (.lst .nil))) .nil)))))⟩
section
variable {fs : Tbl} [Has fs 13 f13] [Has fs 78 f78] [Has fs 79 f79] [Has fs 80 f80] {n : Nat} {st : Sto}
abbrev il (S : List Nat) : D := .list (S.map fun (k : Nat) => PyData.int k)
theorem mem_nl (j : Nat) (S : List Nat) : memD (.int j) (il S) = some (decide (j ∈ S)) := by
  have h := memL (e := PyData.int) (k := 0) (by decide) (j : Int) (S.map fun k : Nat => (k : Int))
  rw [List.map_map] at h
  have e : (PyData.int ∘ fun k : Nat => (k : Int)) = fun k : Nat => PyData.int k := rfl
  rw [e] at h
  rw [h]
  congr 1
  rw [decide_eq_decide, List.mem_map]
  exact ⟨fun ⟨a, ha, e⟩ => by
    have : a = j := by omega
    rwa [← this], fun ha => ⟨j, ha, rfl⟩⟩
theorem getD_nl {L : List (List Nat)} {i : Nat} (h : i < L.length) : TB.getD (.list (L.map nl)) (.int i) = some (nl (L.getD i [])) := by
  show ((placeOf (L.map nl).length (i : Int)).bind fun j => (L.map nl)[j]?) = _
  have : placeOf (L.map nl).length (i : Int) = some i := by
    unfold placeOf
    rw [if_pos (by omega), if_pos (by rw [List.length_map]; omega)]
    simp
  rw [this, Option.bind_some, List.getElem?_map, List.getElem?_eq_getElem h, List.getD_eq_getElem?_getD, List.getElem?_eq_getElem h]
  rfl
theorem calmR_c1 {P : Pg} {S : List Nat} (hS : ∀ i ∈ S, i < P.length) (x0 x3 x4 : Option W) : ev (callF fs GG (n + 3)) GG f80_c1 [x0, some (.d (.list ((laterL P).map nl))), some (.d (il S)), x3, x4, none, none] st = .ok (.d (il (trimS (leadB P) S))) st := by
  simp only [f80_c1, ev_lc, evI_e, ev_var, List.getElem?_cons_succ, List.getElem?_cons_zero, Res.bind_ok, val_d, seq_l, ofO_some, compL_map]
  rw [compL_filt (p := fun i => S.any fun j => leadB P i j) (g := fun (i : Nat) => PyData.int i)]
  · rfl
  · intro i hi
    have hg : TB.getD (.list ((laterL P).map nl)) (.int i) = some (nl ((laterL P).getD i [])) := getD_nl (by unfold laterL; rw [List.length_map]; exact hS i hi)
    have hb : (S.any fun j => leadB P i j) = (((laterL P).getD i []).any fun j => decide (j ∈ S)) := by
      rw [Bool.eq_iff_iff]
      simp only [List.any_eq_true, leadB, decide_eq_true_eq]
      exact ⟨fun ⟨j, a, b⟩ => ⟨j, b, a⟩, fun ⟨j, a, b⟩ => ⟨j, b, a⟩⟩
    have hc0 : ev (callF fs GG (n + 3)) GG f80_c0 [x0, some (.d (.list ((laterL P).map nl))), some (.d (il S)), x3, x4, some (.d (.int i)), none] st = .ok (.d (.list (((laterL P).getD i []).map fun j => .bool (decide (j ∈ S))))) st := by
      generalize (laterL P).getD i [] = Q at *
      simp only [f80_c0, ev_lc, evI_e, ev_idx, ev_var, List.getElem?_cons_succ, List.getElem?_cons_zero, Res.bind_ok, val_d, peek_d, Option.bind_some, hg, Option.map_some, seq_l, ofO_some, compL_map]
      rw [compL_all (g := fun (j : Nat) => .bool (decide (j ∈ S)))]
      · rfl
      · intro j hj
        have := mem_nl j S
        simp [this]
    have ha : ev (callF fs GG (n + 3)) GG f80_a0 [x0, some (.d (.list ((laterL P).map nl))), some (.d (il S)), x3, x4, some (.d (.int i)), none] st = .ok (.d (.bool (S.any fun j => leadB P i j))) st := by
      rw [hb]
      simp [f80_a0, hc0]
    cases hq : S.any fun j => leadB P i j <;> rw [hq] at ha <;> simp [ha]
theorem run_calm {P : Pg} (hP : ∀ p ∈ P, isF p.2 = true) (hl : P.length ≤ 1000) : callF fs GG (n + 4) 80 [.d (.tuple (P.map pr))] st = .ok (.d (.bool (calmB P))) st := by
  rw [callF_of rfl]
  have r1 := fun s => run_laterBy (fs := fs) (n := n) (st := s) hP hl
  have e : ∃ s : List Nat × Bool, ex (callF fs GG (n + 3)) GG f80_l0 [some (.d (.tuple (P.map pr))), some (.d (.list ((laterL P).map nl))), some (.d (il (List.range P.length))), some (.d (.bool true)), none, none, none] st =
      .ok (.nx [some (.d (.tuple (P.map pr))), some (.d (.list ((laterL P).map nl))), some (.d (il s.1)), some (.d (.bool s.2)), none, none, none]) st ∧ (s.1 = [] ↔ NoRound (leadB P) (List.range P.length)) := by
    rw [f80_l0, ex_whil]
    refine whileL_go (fun s : List Nat × Bool => [some (.d (.tuple (P.map pr))), some (.d (.list ((laterL P).map nl))), some (.d (il s.1)), some (.d (.bool s.2)), none, none, none]) (fun _ => st)
      (fun s => Trims (leadB P) (List.range P.length) s.1 ∧ (s.2 = false → ∀ x ∈ s.1, ∃ y ∈ s.1, leadB P x y = true)) (fun s => s.1 = [] ↔ NoRound (leadB P) (List.range P.length)) (fun s => s.1.length + s.2.toNat) (fun s hs => ?_) FUEL (List.range P.length, true) ⟨Trims.all _ _, fun z => (by cases z)⟩ (by unfold FUEL; simp; omega)
    obtain ⟨S, g⟩ := s
    obtain ⟨t, hg⟩ := hs
    simp only at t hg
    cases g with
    | false => exact ⟨false, by simp [evT], fun z => (by cases z), fun _ => t.end (hg rfl)⟩
    | true =>
      refine ⟨true, by simp [evT], fun _ => ?_, fun z => (by cases z)⟩
      have hS : ∀ i ∈ S, i < P.length := fun i hi => List.mem_range.mp (t.1 i hi)
      have c1 := calmR_c1 (fs := fs) (n := n) (st := st) hS (some (.d (.tuple (P.map pr)))) (some (.d (.bool true))) none
      have hle := trim_le (leadB P) S
      by_cases q : (trimS (leadB P) S).length < S.length
      · refine ⟨(trimS (leadB P) S, true), ?_, ⟨t.next, fun z => (by cases z)⟩, by simp; omega⟩
        have q' : ((trimS (leadB P) S).length : Int) < S.length := by omega
        simp [f80_b0, c1, q']
      · refine ⟨(trimS (leadB P) S, false), ?_, ⟨t.next, fun _ x hx => ?_⟩, by simp; omega⟩
        · have q' : ¬ ((trimS (leadB P) S).length : Int) < S.length := by omega
          simp [f80_b0, c1, q']
        · have h1 := trim_same q
          obtain ⟨y, hy, r⟩ := h1 x (List.mem_filter.mp hx).1
          exact ⟨y, trim_keeps (T := S) (fun _ h => h) h1 y hy, r⟩
  obtain ⟨⟨S, g⟩, e, hS⟩ := e
  have hs : smallB (P.length : Nat) = true := by
    simp [smallB]
    omega
  have hb : cmpD .Eq (il S) (.list []) = some (calmB P) := by
    have h1 : (S = [] ↔ NoRound folB P) := hS.trans (noRound_places P)
    have h2 : calmB P = decide (S = []) := by
      by_cases q : S = []
      · rw [decide_eq_true q]
        exact calmB_iff.mpr (h1.mp q)
      · rw [decide_eq_false q, ← Bool.not_eq_true, calmB_iff]
        exact fun z => q (h1.mpr z)
    rw [h2]
    cases S with
    | nil => exact eq_ll
    | cons i S =>
      have hx := eq_il ((i :: S).map fun k : Nat => (k : Int)) []
      simp only [List.map_map, List.map_nil] at hx
      have e : (PyData.int ∘ fun k : Nat => (k : Int)) = fun k : Nat => PyData.int k := rfl
      rw [e] at hx
      rw [hx]
      simp
  simp [f80, startE, r1, hs, e, hb]
end
/-- number 62: is_pairing -/
def f62 : TB.Fn := ⟨2, 2, (.cons (.exprX 24 (.cons (.var 0) .nil)) (.cons (.ret (.call 59 (.cons (.var 0) (.cons (.var 1) .nil)))) .nil))⟩
section
variable {fs : Tbl} [Has fs 2 f2] [Has fs 0 f0] [Has fs 1 f1] [Has fs 3 f3] [Has fs 13 f13] [Has fs 14 f14] [Has fs 24 f24] [Has fs 58 f58] [Has fs 57 f57] [Has fs 59 f59] [Has fs 62 f62] {n : Nat} {st : Sto}
theorem run_isPairing {B : Bk} {P : Pg} (h : IsBk B) (hp : IsPg B P) : callF fs GG (n + 6) 62 [.d (.tuple (B.map fc)), .d (.tuple (P.map pr))] st = .ok (.d (.bool true)) st := by
  rw [callF_of rfl]
  have hl : 2 * P.length ≤ B.length := hp.few h.toIsCl
  have h6 := h.few
  have r1 := fun s => run_needB (fs := fs) (n := n) (st := s) h
  have r2 := fun s => run_apairing (fs := fs) (n := n) (st := s) B (.tuple (P.map pr)) (fun xs e => by cases e; rw [List.length_map]; omega)
  simp [f62, startE, r1, r2, pairingB_of hp]
end
/-- number 82: is_calm -/
def f82 : TB.Fn := ⟨2, 2, (.cons (.exprX 60 (.cons (.var 0) (.cons (.var 1) .nil))) (.cons (.ret (.call 80 (.cons (.var 1) .nil))) .nil))⟩
section
variable {fs : Tbl} [Has fs 2 f2] [Has fs 0 f0] [Has fs 1 f1] [Has fs 3 f3] [Has fs 13 f13] [Has fs 14 f14] [Has fs 24 f24] [Has fs 58 f58] [Has fs 57 f57] [Has fs 59 f59] [Has fs 60 f60] [Has fs 78 f78] [Has fs 79 f79] [Has fs 80 f80] [Has fs 82 f82] {n : Nat} {st : Sto}
theorem run_isCalm {B : Bk} {P : Pg} (h : IsBk B) (hp : IsPg B P) : callF fs GG (n + 7) 82 [.d (.tuple (B.map fc)), .d (.tuple (P.map pr))] st = .ok (.d (.bool (calmB P))) st := by
  rw [callF_of rfl]
  have hl : 2 * P.length ≤ B.length := hp.few h.toIsCl
  have h6 := h.few
  have r1 := fun s => run_needPg (fs := fs) (n := n) (st := s) h hp
  have r2 := fun s => run_calm (fs := fs) (n := n + 2) (st := s) (P := P) (fun p hp2 => (hp.pair p hp2).2.1) (by omega)
  simp [f82, startE, r1, r2]
end
end TB
set_option maxRecDepth 100000
set_option maxHeartbeats 2000000
namespace TB
open PySem PySem.W
/-! K32: takings are calm pairings. -/
theorem ne_bk (L M : Bk) : cmpD .NotEq (.tuple (L.map fc)) (.tuple (M.map fc)) = some (!decide (L = M)) := by simp
/-- number 103: is_taking -/
def f103 : TB.Fn := ⟨2, 2, (.cons (.exprX 24 (.cons (.var 0) .nil)) (.cons (.ret (.cmp .IsNot (.call 102 (.cons (.var 0) (.cons (.var 1) .nil))) (.cn .none))) .nil))⟩
section
variable {fs : Tbl} [Has fs 2 f2] [Has fs 0 f0] [Has fs 1 f1] [Has fs 3 f3] [Has fs 13 f13] [Has fs 14 f14] [Has fs 24 f24] [Has fs 98 f98] [Has fs 57 f57] [Has fs 23 f23] [Has fs 97 f97] [Has fs 100 f100] [Has fs 102 f102] [Has fs 103 f103] {n : Nat} {st : Sto}
theorem run_isTaking {B : Bk} {L : Pg} (h : IsBk B) (t : Takes B L) : callF fs GG (n + 7) 103 [.d (.tuple (B.map fc)), .d (.tuple (L.map pr))] st = .ok (.d (.bool true)) st := by
  rw [callF_of rfl]
  have r1 := fun s => run_needB (fs := fs) (n := n + 1) (st := s) h
  have r2 := fun s => run_goneDown (fs := fs) (n := n) (st := s) h t
  have e : cmpD .IsNot (.tuple ((downB B L).map fc)) .none = some true := rfl
  simp [f103, startE, r1, r2, e]
end
/-- number 101: taken -/
def f101 : TB.Fn := ⟨2, 2, (.cons (.exprX 24 (.cons (.var 0) .nil)) (.cons (.ife (.not (.call 100 (.cons (.var 0) (.cons (.var 1) .nil)))) (.cons (.rais 6 .nil) .nil) .nil) (.cons (.ret (.call 98 (.cons (.var 0) (.cons (.var 1) .nil)))) .nil)))⟩
section
variable {fs : Tbl} [Has fs 2 f2] [Has fs 0 f0] [Has fs 1 f1] [Has fs 3 f3] [Has fs 13 f13] [Has fs 14 f14] [Has fs 24 f24] [Has fs 98 f98] [Has fs 57 f57] [Has fs 23 f23] [Has fs 97 f97] [Has fs 100 f100] [Has fs 101 f101] {n : Nat} {st : Sto}
theorem run_taken1 {B : Bk} (h : IsBk B) {p : Face × Face} (hp : p ∈ freeB B) : callF fs GG (n + 6) 101 [.d (.tuple (B.map fc)), .d (pr p)] st = .ok (.d (.tuple ((lessB B p).map fc))) st := by
  rw [callF_of rfl]
  have r1 := fun s => run_isFree (fs := fs) (n := n) (st := s) h hp
  have r2 := fun s => run_less (fs := fs) (n := n + 4) (st := s) B p
  have r3 := fun s => run_needB (fs := fs) (n := n) (st := s) h
  simp [f101, startE, r1, r2, r3]
end
/-- number 160: law -/
def f160_b2 : TB.Ss := (.cons (.ife (.cmp .NotIn (.var 8) (.fz (.call 99 (.cons (.var 7) .nil)))) (.cons (.ret (.cn (.bool false))) .nil) .nil) (.cons (.asg 7 (.call 101 (.cons (.var 7) (.cons (.var 8) .nil))) false) .nil))
def f160_l2 : TB.S := .fori (.nm 8) (.e (.var 5)) f160_b2 [8] true
def f160_b1 : TB.Ss := (.cons (.asg 6 (.bi .tuple (.cons (.bi .sorted (.cons (.var 5) .nil)) .nil)) false) (.cons (.ife (.or (.not (.call 103 (.cons (.var 4) (.cons (.var 5) .nil)))) (.or (.not (.call 62 (.cons (.var 4) (.cons (.var 6) .nil)))) (.not (.call 82 (.cons (.var 4) (.cons (.var 6) .nil)))))) (.cons (.ret (.cn (.bool false))) .nil) .nil) (.cons (.asg 7 (.var 4) false) (.cons f160_l2 (.cons (.ife (.or (.cmp .NotEq (.call 104 (.cons (.var 4) (.cons (.var 5) .nil))) (.var 7)) (.cmp .NotEq (.fz (.call 63 (.cons (.var 4) (.cons (.var 6) .nil)))) (.bi .list (.cons (.var 7) .nil)))) (.cons (.ret (.cn (.bool false))) .nil) .nil) .nil)))))
def f160_l1 : TB.S := .fori (.nm 5) (.e (.lst (.cons (.call 154 (.cons (.var 2) (.cons (.var 4) (.cons (.var 3) .nil)))) (.cons (.call 105 (.cons (.var 4) .nil)) .nil)))) f160_b1 [5, 6, 7, 8] true
def f160_b0 : TB.Ss := (.cons (.asg 2 (.call 7 (.cons (.var 1) .nil)) true) (.cons (.asg 3 (.idx (.lst (.cons (.cn (.int 2)) (.cons (.cn (.int 5)) (.cons (.cn (.int 30)) .nil)))) (.call 5 (.cons (.var 2) (.cons (.cn (.int 3)) .nil)))) false) (.cons (.asg 4 (.call 21 (.cons (.var 2) .nil)) false) (.cons f160_l1 (.cons (.ife (.cmp .NotEq (.fz (.call 99 (.cons (.call 104 (.cons (.var 4) (.cons (.call 105 (.cons (.var 4) .nil)) .nil))) .nil))) (.lst .nil)) (.cons (.ret (.cn (.bool false))) .nil) .nil) .nil)))))
def f160_l0 : TB.S := .fori (.nm 1) (.e (.bin .Add (.lst (.cons (.call 6 (.cons (.var 0) (.cons (.cn (.int 0)) .nil))) .nil)) (.slc (.var 0) (.yes (.cn (.int 1))) (.yes (.cn (.int 3)))))) f160_b0 [1, 2, 3, 4, 5, 6, 7, 8] true
def f160 : TB.Fn := ⟨1, 9, (.cons f160_l0 (.cons (.ret (.cn (.bool true))) .nil))⟩
section
variable {fs : Tbl} [Has fs 7 f7] [Has fs 20 f20] [Has fs 5 f5] [Has fs 19 f19] [Has fs 21 f21] [Has fs 6 f6] [Has fs 17 f17] [Has fs 32 f32] [Has fs 117 f117] [Has fs 150 f150] [Has fs 154 f154] [Has fs 2 f2] [Has fs 0 f0] [Has fs 1 f1] [Has fs 3 f3] [Has fs 13 f13] [Has fs 14 f14] [Has fs 24 f24] [Has fs 23 f23] [Has fs 97 f97] [Has fs 98 f98] [Has fs 105 f105] [Has fs 99 f99] [Has fs 57 f57] [Has fs 100 f100] [Has fs 101 f101] [Has fs 102 f102] [Has fs 104 f104] [Has fs 103 f103] [Has fs 58 f58] [Has fs 59 f59] [Has fs 62 f62] [Has fs 60 f60] [Has fs 78 f78] [Has fs 79 f79] [Has fs 80 f80] [Has fs 82 f82] [Has fs 61 f61] [Has fs 63 f63] [Has fs 160 f160] {n : Nat} {st : Sto}
theorem k32_l2 {B : Bk} {L : Pg} (h : IsBk B) (t : Takes B L) (x0 x1 x3 x6 : D) (P : Pen) : ex (callF fs GG (n + 8)) GG f160_l2 [some (.d x0), some (.d x1), some (.r 0), some (.d x3), some (.d (.tuple (B.map fc))), some (.d (.tuple (L.map pr))), some (.d x6), some (.d (.tuple (B.map fc))), none] [penO P] =
    .ok (.nx [some (.d x0), some (.d x1), some (.r 0), some (.d x3), some (.d (.tuple (B.map fc))), some (.d (.tuple (L.map pr))), some (.d x6), some (.d (.tuple ((downB B L).map fc))), none]) [penO P] := by
  simp only [f160_l2, ex_fori, evI_e, ev_var, List.getElem?_cons_succ, List.getElem?_cons_zero, Res.bind_ok, val_d, seq_t, ofO_some, forL_map]
  refine forL_go (fun C : Bk => [some (.d x0), some (.d x1), some (.r 0), some (.d x3), some (.d (.tuple (B.map fc))), some (.d (.tuple (L.map pr))), some (.d x6), some (.d (.tuple (C.map fc))), none]) (fun _ => [penO P]) (fun d C => C = downB B d) B rfl rfl rfl ?_ (fun C hC => by rw [hC])
  rintro d p C ⟨r, hr⟩ rfl
  rw [hr] at t
  obtain ⟨t1, hp⟩ := t.pre
  have hb := down_bk h t1
  have r1 := fun s => run_freePairs (fs := fs) (n := n + 2) (st := s) hb
  have r2 := fun s => run_taken1 (fs := fs) (n := n + 2) (st := s) hb hp
  refine ⟨lessB (downB B d) p, ?_, (down_snoc B d p).symm⟩
  generalize hF : freeB (downB B d) = F at *
  simp [f160_b2, r1, r2, hp, Ob.tree]
theorem k32_b1 {B : Bk} {L : Pg} (h : IsBk B) (t : Takes B L) (x0 x1 x3 : D) (P : Pen) : ∃ d6 d7, exs (callF fs GG (n + 8)) GG f160_b1 [some (.d x0), some (.d x1), some (.r 0), some (.d x3), some (.d (.tuple (B.map fc))), some (.d (.tuple (L.map pr))), none, none, none] [penO P] =
    .ok (.nx [some (.d x0), some (.d x1), some (.r 0), some (.d x3), some (.d (.tuple (B.map fc))), some (.d (.tuple (L.map pr))), some (.d d6), some (.d d7), none]) [penO P] := by
  have hp := t.pg h
  have hl : 2 * (srtP L).length ≤ B.length := hp.few h.toIsCl
  have h6 := h.few
  have e1 : sortedD (L.map pr) = some (.list ((srtP L).map pr)) := sorted_pr (by rw [srtP_len] at hl; unfold LIM; omega)
  have r1 := fun s => run_isTaking (fs := fs) (n := n + 1) (st := s) h t
  have r2 := fun s => run_isPairing (fs := fs) (n := n + 2) (st := s) h hp
  have r3 := fun s => run_isCalm (fs := fs) (n := n + 1) (st := s) h hp
  have cm : calmB (srtP L) = true := calmB_iff.mpr (calm_srt t.calm)
  rw [cm] at r3
  have r4 := k32_l2 (fs := fs) (n := n) h t x0 x1 x3 (.tuple ((srtP L).map pr)) P
  have r5 := fun s => run_takenDown (fs := fs) (n := n + 1) (st := s) h t
  have r6 := fun s => run_left (fs := fs) (n := n + 1) (st := s) h hp
  have el : leftB B (srtP L) = downB B L := (left_perm fun p => mem_srtP).trans (left_down L B)
  rw [el] at r6
  refine ⟨.tuple ((srtP L).map pr), .tuple ((downB B L).map fc), ?_⟩
  generalize srtP L = S at *
  generalize downB B L = Z at *
  simp [f160_b1, e1, r1, r2, r3, r4, r5, r6, Ob.tree]
theorem k32_l1 {B : Bk} (h : IsBk B) (m : Nat) (hm : m ≤ 100) (x0 x1 : D) (P : Pen) :
    ∃ P', ex (callF fs GG (n + 8)) GG f160_l1 [some (.d x0), some (.d x1), some (.r 0), some (.d (.int m)), some (.d (.tuple (B.map fc))), none, none, none, none] [penO P] =
      .ok (.nx [some (.d x0), some (.d x1), some (.r 0), some (.d (.int m)), some (.d (.tuple (B.map fc))), none, none, none, none]) [penO P'] := by
  obtain ⟨L1, P1, t1, r1⟩ := run_ldown (fs := fs) (n := n + 4) (st := [penO P]) (a := 0) h rfl hm
  have r3 := fun s => run_first (fs := fs) (n := n + 2) (st := s) h
  have t3 : Takes B (takeN 60 B) := takeN_takes 60
  refine ⟨P1, ?_⟩
  rw [f160_l1, ex_fori]
  refine bind_go (a := ([L1, takeN 60 B] : List Pg).map fun L => .tuple (L.map pr)) (s := [penO P1]) ?_ ?_
  · simp only [List.set_cons_zero] at r1
    simp [r1, r3]
  · rw [forL_map]
    refine forL_stay fun L hL => ?_
    have t : Takes B L := by
      simp only [List.mem_cons, List.not_mem_nil, or_false] at hL
      rcases hL with rfl | rfl
      · exact t1
      · exact t3
    obtain ⟨d6, d7, e⟩ := k32_b1 (fs := fs) (n := n) h t x0 x1 (.int m) P1
    simp [e]
theorem k32_says : TB.Says fs GG 20 160 63 := by
  intro ns hns
  have hl : ex (callF fs GG 19) GG f160_l0 [some (.d (.list (ns.map .int))), none, none, none, none, none, none, none, none] [] = .ok (.nx [some (.d (.list (ns.map .int))), none, none, none, none, none, none, none, none]) [] := by
    simp only [f160_l0, ex_fori, evI_cells (fs := fs) (n := 18) ns hns, Res.bind_ok, forL_map]
    refine forL_stay fun c hc => ?_
    have r1 := run_pen (fs := fs) (n := 18) (st := []) c
    have r2 := run_draw (fs := fs) (n := 18) (st := [penO (penOf c)]) (a := 0) (m := 3) rfl (by decide) (by decide)
    obtain ⟨o, ho, go⟩ := get_drawn (L := [.int 2, .int 5, .int 30]) (P := penOf c) (by decide)
    obtain ⟨m, hm, rfl⟩ : ∃ m : Nat, m ≤ 100 ∧ o = .int m := by
      simp only [List.mem_cons, List.not_mem_nil, or_false] at ho
      rcases ho with rfl | rfl | rfl
      · exact ⟨2, by decide, rfl⟩
      · exact ⟨5, by decide, rfl⟩
      · exact ⟨30, by decide, rfl⟩
    obtain ⟨B, Q, hB, r3⟩ := run_lblock (fs := fs) (n := 17) (st := [penO (drawP (penOf c) 3)]) (a := 0) rfl
    obtain ⟨P', e⟩ := k32_l1 (fs := fs) (n := 11) hB m hm (.list (ns.map .int)) (.int c) Q
    have t3 : Takes B (takeN 60 B) := takeN_takes 60
    have hD := down_bk hB t3
    have ef : freeB (downB B (takeN 60 B)) = [] := takeN_end 60 hB hB.few
    have r4 := fun s => run_first (fs := fs) (n := 13) (st := s) hB
    have r5 := fun s => run_takenDown (fs := fs) (n := 12) (st := s) hB t3
    have r6 := fun s => run_freePairs (fs := fs) (n := 13) (st := s) hD
    rw [ef] at r6
    have go' : (placeOf 3 (drawV (penOf c) 3)).bind (fun x => Option.map W.d (([.int 2, .int 5, .int 30] : List D)[x]?)) = some (W.d (.int m)) := by
      have := congrArg (Option.map W.d) go
      have e : TB.getD (.list [.int 2, .int 5, .int 30]) (.int (drawV (penOf c) (([.int 2, .int 5, .int 30] : List D).length : Nat))) = (placeOf 3 (drawV (penOf c) 3)).bind fun x => ([.int 2, .int 5, .int 30] : List D)[x]? := rfl
      rw [e, Option.map_bind] at this
      exact this
    simp [f160_b0, r1, r2, r3, r4, r5, r6, go', e, Ob.tree, ne_ll]
  refine ⟨[], ?_⟩
  rw [show (20 : Nat) = 19 + 1 from rfl, callF_of rfl]
  simp [f160, startE, hl]
end
end TB
namespace L
open PySem PySem.Spec PyProof.Rows L2
def tb : TB.Tb := [((0, TB.f0, ([("thing" : PySem.Str)] : List PySem.Str)) : Nat × TB.Fn × List PySem.Str), ((1, TB.f1, ([("thing" : PySem.Str), ("least" : PySem.Str), ("most" : PySem.Str)] : List PySem.Str)) : Nat × TB.Fn × List PySem.Str), ((2, TB.f2, ([("some" : PySem.Str), ("one" : PySem.Str), ("other" : PySem.Str)] : List PySem.Str)) : Nat × TB.Fn × List PySem.Str), ((3, TB.f3, ([("thing" : PySem.Str), ("point" : PySem.Str)] : List PySem.Str)) : Nat × TB.Fn × List PySem.Str), ((13, TB.f13, ([("face" : PySem.Str), ("k" : PySem.Str)] : List PySem.Str)) : Nat × TB.Fn × List PySem.Str), ((14, TB.f14, ([("thing" : PySem.Str), ("known" : PySem.Str), ("face" : PySem.Str), ("one" : PySem.Str), ("rim" : PySem.Str)] : List PySem.Str)) : Nat × TB.Fn × List PySem.Str), ((23, TB.f23, ([("block" : PySem.Str), ("found" : PySem.Str), ("face" : PySem.Str), ("rim" : PySem.Str)] : List PySem.Str)) : Nat × TB.Fn × List PySem.Str), ((24, TB.f24, ([("block" : PySem.Str)] : List PySem.Str)) : Nat × TB.Fn × List PySem.Str), ((57, TB.f57, ([("block" : PySem.Str), ("thing" : PySem.Str), ("one" : PySem.Str)] : List PySem.Str)) : Nat × TB.Fn × List PySem.Str), ((59, TB.f59, ([("block" : PySem.Str), ("thing" : PySem.Str), ("one" : PySem.Str)] : List PySem.Str)) : Nat × TB.Fn × List PySem.Str), ((58, TB.f58, ([("pairing" : PySem.Str), ("found" : PySem.Str), ("low" : PySem.Str), ("high" : PySem.Str)] : List PySem.Str)) : Nat × TB.Fn × List PySem.Str), ((60, TB.f60, ([("block" : PySem.Str), ("pairing" : PySem.Str)] : List PySem.Str)) : Nat × TB.Fn × List PySem.Str), ((61, TB.f61, ([("block" : PySem.Str), ("pairing" : PySem.Str), ("held" : PySem.Str), ("face" : PySem.Str)] : List PySem.Str)) : Nat × TB.Fn × List PySem.Str), ((62, TB.f62, ([("block" : PySem.Str), ("thing" : PySem.Str)] : List PySem.Str)) : Nat × TB.Fn × List PySem.Str), ((63, TB.f63, ([("block" : PySem.Str), ("pairing" : PySem.Str)] : List PySem.Str)) : Nat × TB.Fn × List PySem.Str), ((97, TB.f97, ([("block" : PySem.Str), ("known" : PySem.Str), ("found" : PySem.Str), ("face" : PySem.Str)] : List PySem.Str)) : Nat × TB.Fn × List PySem.Str), ((98, TB.f98, ([("block" : PySem.Str), ("pair" : PySem.Str), ("face" : PySem.Str)] : List PySem.Str)) : Nat × TB.Fn × List PySem.Str), ((99, TB.f99, ([("block" : PySem.Str)] : List PySem.Str)) : Nat × TB.Fn × List PySem.Str), ((100, TB.f100, ([("block" : PySem.Str), ("thing" : PySem.Str)] : List PySem.Str)) : Nat × TB.Fn × List PySem.Str), ((101, TB.f101, ([("block" : PySem.Str), ("pair" : PySem.Str)] : List PySem.Str)) : Nat × TB.Fn × List PySem.Str), ((102, TB.f102, ([("block" : PySem.Str), ("thing" : PySem.Str), ("here" : PySem.Str), ("pair" : PySem.Str)] : List PySem.Str)) : Nat × TB.Fn × List PySem.Str), ((103, TB.f103, ([("block" : PySem.Str), ("thing" : PySem.Str)] : List PySem.Str)) : Nat × TB.Fn × List PySem.Str), ((104, TB.f104, ([("block" : PySem.Str), ("taking" : PySem.Str), ("found" : PySem.Str)] : List PySem.Str)) : Nat × TB.Fn × List PySem.Str), ((105, TB.f105, ([("block" : PySem.Str), ("here" : PySem.Str), ("found" : PySem.Str), ("some" : PySem.Str)] : List PySem.Str)) : Nat × TB.Fn × List PySem.Str), ((78, TB.f78, ([("pair" : PySem.Str), ("other" : PySem.Str)] : List PySem.Str)) : Nat × TB.Fn × List PySem.Str), ((79, TB.f79, ([("pairing" : PySem.Str), ("found" : PySem.Str), ("pair" : PySem.Str), ("at" : PySem.Str), ("other" : PySem.Str)] : List PySem.Str)) : Nat × TB.Fn × List PySem.Str), ((80, TB.f80, ([("pairing" : PySem.Str), ("later" : PySem.Str), ("some" : PySem.Str), ("going" : PySem.Str), ("more" : PySem.Str), ("at" : PySem.Str), ("there" : PySem.Str)] : List PySem.Str)) : Nat × TB.Fn × List PySem.Str), ((82, TB.f82, ([("block" : PySem.Str), ("pairing" : PySem.Str)] : List PySem.Str)) : Nat × TB.Fn × List PySem.Str), ((6, TB.f6, ([("_law_script" : PySem.Str), ("_law_k" : PySem.Str)] : List PySem.Str)) : Nat × TB.Fn × List PySem.Str), ((7, TB.f7, ([("_law_cell_here" : PySem.Str), ("_law_left_over" : PySem.Str)] : List PySem.Str)) : Nat × TB.Fn × List PySem.Str), ((5, TB.f5, ([("_law_pen_here" : PySem.Str), ("_law_many" : PySem.Str), ("_law_stir" : PySem.Str), ("_law_later" : PySem.Str), ("_law_found" : PySem.Str)] : List PySem.Str)) : Nat × TB.Fn × List PySem.Str), ((19, TB.f19, ([("_law_number" : PySem.Str), ("_law_some" : PySem.Str), ("_law_word" : PySem.Str), ("_law_figure" : PySem.Str)] : List PySem.Str)) : Nat × TB.Fn × List PySem.Str), ((20, TB.f20, ([("_law_some" : PySem.Str), ("_law_known_here" : PySem.Str), ("_law_face" : PySem.Str), ("_law_found" : PySem.Str), ("_law_point" : PySem.Str), ("_law_part" : PySem.Str)] : List PySem.Str)) : Nat × TB.Fn × List PySem.Str), ((21, TB.f21, ([("_law_pen_here" : PySem.Str), ("_law_way" : PySem.Str), ("_law_turn" : PySem.Str), ("_law_step" : PySem.Str), ("_law_some" : PySem.Str), ("_law_many" : PySem.Str), ("_law_k" : PySem.Str), ("_law_size" : PySem.Str), ("_law_face" : PySem.Str), ("_law_j" : PySem.Str), ("_law_point" : PySem.Str)] : List PySem.Str)) : Nat × TB.Fn × List PySem.Str), ((17, TB.f17, ([("_law_face" : PySem.Str), ("_law_k" : PySem.Str)] : List PySem.Str)) : Nat × TB.Fn × List PySem.Str), ((32, TB.f32, ([("_law_some" : PySem.Str), ("_law_found" : PySem.Str), ("_law_face" : PySem.Str), ("_law_rim" : PySem.Str)] : List PySem.Str)) : Nat × TB.Fn × List PySem.Str), ((117, TB.f117, ([("_law_some" : PySem.Str), ("_law_above_here" : PySem.Str), ("_law_face" : PySem.Str)] : List PySem.Str)) : Nat × TB.Fn × List PySem.Str), ((150, TB.f150, ([("_law_some" : PySem.Str), ("_law_pair" : PySem.Str), ("_law_face" : PySem.Str)] : List PySem.Str)) : Nat × TB.Fn × List PySem.Str), ((154, TB.f154, ([("_law_pen_here" : PySem.Str), ("_law_block_here" : PySem.Str), ("_law_most" : PySem.Str), ("_law_turn" : PySem.Str), ("_law_here" : PySem.Str), ("_law_found" : PySem.Str), ("_law_free_here" : PySem.Str), ("_law_pair" : PySem.Str)] : List PySem.Str)) : Nat × TB.Fn × List PySem.Str), ((160, TB.f160, ([("_law_script" : PySem.Str), ("_law_cell_here" : PySem.Str), ("_law_pen_here" : PySem.Str), ("_law_most" : PySem.Str), ("_law_block_here" : PySem.Str), ("_law_row" : PySem.Str), ("_law_pairing" : PySem.Str), ("_law_here" : PySem.Str), ("_law_pair" : PySem.Str)] : List PySem.Str)) : Nat × TB.Fn × List PySem.Str)]
def gp : List Nat := [0, 1, 2]
def ep : List Nat := [1, 3, 6, 7]
def LL : TB.Lams := ⟨[], false⟩
def V : TB.Wds := ⟨false, [], [], []⟩
def top (i : Nat) : PySem.Stmt := (PySem.W.OpenLaw.row PySem.Challenge.rw_pairaway_k32_whole_takings_are_calm_pair).prog.main.body.getD i (.Pass ⟨0, 0, 0, 0⟩)
def ixs : List Nat := [10, 11, 12, 13, 14, 15, 16, 17, 19, 20, 21, 22, 23, 24, 25, 27, 28, 29, 30, 31, 32, 33, 34, 35, 37, 38, 39, 40, 42, 43, 44, 45, 46, 47, 48, 49, 50, 51, 52, 53]
def ixx : List Nat := []
abbrev sts : List PySem.Stmt := ixs.map top
abbrev xts : List PySem.Stmt := ixx.map top
instance : TB.Has tb.fs 0 TB.f0 := ⟨rfl⟩
instance : TB.Has tb.fs 1 TB.f1 := ⟨rfl⟩
instance : TB.Has tb.fs 2 TB.f2 := ⟨rfl⟩
instance : TB.Has tb.fs 3 TB.f3 := ⟨rfl⟩
instance : TB.Has tb.fs 13 TB.f13 := ⟨rfl⟩
instance : TB.Has tb.fs 14 TB.f14 := ⟨rfl⟩
instance : TB.Has tb.fs 23 TB.f23 := ⟨rfl⟩
instance : TB.Has tb.fs 24 TB.f24 := ⟨rfl⟩
instance : TB.Has tb.fs 57 TB.f57 := ⟨rfl⟩
instance : TB.Has tb.fs 59 TB.f59 := ⟨rfl⟩
instance : TB.Has tb.fs 58 TB.f58 := ⟨rfl⟩
instance : TB.Has tb.fs 60 TB.f60 := ⟨rfl⟩
instance : TB.Has tb.fs 61 TB.f61 := ⟨rfl⟩
instance : TB.Has tb.fs 62 TB.f62 := ⟨rfl⟩
instance : TB.Has tb.fs 63 TB.f63 := ⟨rfl⟩
instance : TB.Has tb.fs 97 TB.f97 := ⟨rfl⟩
instance : TB.Has tb.fs 98 TB.f98 := ⟨rfl⟩
instance : TB.Has tb.fs 99 TB.f99 := ⟨rfl⟩
instance : TB.Has tb.fs 100 TB.f100 := ⟨rfl⟩
instance : TB.Has tb.fs 101 TB.f101 := ⟨rfl⟩
instance : TB.Has tb.fs 102 TB.f102 := ⟨rfl⟩
instance : TB.Has tb.fs 103 TB.f103 := ⟨rfl⟩
instance : TB.Has tb.fs 104 TB.f104 := ⟨rfl⟩
instance : TB.Has tb.fs 105 TB.f105 := ⟨rfl⟩
instance : TB.Has tb.fs 78 TB.f78 := ⟨rfl⟩
instance : TB.Has tb.fs 79 TB.f79 := ⟨rfl⟩
instance : TB.Has tb.fs 80 TB.f80 := ⟨rfl⟩
instance : TB.Has tb.fs 82 TB.f82 := ⟨rfl⟩
instance : TB.Has tb.fs 6 TB.f6 := ⟨rfl⟩
instance : TB.Has tb.fs 7 TB.f7 := ⟨rfl⟩
instance : TB.Has tb.fs 5 TB.f5 := ⟨rfl⟩
instance : TB.Has tb.fs 19 TB.f19 := ⟨rfl⟩
instance : TB.Has tb.fs 20 TB.f20 := ⟨rfl⟩
instance : TB.Has tb.fs 21 TB.f21 := ⟨rfl⟩
instance : TB.Has tb.fs 17 TB.f17 := ⟨rfl⟩
instance : TB.Has tb.fs 32 TB.f32 := ⟨rfl⟩
instance : TB.Has tb.fs 117 TB.f117 := ⟨rfl⟩
instance : TB.Has tb.fs 150 TB.f150 := ⟨rfl⟩
instance : TB.Has tb.fs 154 TB.f154 := ⟨rfl⟩
instance : TB.Has tb.fs 160 TB.f160 := ⟨rfl⟩
theorem says : TB.Says tb.fs TB.GG 20 160 63 LL.names := TB.k32_says
abbrev names : List PySem.Str := TB.namesOf (sts ++ xts)
theorem chk : TB.chkB (tb.names (sts.map TB.mkD)) (TB.glOf gp) (TB.exOf ep) LL (sts.map TB.mkD) tb = true := by decide +kernel
theorem wds : TB.wdsB V LL (xts.map TB.mkD) = true := by decide +kernel
theorem bnd : TB.BindAll ((sts ++ xts).map TB.mkD) := ⟨(fun _ _ _ _ _ _ us hl => match us, hl with | [_], _ => rfl), (fun _ _ _ _ _ _ us hl => match us, hl with | [_, _, _], _ => rfl), (fun _ _ _ _ _ _ us hl => match us, hl with | [_], _ => rfl), (fun _ _ _ _ _ _ us hl => match us, hl with | [_], _ => rfl), (fun _ _ _ _ _ _ us hl => match us, hl with | [_], _ => rfl), (fun _ _ _ _ _ _ us hl => match us, hl with | [_], _ => rfl), (fun _ _ _ _ _ _ us hl => match us, hl with | [_], _ => rfl), (fun _ _ _ _ _ _ us hl => match us, hl with | [_], _ => rfl), (fun _ _ _ _ _ _ us hl => match us, hl with | [_, _], _ => rfl), (fun _ _ _ _ _ _ us hl => match us, hl with | [_, _], _ => rfl), (fun _ _ _ _ _ _ us hl => match us, hl with | [_], _ => rfl), (fun _ _ _ _ _ _ us hl => match us, hl with | [_, _], _ => rfl), (fun _ _ _ _ _ _ us hl => match us, hl with | [_, _], _ => rfl), (fun _ _ _ _ _ _ us hl => match us, hl with | [_, _], _ => rfl), (fun _ _ _ _ _ _ us hl => match us, hl with | [_, _], _ => rfl), (fun _ _ _ _ _ _ us hl => match us, hl with | [_], _ => rfl), (fun _ _ _ _ _ _ us hl => match us, hl with | [_, _], _ => rfl), (fun _ _ _ _ _ _ us hl => match us, hl with | [_], _ => rfl), (fun _ _ _ _ _ _ us hl => match us, hl with | [_, _], _ => rfl), (fun _ _ _ _ _ _ us hl => match us, hl with | [_, _], _ => rfl), (fun _ _ _ _ _ _ us hl => match us, hl with | [_, _], _ => rfl), (fun _ _ _ _ _ _ us hl => match us, hl with | [_, _], _ => rfl), (fun _ _ _ _ _ _ us hl => match us, hl with | [_, _], _ => rfl), (fun _ _ _ _ _ _ us hl => match us, hl with | [_], _ => rfl), (fun _ _ _ _ _ _ us hl => match us, hl with | [_, _], _ => rfl), (fun _ _ _ _ _ _ us hl => match us, hl with | [_], _ => rfl), (fun _ _ _ _ _ _ us hl => match us, hl with | [_], _ => rfl), (fun _ _ _ _ _ _ us hl => match us, hl with | [_, _], _ => rfl), (fun _ _ _ _ _ _ us hl => match us, hl with | [_, _], _ => rfl), (fun _ _ _ _ _ _ us hl => match us, hl with | [_], _ => rfl), (fun _ _ _ _ _ _ us hl => match us, hl with | [_, _], _ => rfl), (fun _ _ _ _ _ _ us hl => match us, hl with | [_], _ => rfl), (fun _ _ _ _ _ _ us hl => match us, hl with | [_], _ => rfl), (fun _ _ _ _ _ _ us hl => match us, hl with | [_], _ => rfl), (fun _ _ _ _ _ _ us hl => match us, hl with | [_], _ => rfl), (fun _ _ _ _ _ _ us hl => match us, hl with | [_], _ => rfl), (fun _ _ _ _ _ _ us hl => match us, hl with | [_], _ => rfl), (fun _ _ _ _ _ _ us hl => match us, hl with | [_, _], _ => rfl), (fun _ _ _ _ _ _ us hl => match us, hl with | [_, _, _], _ => rfl), (fun _ _ _ _ _ _ us hl => match us, hl with | [_], _ => rfl), True.intro⟩
abbrev R : PySem.W.OpenRow := PySem.W.OpenLaw.row PySem.Challenge.rw_pairaway_k32_whole_takings_are_calm_pair
abbrev fa : List He.Fa := TB.faOf names gp ep LL.names
abbrev fn : List He.DefD := (sts ++ xts).map TB.mkD
abbrev tf : List He.Defn := LL.names.map fun x => (x, none)
abbrev hk : PySem.W.Hook := He.hookX 4 fa fn [] tf (TB.exB ep LL.names)
def ob (s : PySem.W.SharedT) : He.AlX := He.obsX 4 fa fn [] tf (TB.exB ep LL.names) (HandSHeadRun.getT s)
theorem ob_eq (s : PySem.W.SharedT) : ob s = hk.obs s.abs := He.obsX_eq (HandSHeadRun.getT_eq s)
def loose : List PySem.Str := [("PairError" : PySem.Str), ("NoBlock" : PySem.Str), ("NoPairing" : PySem.Str), ("NoPair" : PySem.Str), ("NoTaking" : PySem.Str), ("MOST_POINT" : PySem.Str), ("MOST_POINTS" : PySem.Str), ("MOST_FACES" : PySem.Str), ("is_whole" : PySem.Str), ("is_from" : PySem.Str), ("are_rising" : PySem.Str), ("a_face" : PySem.Str), ("rims_of" : PySem.Str), ("a_block" : PySem.Str), ("caps_by" : PySem.Str), ("need_block" : PySem.Str), ("a_pair" : PySem.Str), ("a_pairing" : PySem.Str), ("held_by" : PySem.Str), ("need_pairing" : PySem.Str), ("left_of" : PySem.Str), ("is_pairing" : PySem.Str), ("left" : PySem.Str), ("free_of" : PySem.Str), ("less" : PySem.Str), ("free_pairs" : PySem.Str), ("is_free" : PySem.Str), ("taken" : PySem.Str), ("gone_down" : PySem.Str), ("is_taking" : PySem.Str), ("taken_down" : PySem.Str), ("first_taking" : PySem.Str), ("can_follow" : PySem.Str), ("later_by" : PySem.Str), ("calm" : PySem.Str), ("is_calm" : PySem.Str), ("_law_cell" : PySem.Str), ("_law_pen" : PySem.Str), ("_law_draw" : PySem.Str), ("_law_known" : PySem.Str), ("_law_closed" : PySem.Str), ("_law_block" : PySem.Str), ("_law_rims" : PySem.Str), ("_law_above" : PySem.Str), ("_law_free" : PySem.Str), ("_law_less" : PySem.Str), ("_law_down" : PySem.Str)]
theorem run (w : World) : HandSHeadRun.RunEq R (PySem.W.view R.prog [53]) hk ob 6000 loose w := by
  intro os
  kernel_rfl
end L
open PySem PySem.W PySem.Calls PyProof.Rows
theorem PySem.Challenge.cw_pairaway_k32_whole_takings_are_calm_pair_holds : PySem.Challenge.rw_pairaway_k32_whole_takings_are_calm_pair.Holds := by
  w_on; o_law
  refine HandSHeadRun.head_any (r := OpenLaw.row PySem.Challenge.rw_pairaway_k32_whole_takings_are_calm_pair) (q := view (OpenLaw.row PySem.Challenge.rw_pairaway_k32_whole_takings_are_calm_pair).prog [53]) (H := L.hk) (ob := L.ob) (M := 6000) (loose := L.loose) (d := HandSHeadRun.topDef (OpenLaw.row PySem.Challenge.rw_pairaway_k32_whole_takings_are_calm_pair).prog 53) (kwd := []) L.ob_eq
    (by kernel_rfl) (fun s => by kernel_rfl) L.run (by kernel_rfl) (by kernel_rfl) (by kernel_rfl) (by rfl) (by first | assumption | decide +kernel) (by decide +kernel) ⟨rfl, rfl, rfl, rfl, rfl, by decide +kernel⟩ ?hw ?hc
  case hw => w_witness2
  case hc =>
    refine TB.walk_mine (l := PySem.Challenge.rw_pairaway_k32_whole_takings_are_calm_pair) (n := 63) (k := 20) (ls := L.LL.names) rfl (by decide) (by kernel_rfl) ⟨rfl, by decide, by decide⟩ ?F
    intro w mg h Y G
    obtain ⟨K, KX, c⟩ := Y
    have T := TB.tab_of KX G c L.chk L.bnd L.wds
    exact ⟨K, L.tb.fs, TB.GG, L.tb.names (L.sts.map TB.mkD), TB.glOf L.gp, TB.exOf L.ep, TB.clOf K L.ep, L.LL.wd, 160, KX, T.1, T.2, by kernel_rfl, L.says⟩
