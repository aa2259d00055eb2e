import PyProof.Rows.All
import Wide.All
import OpenK.AllK
import Wide.FinOn
import HandS.ForMost
import HandS.IsInst
import HandS.Walk
import KE.SortData
import HandS.TupAny
import HandS.Style
import HandS.Deep
import HandS.SetFor
import HandS.TupLen
import HandS.Zip
import HandS.Strs
import HandS.Flow
import HandS.Ends
import HandS.HeadEnd
import HandS.Defaults
import HandS.HeadHook1
import HandS.HeadHook2
import HandS.Head2
import HandS.Codes
import PySem.Challenge.RW_pairaway_k01_what_is_a_face
set_option Elab.async false
set_option linter.all false
set_option maxRecDepth 100000
/-! TBCore: a small syntax of expressions and statements, and a total evaluator of it over value trees with a store of changing objects. -/
namespace TB
open PySem
abbrev D := PyData
/-- no list that is made is longer -/
def LIM : Nat := 1000000
/-- a value: a tree, or a changing object by its place in the store -/
inductive W where
  | d (x : D)
  | r (a : Nat)
/-- what stands at a place of the store: a list, a dict, a dict of lists that change, a thing that changes no more -/
inductive Ob where
  | lst (xs : List D)
  | dct (kvs : List (D × D))
  | dl (kvs : List (D × List D))
  | frz (x : D)
def Ob.tree : Ob → D
  | .lst xs => .list xs
  | .dct kvs => .dict kvs
  | .dl kvs => .dict (kvs.map fun p => (p.1, .list p.2))
  | .frz x => x
abbrev Sto := List Ob
abbrev Ev := List (Option W)
inductive Res (α : Type) where
  | ok (a : α) (st : Sto)
  | exc (c : Nat) (as : List D) (st : Sto)
  | bad
def Res.bind {α β : Type} (r : Res α) (f : α → Sto → Res β) : Res β :=
  match r with
  | .ok a st => f a st
  | .exc c as st => .exc c as st
  | .bad => .bad
@[simp] theorem Res.bind_ok {α β : Type} (a : α) (st : Sto) (f : α → Sto → Res β) : Res.bind (.ok a st) f = f a st := rfl
@[simp] theorem Res.bind_exc {α β : Type} (c : Nat) (as : List D) (st : Sto) (f : α → Sto → Res β) : Res.bind (.exc c as st) f = .exc c as st := rfl
@[simp] theorem Res.bind_bad {α β : Type} (f : α → Sto → Res β) : Res.bind .bad f = .bad := rfl
def ofO {α : Type} (o : Option α) (st : Sto) : Res α :=
  match o with
  | some a => .ok a st
  | none => .bad
@[simp] theorem ofO_some {α : Type} (a : α) (st : Sto) : ofO (some a) st = .ok a st := rfl
@[simp] theorem ofO_none {α : Type} (st : Sto) : ofO (none : Option α) st = .bad := rfl
/-- the tree of a value; an object is looked at as it is -/
def peek (w : W) (st : Sto) : Option D :=
  match w with
  | .d x => some x
  | .r a => match st[a]? with
    | some (.lst xs) => some (.list xs)
    | some (.dct kvs) => some (.dict kvs)
    | some (.frz x) => some x
    | _ => none
/-- the tree of a value; an object changes no more -/
def val (w : W) (st : Sto) : Res D :=
  match w with
  | .d x => .ok x st
  | .r a => match st[a]? with
    | some ob => .ok ob.tree (st.set a (.frz ob.tree))
    | none => .bad
@[simp] theorem peek_d (x : D) (st : Sto) : peek (.d x) st = some x := rfl
@[simp] theorem val_d (x : D) (st : Sto) : val (.d x) st = .ok x st := rfl
/-! ### operations on trees -/
def mulOk (i j : Int) : Bool := (decide (-(2 ^ 64) < i) && decide (i < 2 ^ 64)) || (decide (-(2 ^ 64) < j) && decide (j < 2 ^ 64))
def powOk (i j : Int) : Bool := decide (0 ≤ j) && decide (j ≤ 1000) && decide (i.natAbs < 2 ^ 64)
def addD : D → D → Option D
  | .int i, .int j => some (.int (i + j))
  | .str x, .str y => if x.length + y.length ≤ LIM then some (.str (x ++ y)) else none
  | .tuple xs, .tuple ys => if xs.length + ys.length ≤ LIM then some (.tuple (xs ++ ys)) else none
  | .list xs, .list ys => if xs.length + ys.length ≤ LIM then some (.list (xs ++ ys)) else none
  | _, _ => none
def mulD : D → D → Option D
  | .int i, .int j => if mulOk i j then some (.int (i * j)) else none
  | _, _ => none
def intD (f : Int → Int → Option Int) : D → D → Option D
  | .int i, .int j => (f i j).map .int
  | _, _ => none
def binD (op : Operator) (x y : D) : Option D :=
  match op with
  | .Add => addD x y
  | .Sub => intD (fun i j => some (i - j)) x y
  | .Mult => mulD x y
  | .Mod => intD (fun i j => if 0 < j then some (i % j) else none) x y
  | .FloorDiv => intD (fun i j => if 0 < j ∧ j < 1073741824 then some (i / j) else none) x y
  | .Pow => intD (fun i j => if powOk i j then some (i ^ j.toNat) else none) x y
  | .LShift => intD (fun i j => if powOk i j then some (i * 2 ^ j.toNat) else none) x y
  | .RShift => intD (fun i j => if 0 ≤ j then some (i / 2 ^ j.toNat) else none) x y
  | .BitAnd => intD (fun i j => some (Builtin.bitAnd i j)) x y
  | _ => none
/-- a place among n, from the end where it is negative -/
def placeOf (n : Nat) (i : Int) : Option Nat := if 0 ≤ i then (if i < n then some i.toNat else none) else if -(n : Int) ≤ i then some (i + n).toNat else none
def keyOk : D → Bool
  | .int _ => true
  | .str _ => true
  | .tuple xs => xs.all fun x => match x with | .int _ => true | .str _ => true | _ => false
  | _ => false
def lookD (kvs : List (D × D)) (k : D) : Option D := (kvs.find? fun p => PyData.eqv p.1 k).map (·.2)
def putD (kvs : List (D × D)) (k v : D) : List (D × D) :=
  if (kvs.any fun p => PyData.eqv p.1 k) then kvs.map fun p => if PyData.eqv p.1 k then (p.1, v) else p else kvs ++ [(k, v)]
/-- keys of a dict that is served: all ints and texts, or all tuples of these -/
def flatK : D → Bool
  | .int _ => true
  | .str _ => true
  | _ => false
def tupK : D → Bool
  | .tuple xs => xs.all flatK
  | _ => false
def keysOk (kvs : List (D × D)) (k : D) : Bool := (kvs.all (fun p => flatK p.1) && flatK k) || (kvs.all (fun p => tupK p.1) && tupK k)
def getD (x y : D) : Option D :=
  match x, y with
  | .list xs, .int i => (placeOf xs.length i).bind fun j => xs[j]?
  | .tuple xs, .int i => (placeOf xs.length i).bind fun j => xs[j]?
  | .dict kvs, k => if keysOk kvs k then lookD kvs k else none
  | .str z, .int i => if z.length ≤ LIM then ((placeOf z.cps.toList.length i).bind fun j => z.cps.toList[j]?).map fun c => .str ⟨#[c]⟩ else none
  | _, _ => none
def clipD (n dflt : Nat) : Option Int → Nat
  | none => dflt
  | some v => if v < 0 then (v + (n : Int)).toNat else min v.toNat n
def cutD {α : Type} (xs : List α) (lo hi : Option Int) : List α := (xs.drop (clipD xs.length 0 lo)).take (clipD xs.length xs.length hi - clipD xs.length 0 lo)
def sliceD (x : D) (lo hi : Option Int) : Option D :=
  match x with
  | .list xs => some (.list (cutD xs lo hi))
  | .tuple xs => some (.tuple (cutD xs lo hi))
  | _ => none
def shapedB (d : D) : Bool := SeqAt.shaped d
def memD (x y : D) : Option Bool :=
  match y with
  | .list ys => if shapedB x && shapedB (.list ys) then some (ys.any fun z => PyData.eqv z x) else none
  | .tuple ys => if shapedB x && shapedB (.tuple ys) then some (ys.any fun z => PyData.eqv z x) else none
  | .dict kvs => if keysOk kvs x then some (lookD kvs x).isSome else none
  | _ => none
def ltD (x y : D) : Option Bool :=
  match x, y with
  | .int i, .int j => some (decide (i < j))
  | .str i, .str j => some (decide (i.cps.toList < j.cps.toList))
  | .tuple xs, .tuple ys => if shapedB (.tuple xs) && shapedB (.tuple ys) && PySem.W.alike (.tuple xs) (.tuple ys) then some (PySem.W.dataLt (.tuple xs) (.tuple ys)) else none
  | _, _ => none
def leD (x y : D) : Option Bool :=
  match x, y with
  | .int i, .int j => some (decide (i ≤ j))
  | _, _ => none
def isNoneD : D → Bool
  | .none => true
  | _ => false
def isB (x y : D) : Option Bool :=
  match y with
  | .none => some (isNoneD x)
  | .bool b => match x with | .bool c => some (decide (c = b)) | _ => none
  | _ => none
def cmpD (op : CmpOp) (x y : D) : Option Bool :=
  match op with
  | .Eq => if shapedB x && shapedB y then some (PyData.eqv x y) else none
  | .NotEq => if shapedB x && shapedB y then some (!PyData.eqv x y) else none
  | .Lt => ltD x y
  | .Gt => match x, y with | .int i, .int j => some (decide (j < i)) | _, _ => none
  | .LtE => leD x y
  | .GtE => match x, y with | .int i, .int j => some (decide (j ≤ i)) | _, _ => none
  | .In => memD x y
  | .NotIn => (memD x y).map (!·)
  | .Is => isB x y
  | .IsNot => (isB x y).map (!·)
/-- built-in classes that isinstance is asked of -/
inductive Ty where
  | int | bool | str | tuple | list | dict
def isTy (t : Ty) (x : D) : Bool :=
  match t, x with
  | .int, .int _ => true
  | .int, .bool _ => true
  | .bool, .bool _ => true
  | .str, .str _ => true
  | .tuple, .tuple _ => true
  | .list, .list _ => true
  | .dict, .dict _ => true
  | _, _ => false
def truthD : D → Option Bool
  | .bool b => some b
  | .none => some false
  | .int i => some (i != 0)
  | .list xs => some (!xs.isEmpty)
  | .tuple xs => some (!xs.isEmpty)
  | _ => none
def boolsD : List D → Option (List Bool)
  | [] => some []
  | .bool b :: r => (boolsD r).map (b :: ·)
  | _ :: _ => none
def intsD : List D → Option (List Int)
  | [] => some []
  | .int i :: r => (intsD r).map (i :: ·)
  | _ :: _ => none
def seqD : D → Option (List D)
  | .list xs => some xs
  | .tuple xs => some xs
  | _ => none
/-- kinds of one sort, so that they are put in order -/
def alikeAllB (xs : List D) : Bool := xs.all fun x => xs.all fun y => PySem.W.alike x y
def sortableB (xs : List D) : Bool := xs.all (fun x => match x with | .tuple (_ :: _) => true | _ => false) || xs.all (fun x => match x with | .none => false | .tuple _ => false | _ => true)
def sortD (xs : List D) : List D := xs.mergeSort (PySem.W.dataLe false id)
def sortedD (xs : List D) : Option D := if alikeAllB xs && sortableB xs && decide (xs.length ≤ LIM) && xs.all shapedB then some (.list (sortD xs)) else none
/-- whole numbers, each once, rising -/
def insU (x : Int) : List Int → List Int
  | [] => [x]
  | y :: ys => if x < y then x :: y :: ys else if x = y then y :: ys else y :: insU x ys
def setSort (ns : List Int) : List Int := ns.foldr insU []
inductive Bi where
  | len | all | any | tuple | list | sorted | max | min | sum | abs | divmod | int | str | repr | sortedset | lenset | dict | bool
def pairD : D → Option (D × D)
  | .tuple [a, b] => some (a, b)
  | _ => none
def dictD : List D → List (D × D) → Option (List (D × D))
  | [], acc => some acc
  | x :: xs, acc => (pairD x).bind fun p => if keysOk acc p.1 then dictD xs (putD acc p.1 p.2) else none
def biD (b : Bi) (vs : List D) : Option D :=
  match b, vs with
  | .len, [.list xs] => some (.int xs.length)
  | .len, [.tuple xs] => some (.int xs.length)
  | .len, [.str z] => if z.length ≤ LIM then some (.int z.length) else none
  | .len, [.dict kvs] => some (.int kvs.length)
  | .all, [.list xs] => (boolsD xs).map fun bs => .bool (bs.all id)
  | .any, [.list xs] => (boolsD xs).map fun bs => .bool (bs.any id)
  | .tuple, [.list xs] => some (.tuple xs)
  | .tuple, [.tuple xs] => some (.tuple xs)
  | .list, [.list xs] => some (.list xs)
  | .list, [.tuple xs] => some (.list xs)
  | .sorted, [.list xs] => sortedD xs
  | .sorted, [.tuple xs] => sortedD xs
  | .max, [.int i, .int j] => some (.int (if j > i then j else i))
  | .min, [.int i, .int j] => some (.int (if j < i then j else i))
  | .max, [.list xs] => (intsD xs).bind fun ns => ns.max?.map .int
  | .min, [.list xs] => (intsD xs).bind fun ns => ns.min?.map .int
  | .sum, [.list xs] => (intsD xs).map fun ns => .int ns.sum
  | .abs, [.int i] => some (.int (if i < 0 then -i else i))
  | .divmod, [.int i, .int j] => if 0 < j ∧ j < 1073741824 then some (.tuple [.int (i / j), .int (i % j)]) else none
  | .int, [.int i] => some (.int i)
  | .int, [.bool b] => some (.int (if b then 1 else 0))
  | .sortedset, [.tuple xs] => (intsD xs).bind fun ns => if ns.length < 64 then some (.list ((setSort ns).map .int)) else none
  | _, _ => none
/-! ### the syntax -/
inductive Tg where
  | nm (i : Nat)
  | tp (is : List Nat)
mutual
inductive E where
  | var (i : Nat)
  | cn (d : D)
  | glob (i : Nat)
  | tup (es : Es)
  | lst (es : Es)
  | dnew
  | bin (op : Operator) (a b : E)
  | neg (a : E)
  | not (a : E)
  | and (a b : E)
  | or (a b : E)
  | cmp (op : CmpOp) (a b : E)
  | chain (op op' : CmpOp) (a b c : E)
  | ite (c a b : E)
  | call (f : Nat) (es : Es)
  | bi (b : Bi) (es : Es)
  | isin (a : E) (t : Ty)
  | idx (o i : E)
  | slc (o : E) (a b : Oe)
  | back (o : E)
  | rep (es : Es) (k : E)
  | inG (neg : Bool) (a : E) (i : Nat)
  | lof (it : I)
  | lc (elt : E) (t : Tg) (it : I) (own : List Nat) (c : Oe)
inductive Es where
  | nil
  | cons (e : E) (es : Es)
inductive Oe where
  | no
  | yes (e : E)
inductive I where
  | e (e : E)
  | r1 (a : E)
  | r2 (a b : E)
  | r3 (a b c : E)
  | gl (i : Nat)
  | en (a : E)
  | z2 (a b : E)
end
/-! ### loops over trees -/
inductive Fl where
  | nx (σ : Ev)
  | rt (w : W)
def storeT : List Nat → List D → Ev → Option Ev
  | [], [], σ => some σ
  | i :: is, x :: xs, σ => storeT is xs (σ.set i (some (.d x)))
  | _, _, _ => none
def bindT (t : Tg) (x : D) (σ : Ev) : Option Ev :=
  match t, x with
  | .nm i, x => some (σ.set i (some (.d x)))
  | .tp is, .tuple xs => storeT is xs σ
  | _, _ => none
def compL (step : D → Sto → Res (Option D)) : List D → Sto → Res (List D)
  | [], st => .ok [] st
  | x :: xs, st => (step x st).bind fun o st1 => (compL step xs st1).bind fun ys st2 => .ok (match o with | some y => y :: ys | none => ys) st2
def forL (step : D → Ev → Sto → Res Fl) : List D → Ev → Sto → Res Fl
  | [], σ, st => .ok (.nx σ) st
  | x :: xs, σ, st => (step x σ st).bind fun f st1 => match f with
    | .nx σ1 => forL step xs σ1 st1
    | .rt w => .ok (.rt w) st1
def whileL (c : Ev → Sto → Res Bool) (b : Ev → Sto → Res Fl) : Nat → Ev → Sto → Res Fl
  | 0, _, _ => .bad
  | n + 1, σ, st => (c σ st).bind fun k st1 => if k = true then (b σ st1).bind fun f st2 => match f with
      | .nx σ1 => whileL c b n σ1 st2
      | .rt w => .ok (.rt w) st2
    else .ok (.nx σ) st1
def wipeE (σ : Ev) : List Nat → Ev
  | [] => σ
  | v :: vs => (wipeE σ vs).set v none
def rangeL (lo : Int) (c : Int) : Nat → List D
  | 0 => []
  | n + 1 => .int lo :: rangeL (lo + c) c n
def smallB (i : Int) : Bool := decide (-1000000 ≤ i) && decide (i ≤ 1000000)
def enumL (i : Nat) : List D → List D
  | [] => []
  | x :: xs => .tuple [.int i, x] :: enumL (i + 1) xs
def zipL : List D → List D → List D
  | x :: xs, y :: ys => .tuple [x, y] :: zipL xs ys
  | _, _ => []
/-- a value as a test -/
def truthW (x : W) (st : Sto) : Res Bool := ofO ((peek x st).bind truthD) st
def listD : D → Option (List D)
  | .list xs => some xs
  | _ => none
def zipD : D → D → Option (List D)
  | .list xs, .list ys => some (zipL xs ys)
  | .tuple xs, .tuple ys => some (zipL xs ys)
  | _, _ => none
section
variable (Φ : Nat → List W → Sto → Res W) (G : List D)
mutual
def ev : E → Ev → Sto → Res W
  | .var i, σ, st => match σ[i]? with
    | some (some w) => .ok w st
    | _ => .bad
  | .cn d, _, st => .ok (.d d) st
  | .glob i, _, st => match G[i]? with
    | some (.int n) => .ok (.d (.int n)) st
    | _ => .bad
  | .tup es, σ, st => (evD es σ st).bind fun xs st1 => .ok (.d (.tuple xs)) st1
  | .lst es, σ, st => (evD es σ st).bind fun xs st1 => .ok (.d (.list xs)) st1
  | .dnew, _, st => .ok (.d (.dict [])) st
  | .bin op a b, σ, st => (ev a σ st).bind fun x st1 => (ev b σ st1).bind fun y st2 => ofO ((peek x st2).bind fun d => (peek y st2).bind fun e => (binD op d e).map .d) st2
  | .neg a, σ, st => (ev a σ st).bind fun x st1 => match x with
    | .d (.int i) => .ok (.d (.int (-i))) st1
    | _ => .bad
  | .not a, σ, st => (ev a σ st).bind fun x st1 => (truthW x st1).bind fun k st2 => .ok (.d (.bool (!k))) st2
  | .and a b, σ, st => (ev a σ st).bind fun x st1 => match x with
    | .d (.bool true) => ev b σ st1
    | .d (.bool false) => .ok (.d (.bool false)) st1
    | _ => .bad
  | .or a b, σ, st => (ev a σ st).bind fun x st1 => match x with
    | .d (.bool false) => ev b σ st1
    | .d (.bool true) => .ok (.d (.bool true)) st1
    | _ => .bad
  | .cmp op a b, σ, st => (ev a σ st).bind fun x st1 => (ev b σ st1).bind fun y st2 => ofO ((peek x st2).bind fun d => (peek y st2).bind fun e => (cmpD op d e).map fun k => .d (.bool k)) st2
  | .chain op op' a b c, σ, st => (ev a σ st).bind fun x st1 => (ev b σ st1).bind fun y st2 =>
    (ofO ((peek x st2).bind fun d => (peek y st2).bind fun e => cmpD op d e) st2).bind fun k st3 => if k = true then
      (ev c σ st3).bind fun z st4 => ofO ((peek y st4).bind fun d => (peek z st4).bind fun e => (cmpD op' d e).map fun k => .d (.bool k)) st4
    else .ok (.d (.bool false)) st3
  | .ite c a b, σ, st => (ev c σ st).bind fun x st1 => (truthW x st1).bind fun k st1 => if k = true then ev a σ st1 else ev b σ st1
  | .call f es, σ, st => (evs es σ st).bind fun ws st1 => Φ f ws st1
  | .bi b es, σ, st => (evs es σ st).bind fun ws st1 => ofO ((ws.mapM fun w => peek w st1).bind fun vs => (biD b vs).map .d) st1
  | .isin a t, σ, st => (ev a σ st).bind fun x st1 => ofO ((peek x st1).map fun d => .d (.bool (isTy t d))) st1
  | .idx o i, σ, st => (ev o σ st).bind fun x st1 => (ev i σ st1).bind fun y st2 => ofO ((peek x st2).bind fun d => (peek y st2).bind fun e => (getD d e).map .d) st2
  | .slc o a b, σ, st => (ev o σ st).bind fun x st1 => (evO a σ st1).bind fun lo st2 => (evO b σ st2).bind fun hi st3 => ofO ((peek x st3).bind fun d => (sliceD d lo hi).map .d) st3
  | .back o, σ, st => (ev o σ st).bind fun x st1 => ofO ((peek x st1).bind fun d => match d with
    | .list xs => some (.d (.list xs.reverse))
    | .tuple xs => some (.d (.tuple xs.reverse))
    | _ => none) st1
  | .rep es k, σ, st => (evD es σ st).bind fun xs st1 => (ev k σ st1).bind fun y st2 => match y with
    | .d (.int n) => if xs.length * n.toNat ≤ LIM ∧ -(2 ^ 63) ≤ n ∧ n < 2 ^ 63 then .ok (.d (.list (List.replicate n.toNat xs).flatten)) st2 else .bad
    | _ => .bad
  | .inG neg a i, σ, st => (ev a σ st).bind fun x st1 => match G[i]? with
    | some (.tuple ys) => ofO ((peek x st1).bind fun d => if shapedB d && shapedB (.tuple ys) then some (.d (.bool (neg != (ys.any fun z => PyData.eqv z d)))) else none) st1
    | _ => .bad
  | .lof it, σ, st => (evI it σ st).bind fun xs st1 => .ok (.d (.list xs)) st1
  | .lc elt t it own c, σ, st => (evI it σ st).bind fun xs st1 =>
    (compL (fun x st => (ofO (bindT t x (wipeE σ own)) st).bind fun σ1 st => (evC c σ1 st).bind fun k st => if k = true then (ev elt σ1 st).bind fun w st => (val w st).bind fun d st => .ok (some d) st else .ok none st) xs st1).bind fun ys st2 => .ok (.d (.list ys)) st2
def evs : Es → Ev → Sto → Res (List W)
  | .nil, _, st => .ok [] st
  | .cons e es, σ, st => (ev e σ st).bind fun x st1 => (evs es σ st1).bind fun xs st2 => .ok (x :: xs) st2
/-- as trees -/
def evD : Es → Ev → Sto → Res (List D)
  | .nil, _, st => .ok [] st
  | .cons e es, σ, st => (ev e σ st).bind fun x st1 => (val x st1).bind fun d st2 => (evD es σ st2).bind fun xs st3 => .ok (d :: xs) st3
def evO : Oe → Ev → Sto → Res (Option Int)
  | .no, _, st => .ok none st
  | .yes e, σ, st => (ev e σ st).bind fun x st1 => match x with
    | .d (.int i) => .ok (some i) st1
    | _ => .bad
def evC : Oe → Ev → Sto → Res Bool
  | .no, _, st => .ok true st
  | .yes e, σ, st => (ev e σ st).bind fun x st1 => truthW x st1
/-- what is walked -/
def evI : I → Ev → Sto → Res (List D)
  | .e e, σ, st => (ev e σ st).bind fun x st1 => (val x st1).bind fun d st2 => ofO (seqD d) st2
  | .r1 a, σ, st => (ev a σ st).bind fun x st1 => match x with
    | .d (.int j) => if smallB j then .ok (rangeL 0 1 j.toNat) st1 else .bad
    | _ => .bad
  | .r2 a b, σ, st => (ev a σ st).bind fun x st1 => (ev b σ st1).bind fun y st2 => match x, y with
    | .d (.int i), .d (.int j) => if smallB i && smallB j then .ok (rangeL i 1 (j - i).toNat) st2 else .bad
    | _, _ => .bad
  | .r3 a b c, σ, st => (ev a σ st).bind fun x st1 => (ev b σ st1).bind fun y st2 => (ev c σ st2).bind fun z st3 => match x, y, z with
    | .d (.int i), .d (.int j), .d (.int k) => if smallB i && smallB j && decide (k = -1) then .ok (rangeL i (-1) (i - j).toNat) st3 else .bad
    | _, _, _ => .bad
  | .gl i, _, st => match G[i]? with
    | some (.tuple ys) => .ok ys st
    | _ => .bad
  | .en a, σ, st => (ev a σ st).bind fun x st1 => (val x st1).bind fun d st2 => ofO ((listD d).map (enumL 0)) st2
  | .z2 a b, σ, st => (ev a σ st).bind fun x st1 => (val x st1).bind fun d st2 => (ev b σ st2).bind fun y st3 => (val y st3).bind fun e st4 => ofO (zipD d e) st4
end
end
section
variable (Φ : Nat → List W → Sto → Res W) (G : List D)
/-- as a test -/
def evT (e : E) (σ : Ev) (st : Sto) : Res Bool := (ev Φ G e σ st).bind fun x st1 => truthW x st1
end
/-! ### statements -/
mutual
inductive S where
  | asg (i : Nat) (e : E) (m : Bool)
  | asgT (is : List Nat) (e : E)
  | asgP (is : List Nat) (es : Es)
  | ret (e : E)
  | retM (i : Nat)
  | retN (e : E)
  | ife (c : E) (a b : Ss)
  | fori (t : Tg) (it : I) (b : Ss)
  | whil (c : E) (b : Ss)
  | expr (e : E)
  | app (i : Nat) (e : E)
  | ext (i : Nat) (e : E)
  | seti (i : Nat) (k v : E)
  | rais (c : Nat) (es : Es)
  | pass
inductive Ss where
  | nil
  | cons (s : S) (r : Ss)
end
/-- a new object of a tree -/
def newOb : D → Option Ob
  | .list xs => some (.lst xs)
  | .dict kvs => some (.dct kvs)
  | _ => none
/-- an expression that makes a new object -/
def freshE : E → Bool
  | .lst _ => true
  | .dnew => true
  | .rep _ _ => true
  | .lc _ _ _ _ _ => true
  | _ => false
def FUEL : Nat := 1000000000
def setSlot (ob : Ob) (k v : D) : Option Ob :=
  match ob, k with
  | .lst xs, .int i => (placeOf xs.length i).map fun j => .lst (xs.set j v)
  | .dct kvs, k => if keysOk kvs k && decide (kvs.length < LIM) then some (.dct (putD kvs k v)) else none
  | _, _ => none
def appSlot (ob : Ob) (x : D) : Option Ob :=
  match ob with
  | .lst xs => if xs.length < LIM then some (.lst (xs ++ [x])) else none
  | _ => none
def extSlot (ob : Ob) (x : D) : Option Ob :=
  match ob, x with
  | .lst xs, .list ys => if xs.length + ys.length < LIM then some (.lst (xs ++ ys)) else none
  | _, _ => none
def atVar (σ : Ev) (i : Nat) : Option Nat := match σ[i]? with
  | some (some (.r a)) => some a
  | _ => none
def lstAt (σ : Ev) (i : Nat) (st : Sto) : Option Nat := (atVar σ i).bind fun a => match st[a]? with
  | some (.lst _) => some a
  | _ => none
def change (σ : Ev) (i : Nat) (f : Ob → Option Ob) (st : Sto) : Option Sto := (atVar σ i).bind fun a => (st[a]?).bind fun ob => (f ob).map fun ob' => st.set a ob'
section
variable (Φ : Nat → List W → Sto → Res W) (G : List D)
mutual
def ex : S → Ev → Sto → Res Fl
  | .asg i e m, σ, st => (ev Φ G e σ st).bind fun x st1 => if m = true then
      match x with
      | .d d => if freshE e = true then match newOb d with
        | some ob => .ok (.nx (σ.set i (some (.r st1.length)))) (st1 ++ [ob])
        | none => .bad
        else .bad
      | .r a => .ok (.nx (σ.set i (some (.r a)))) st1
    else (val x st1).bind fun d st2 => .ok (.nx (σ.set i (some (.d d)))) st2
  | .asgT is e, σ, st => (ev Φ G e σ st).bind fun x st1 => match x with
    | .d (.tuple xs) => ofO ((storeT is xs σ).map .nx) st1
    | _ => .bad
  | .asgP is es, σ, st => (evD Φ G es σ st).bind fun xs st1 => ofO ((storeT is xs σ).map .nx) st1
  | .ret e, σ, st => (ev Φ G e σ st).bind fun x st1 => (val x st1).bind fun d st2 => .ok (.rt (.d d)) st2
  | .retM i, σ, st => match σ[i]? with
    | some (some w) => .ok (.rt w) st
    | _ => .bad
  | .retN e, σ, st => (ev Φ G e σ st).bind fun x st1 => match x with
    | .d d => if freshE e = true then match newOb d with
      | some ob => .ok (.rt (.r st1.length)) (st1 ++ [ob])
      | none => .bad
      else .bad
    | .r a => .ok (.rt (.r a)) st1
  | .ife c a b, σ, st => (evT Φ G c σ st).bind fun k st1 => if k = true then exs a σ st1 else exs b σ st1
  | .fori t it b, σ, st => (evI Φ G it σ st).bind fun xs st1 => forL (fun x σ st => (ofO (bindT t x σ) st).bind fun σ1 st => exs b σ1 st) xs σ st1
  | .whil c b, σ, st => whileL (fun σ st => evT Φ G c σ st) (fun σ st => exs b σ st) FUEL σ st
  | .expr e, σ, st => (ev Φ G e σ st).bind fun _ st1 => .ok (.nx σ) st1
  | .app i e, σ, st => (ofO (lstAt σ i st) st).bind fun _ st => (ev Φ G e σ st).bind fun x st1 => (val x st1).bind fun d st2 => (ofO (change σ i (fun ob => appSlot ob d) st2) st2).bind fun st3 _ => .ok (.nx σ) st3
  | .ext i e, σ, st => (ofO (lstAt σ i st) st).bind fun _ st => (ev Φ G e σ st).bind fun x st1 => (val x st1).bind fun d st2 => (ofO (change σ i (fun ob => extSlot ob d) st2) st2).bind fun st3 _ => .ok (.nx σ) st3
  | .seti i k v, σ, st => (ofO (atVar σ i) st).bind fun _ st => (ev Φ G v σ st).bind fun x st1 => (val x st1).bind fun d st2 => (ev Φ G k σ st2).bind fun y st3 => (val y st3).bind fun e st4 => (ofO (change σ i (fun ob => setSlot ob e d) st4) st4).bind fun st5 _ => .ok (.nx σ) st5
  | .rais c es, σ, st => (evD Φ G es σ st).bind fun xs st1 => .exc c xs st1
  | .pass, σ, st => .ok (.nx σ) st
def exs : Ss → Ev → Sto → Res Fl
  | .nil, σ, st => .ok (.nx σ) st
  | .cons s r, σ, st => (ex s σ st).bind fun f st1 => match f with
    | .nx σ1 => exs r σ1 st1
    | .rt w => .ok (.rt w) st1
end
end
structure Fn where
  np : Nat
  nn : Nat
  body : Ss
def startE (nn : Nat) (ws : List W) : Ev := ws.map some ++ List.replicate (nn - ws.length) none
/-- what a call leaves: the objects that stood before it; a new one that is handed back stands behind them -/
def finish (n0 : Nat) (fl : Fl) (st : Sto) : Res W :=
  match fl with
  | .nx _ => .ok (.d .none) (st.take n0)
  | .rt (.d x) => .ok (.d x) (st.take n0)
  | .rt (.r a) => if a < n0 then .ok (.r a) (st.take n0) else match st[a]? with
    | some ob => .ok (.r n0) (st.take n0 ++ [ob])
    | none => .bad
def callF (fs : List Fn) (G : List D) : Nat → Nat → List W → Sto → Res W
  | 0, _, _, _ => .bad
  | n + 1, f, ws, st => match fs[f]? with
    | none => .bad
    | some fn => if ws.length = fn.np then (exs (callF fs G n) G fn.body (startE fn.nn ws) st).bind (finish st.length) else .bad
end TB
set_option maxRecDepth 100000
/-! TBRel: what a tree and a value of the machine have in common; worlds; what grows. -/
namespace TB
open PySem L2
def kD : Key → D
  | .inl i => .int i
  | .inr x => .str x
/-- a tuple that stays, a list that stays -/
def Stay (H : Hp) (Z : Addr → Prop) (a : Addr) (o : HO) : Prop := Rd H a o ∧ ¬ Z a
def StD (H : Hp) (Z : Addr → Prop) (a : Addr) (o : HO) : Prop := H a = some o ∧ ¬ Z a
def StT (H : Hp) (Z : Addr → Prop) (a : Addr) (xs : List V) : Prop := H a = some (.tup xs) ∧ ¬ Z a
def StL (K : PySem.W.Frag) (H : Hp) (Z : Addr → Prop) (a : Addr) (xs : List V) : Prop :=
  Stay H Z a (.lst xs) ∨
    ∃ (its : Array Value) (n : Nat), K.lookup a = some { cls := .type "list", data := .seq its n } ∧ its.size ≤ sizeLine ∧ Vals xs its.toList
/-- a list as it stands -/
def LsX (K : PySem.W.Frag) (H : Hp) (a : Addr) (xs : List V) : Prop :=
  Rd H a (.lst xs) ∨ ∃ (its : Array Value) (n : Nat), K.lookup a = some { cls := .type "list", data := .seq its n } ∧ its.size ≤ sizeLine ∧ Vals xs its.toList
theorem LsX.sq {K : PySem.W.Frag} {H : Hp} {a : Addr} {xs : List V} (h : LsX K H a xs) : SqL K H a xs := by
  rcases h with h | ⟨its, n, h1, h2, h3⟩
  · exact .inl h
  · exact .inr ⟨_, its, n, h1, rfl, rfl, rfl, h2, h3⟩
theorem LsX.at {X : Cx} {pins : List (Addr × Obj)} {σ : L2.St} {H : Hp} {s : Shared} {a : Addr} {xs : List V} (I : Inv X pins σ H s) (h : LsX X.K H a xs) :
    ∃ (its : List Value) (n : Nat), Vals xs its ∧ s.heap.get? a = some { cls := .type "list", data := .seq its.toArray n } ∧ xs.length ≤ sizeLine := by
  rcases h with h | ⟨its, n, h1, h2, h3⟩
  · obtain ⟨z, its, n, r, e⟩ := h.ok I.hok
    exact ⟨its, n, r, e, z⟩
  · refine ⟨its.toList, n, h3, I.kIn a _ h1, ?_⟩
    have e := h3.length
    rw [Array.length_toList] at e
    exact Nat.le_trans (Nat.le_of_eq e) h2
mutual
inductive Rel (K : PySem.W.Frag) (H : Hp) (Z : Addr → Prop) : D → V → Prop
  | non : Rel K H Z .none .non
  | bl (b : Bool) : Rel K H Z (.bool b) (.bl b)
  | int (i : Int) : Rel K H Z (.int i) (.int i)
  | str (x : Str) : Rel K H Z (.str x) (.str x)
  | tup {a : Addr} {xs : List V} {ds : List D} : StT H Z a xs → RelAll K H Z ds xs → Rel K H Z (.tuple ds) (.ref a)
  | lst {a : Addr} {xs : List V} {ds : List D} : StL K H Z a xs → RelAll K H Z ds xs → Rel K H Z (.list ds) (.ref a)
  | dK {a : Addr} {kvs : List (Key × V)} {es : List (D × D)} : StD H Z a (.dK kvs) → RelK K H Z es kvs → Rel K H Z (.dict es) (.ref a)
  | dT {a : Addr} {kvs : List (List Key × V)} {es : List (D × D)} : StD H Z a (.dT kvs) → RelT K H Z es kvs → Rel K H Z (.dict es) (.ref a)
inductive RelAll (K : PySem.W.Frag) (H : Hp) (Z : Addr → Prop) : List D → List V → Prop
  | nil : RelAll K H Z [] []
  | cons {d : D} {ds : List D} {v : V} {vs : List V} : Rel K H Z d v → RelAll K H Z ds vs → RelAll K H Z (d :: ds) (v :: vs)
inductive RelK (K : PySem.W.Frag) (H : Hp) (Z : Addr → Prop) : List (D × D) → List (Key × V) → Prop
  | nil : RelK K H Z [] []
  | cons {k : Key} {d : D} {es : List (D × D)} {v : V} {kvs : List (Key × V)} : Rel K H Z d v → RelK K H Z es kvs → RelK K H Z ((kD k, d) :: es) ((k, v) :: kvs)
inductive RelT (K : PySem.W.Frag) (H : Hp) (Z : Addr → Prop) : List (D × D) → List (List Key × V) → Prop
  | nil : RelT K H Z [] []
  | cons {k : List Key} {d : D} {es : List (D × D)} {v : V} {kvs : List (List Key × V)} : Rel K H Z d v → RelT K H Z es kvs → RelT K H Z ((.tuple (k.map kD), d) :: es) ((k, v) :: kvs)
end
/-- from (H, Z) to (H', Z'): what stays, stays -/
def Grows (H : Hp) (Z : Addr → Prop) (H' : Hp) (Z' : Addr → Prop) : Prop := ∀ p o, H p = some o → ¬ Z p → H' p = some o ∧ ¬ Z' p
theorem Grows.refl {H : Hp} {Z : Addr → Prop} : Grows H Z H Z := fun _ _ h n => ⟨h, n⟩
theorem Grows.trans {H H1 H2 : Hp} {Z Z1 Z2 : Addr → Prop} (a : Grows H Z H1 Z1) (b : Grows H1 Z1 H2 Z2) : Grows H Z H2 Z2 := fun p o h n => b p o (a p o h n).1 (a p o h n).2
theorem Stay.grow {H H' : Hp} {Z Z' : Addr → Prop} {a : Addr} {o : HO} (g : Grows H Z H' Z') (h : Stay H Z a o) : Stay H' Z' a o := by
  obtain ⟨h1 | ⟨ob, h1⟩, n⟩ := h
  · exact ⟨.inl (g _ _ h1 n).1, (g _ _ h1 n).2⟩
  · exact ⟨.inr ⟨ob, (g _ _ h1 n).1⟩, (g _ _ h1 n).2⟩
theorem StD.grow {H H' : Hp} {Z Z' : Addr → Prop} {a : Addr} {o : HO} (g : Grows H Z H' Z') (h : StD H Z a o) : StD H' Z' a o := g a _ h.1 h.2
theorem StT.grow {H H' : Hp} {Z Z' : Addr → Prop} {a : Addr} {xs : List V} (g : Grows H Z H' Z') (h : StT H Z a xs) : StT H' Z' a xs := g a _ h.1 h.2
theorem StL.grow {K : PySem.W.Frag} {H H' : Hp} {Z Z' : Addr → Prop} {a : Addr} {xs : List V} (g : Grows H Z H' Z') (h : StL K H Z a xs) : StL K H' Z' a xs := by
  rcases h with h | h
  · exact .inl (h.grow g)
  · exact .inr h
theorem StT.sq {K : PySem.W.Frag} {H : Hp} {Z : Addr → Prop} {a : Addr} {xs : List V} (h : StT H Z a xs) : SqT K H a xs := .inl (.inl h.1)
theorem StL.sq {K : PySem.W.Frag} {H : Hp} {Z : Addr → Prop} {a : Addr} {xs : List V} (h : StL K H Z a xs) : LsX K H a xs := by
  rcases h with h | h
  · exact .inl h.1
  · exact .inr h
mutual
theorem Rel.grow {K : PySem.W.Frag} {H H' : Hp} {Z Z' : Addr → Prop} (g : Grows H Z H' Z') : ∀ {d : D} {v : V}, Rel K H Z d v → Rel K H' Z' d v
  | _, _, .non => .non
  | _, _, .bl b => .bl b
  | _, _, .int i => .int i
  | _, _, .str x => .str x
  | _, _, .tup h r => .tup (h.grow g) (RelAll.grow g r)
  | _, _, .lst h r => .lst (h.grow g) (RelAll.grow g r)
  | _, _, .dK h r => .dK (h.grow g) (RelK.grow g r)
  | _, _, .dT h r => .dT (h.grow g) (RelT.grow g r)
theorem RelAll.grow {K : PySem.W.Frag} {H H' : Hp} {Z Z' : Addr → Prop} (g : Grows H Z H' Z') : ∀ {ds : List D} {vs : List V}, RelAll K H Z ds vs → RelAll K H' Z' ds vs
  | _, _, .nil => .nil
  | _, _, .cons h r => .cons (Rel.grow g h) (RelAll.grow g r)
theorem RelK.grow {K : PySem.W.Frag} {H H' : Hp} {Z Z' : Addr → Prop} (g : Grows H Z H' Z') : ∀ {es : List (D × D)} {kvs : List (Key × V)}, RelK K H Z es kvs → RelK K H' Z' es kvs
  | _, _, .nil => .nil
  | _, _, .cons h r => .cons (Rel.grow g h) (RelK.grow g r)
theorem RelT.grow {K : PySem.W.Frag} {H H' : Hp} {Z Z' : Addr → Prop} (g : Grows H Z H' Z') : ∀ {es : List (D × D)} {kvs : List (List Key × V)}, RelT K H Z es kvs → RelT K H' Z' es kvs
  | _, _, .nil => .nil
  | _, _, .cons h r => .cons (Rel.grow g h) (RelT.grow g r)
end
theorem RelAll.length {K : PySem.W.Frag} {H : Hp} {Z : Addr → Prop} : ∀ {ds : List D} {vs : List V}, RelAll K H Z ds vs → ds.length = vs.length
  | _, _, .nil => rfl
  | _, _, .cons _ r => by rw [List.length_cons, List.length_cons, r.length]
theorem RelAll.get {K : PySem.W.Frag} {H : Hp} {Z : Addr → Prop} : ∀ {ds : List D} {vs : List V} {i : Nat} {d : D}, RelAll K H Z ds vs → ds[i]? = some d → ∃ v, vs[i]? = some v ∧ Rel K H Z d v
  | _, _, _, _, .nil, e => by simp at e
  | _, _, 0, _, .cons h _, e => by
    simp at e; subst e; exact ⟨_, rfl, h⟩
  | _, _, i + 1, _, .cons _ r, e => by
    obtain ⟨v, h1, h2⟩ := RelAll.get (i := i) r (by simpa using e)
    exact ⟨v, by simpa using h1, h2⟩
theorem RelAll.app {K : PySem.W.Frag} {H : Hp} {Z : Addr → Prop} : ∀ {ds es : List D} {vs us : List V}, RelAll K H Z ds vs → RelAll K H Z es us → RelAll K H Z (ds ++ es) (vs ++ us)
  | _, _, _, _, .nil, h => h
  | _, _, _, _, .cons h r, h2 => .cons h (r.app h2)
theorem RelAll.take {K : PySem.W.Frag} {H : Hp} {Z : Addr → Prop} : ∀ {ds : List D} {vs : List V} (n : Nat), RelAll K H Z ds vs → RelAll K H Z (ds.take n) (vs.take n)
  | _, _, 0, _ => .nil
  | _, _, _ + 1, .nil => .nil
  | _, _, n + 1, .cons h r => .cons h (r.take n)
theorem RelAll.drop {K : PySem.W.Frag} {H : Hp} {Z : Addr → Prop} : ∀ {ds : List D} {vs : List V} (n : Nat), RelAll K H Z ds vs → RelAll K H Z (ds.drop n) (vs.drop n)
  | _, _, 0, r => r
  | _, _, _ + 1, .nil => .nil
  | _, _, n + 1, .cons _ r => r.drop n
theorem RelAll.set {K : PySem.W.Frag} {H : Hp} {Z : Addr → Prop} {d : D} {v : V} (h : Rel K H Z d v) : ∀ {ds : List D} {vs : List V} (n : Nat), RelAll K H Z ds vs → RelAll K H Z (ds.set n d) (vs.set n v)
  | _, _, _, .nil => .nil
  | _, _, 0, .cons _ r => .cons h r
  | _, _, n + 1, .cons q r => .cons q (r.set h n)
theorem RelAll.rev {K : PySem.W.Frag} {H : Hp} {Z : Addr → Prop} : ∀ {ds : List D} {vs : List V}, RelAll K H Z ds vs → RelAll K H Z ds.reverse vs.reverse
  | _, _, .nil => .nil
  | _, _, .cons h r => by
    rw [List.reverse_cons, List.reverse_cons]
    exact r.rev.app (.cons h .nil)
theorem RelAll.rep {K : PySem.W.Frag} {H : Hp} {Z : Addr → Prop} {ds : List D} {vs : List V} (h : RelAll K H Z ds vs) : ∀ n : Nat, RelAll K H Z (List.replicate n ds).flatten (List.replicate n vs).flatten
  | 0 => .nil
  | n + 1 => by
    rw [List.replicate_succ, List.flatten_cons, List.replicate_succ, List.flatten_cons]
    exact h.app (h.rep n)
/-- fewer are kept off -/
theorem grows_less {H : Hp} {Z Z' : Addr → Prop} (h : ∀ p, Z' p → Z p) : Grows H Z H Z' := fun p _ e n => ⟨e, fun z => n (h p z)⟩
theorem grows_new {H : Hp} {Z : Addr → Prop} {p : Addr} {o : HO} (h : H p = none) : Grows H Z (upd H p o) Z := fun q u e n => ⟨by rw [upd_ne (ne_of_none e h)]; exact e, n⟩
theorem grows_keep {H : Hp} {Z Z' : Addr → Prop} {p : Addr} {o : HO} (h : H p = none) (hz : ∀ q, Z' q → Z q ∨ q = p) : Grows H Z (upd H p o) Z' := fun q u e n =>
  ⟨by rw [upd_ne (ne_of_none e h)]; exact e, fun z => (hz q z).elim n (ne_of_none e h)⟩
theorem grows_mut {H : Hp} {Z : Addr → Prop} {p : Addr} {o : HO} (h : Z p) : Grows H Z (upd H p o) Z := fun q u e n => ⟨by rw [upd_ne (fun z => n (by rw [z]; exact h))]; exact e, n⟩
/-! ### worlds -/
def Ob.live : Ob → Bool
  | .frz _ => false
  | _ => true
abbrev As := List (Addr × List Addr)
/-- addresses whose objects change -/
def Mof (st : Sto) (as : As) (p : Addr) : Prop := ∃ (i : Nat) (ob : Ob) (a : Addr) (qs : List Addr), st[i]? = some ob ∧ ob.live = true ∧ as[i]? = some (a, qs) ∧ (p = a ∨ p ∈ qs)
inductive Slot (K : PySem.W.Frag) (H : Hp) (Z : Addr → Prop) : Ob → Addr → List Addr → Prop
  | lst {a : Addr} {vs : List V} {ds : List D} : H a = some (.lst vs) → RelAll K H Z ds vs → Slot K H Z (.lst ds) a []
  | dK {a : Addr} {kvs : List (Key × V)} {es : List (D × D)} : H a = some (.dK kvs) → RelK K H Z es kvs → Slot K H Z (.dct es) a []
  | dT {a : Addr} {kvs : List (List Key × V)} {es : List (D × D)} : H a = some (.dT kvs) → RelT K H Z es kvs → Slot K H Z (.dct es) a []
  | frz {a : Addr} {d : D} : Rel K H Z d (.ref a) → Slot K H Z (.frz d) a []
/-- all that is kept off: what changes, and what is reserved -/
def Zof (st : Sto) (as : As) (R : Addr → Prop) (p : Addr) : Prop := Mof st as p ∨ R p
structure Wld (K : PySem.W.Frag) (H : Hp) (R : Addr → Prop) (st : Sto) (as : As) : Prop where
  len : st.length = as.length
  slot : ∀ (i : Nat) (ob : Ob) (a : Addr) (qs : List Addr), st[i]? = some ob → as[i]? = some (a, qs) → Slot K H (Zof st as R) ob a qs
  inj : ∀ (i j : Nat) (ob ob' : Ob) (a : Addr) (qs : List Addr) (a' : Addr) (qs' : List Addr) (p : Addr), st[i]? = some ob → st[j]? = some ob' → ob.live = true → ob'.live = true → as[i]? = some (a, qs) → as[j]? = some (a', qs') → (p = a ∨ p ∈ qs) → (p = a' ∨ p ∈ qs') → i = j
  res : ∀ p, R p → (∃ o, H p = some o) ∧ ¬ Mof st as p
/-- names' values -/
def RelW (K : PySem.W.Frag) (H : Hp) (Z : Addr → Prop) (as : As) : W → V → Prop
  | .d x, v => Rel K H Z x v
  | .r i, v => ∃ (a : Addr) (qs : List Addr), as[i]? = some (a, qs) ∧ v = .ref a
def Loc (K : PySem.W.Frag) (H : Hp) (Z : Addr → Prop) (as : As) (σ : Ev) (σV : St) : Prop := σ.length = σV.length ∧ ∀ (i : Nat) (w : W), σ[i]? = some (some w) → ∃ v, σV[i]? = some (some v) ∧ RelW K H Z as w v
section
variable {K : PySem.W.Frag} {H H' : Hp} {R R' Z Z' : Addr → Prop} {st st' : Sto} {as as' : As}
theorem Slot.there {ob : Ob} {a : Addr} {qs : List Addr} (h : Slot K H Z ob a qs) (l : ob.live = true) {p : Addr} (hp : p = a ∨ p ∈ qs) : ∃ o, H p = some o := by
  cases h with
  | lst e _ => rcases hp with rfl | hp
               · exact ⟨_, e⟩
               · cases hp
  | dK e _ => rcases hp with rfl | hp
              · exact ⟨_, e⟩
              · cases hp
  | dT e _ => rcases hp with rfl | hp
              · exact ⟨_, e⟩
              · cases hp
  | frz _ => cases l
theorem Slot.frzI {d : D} {a : Addr} {qs : List Addr} (h : Slot K H Z (.frz d) a qs) : Rel K H Z d (.ref a) ∧ qs = [] := by
  cases h with
  | frz h => exact ⟨h, rfl⟩
theorem Wld.mof (w : Wld K H R st as) {p : Addr} (h : Mof st as p) : ∃ o, H p = some o := by
  obtain ⟨i, ob, a, qs, h1, h2, h3, h4⟩ := h
  exact (w.slot i ob a qs h1 h3).there h2 h4
theorem Wld.zof (w : Wld K H R st as) {p : Addr} (h : Zof st as R p) : ∃ o, H p = some o := by
  rcases h with h | h
  · exact w.mof h
  · exact (w.res p h).1
theorem Wld.notZ (w : Wld K H R st as) {p : Addr} (h : H p = none) : ¬ Zof st as R p := fun z => by
  obtain ⟨o, e⟩ := w.zof z
  rw [h] at e; cases e
/-- slots that keep their objects -/
theorem Slot.grow {ob : Ob} {a : Addr} {qs : List Addr} (g : Grows H Z H' Z') (hl : ob.live = true → ∀ p o, (p = a ∨ p ∈ qs) → H p = some o → H' p = some o) (h : Slot K H Z ob a qs) : Slot K H' Z' ob a qs := by
  cases h with
  | lst e r => exact .lst (hl rfl _ _ (.inl rfl) e) (r.grow g)
  | dK e r => exact .dK (hl rfl _ _ (.inl rfl) e) (r.grow g)
  | dT e r => exact .dT (hl rfl _ _ (.inl rfl) e) (r.grow g)
  | frz r => exact .frz (r.grow g)
/-- a new object beside the store -/
theorem Wld.alloc (w : Wld K H R st as) {p : Addr} {o : HO} (h : H p = none) : Wld K (upd H p o) R st as := by
  have g : Grows H (Zof st as R) (upd H p o) (Zof st as R) := grows_new h
  refine ⟨w.len, fun i ob a qs h1 h2 => (w.slot i ob a qs h1 h2).grow g fun _ q u hq e => by rw [upd_ne (ne_of_none e h)]; exact e, w.inj, fun q hq => ?_⟩
  obtain ⟨⟨u, e⟩, n⟩ := w.res q hq
  exact ⟨⟨u, by rw [upd_ne (ne_of_none e h)]; exact e⟩, n⟩
/-- .. that is reserved -/
theorem Wld.allocR (w : Wld K H R st as) {p : Addr} {o : HO} (h : H p = none) : Wld K (upd H p o) (fun q => R q ∨ q = p) st as := by
  have g : Grows H (Zof st as R) (upd H p o) (Zof st as fun q => R q ∨ q = p) := grows_keep h fun q z => by
    rcases z with z | z | z
    · exact .inl (.inl z)
    · exact .inl (.inr z)
    · exact .inr z
  refine ⟨w.len, fun i ob a qs h1 h2 => (w.slot i ob a qs h1 h2).grow g fun _ q u hq e => by rw [upd_ne (ne_of_none e h)]; exact e, w.inj, fun q hq => ?_⟩
  rcases hq with hq | rfl
  · obtain ⟨⟨u, e⟩, n⟩ := w.res q hq
    exact ⟨⟨u, by rw [upd_ne (ne_of_none e h)]; exact e⟩, n⟩
  · exact ⟨⟨_, upd_same⟩, fun z => w.notZ h (.inl z)⟩
theorem zof_less (h : ∀ p, R' p → R p) : ∀ p, Zof st as R' p → Zof st as R p := fun p z => z.elim .inl fun z => .inr (h p z)
/-- fewer reserved -/
theorem Wld.less (w : Wld K H R st as) (h : ∀ p, R' p → R p) : Wld K H R' st as :=
  ⟨w.len, fun i ob a qs h1 h2 => (w.slot i ob a qs h1 h2).grow (grows_less (zof_less h)) fun _ _ _ _ e => e, w.inj, fun p hp => w.res p (h p hp)⟩
/-- the reserved object is written -/
theorem Wld.resv (w : Wld K H R st as) {p : Addr} {o : HO} (h : R p) : Wld K (upd H p o) R st as := by
  have hz : Zof st as R p := .inr h
  have nm := (w.res p h).2
  refine ⟨w.len, fun i ob a qs h1 h2 => (w.slot i ob a qs h1 h2).grow (grows_mut hz) fun l q u hq e => ?_, w.inj, fun q hq => ?_⟩
  · have : q ≠ p := fun z => nm ⟨i, ob, a, qs, h1, l, h2, by rw [← z]; exact hq⟩
    rw [upd_ne this]; exact e
  · obtain ⟨⟨u, e⟩, n⟩ := w.res q hq
    by_cases z : q = p
    · subst z; exact ⟨⟨_, upd_same⟩, n⟩
    · exact ⟨⟨u, by rw [upd_ne z]; exact e⟩, n⟩
theorem get_set_same {α : Type} {l : List α} {i : Nat} {x y : α} (h : l[i]? = some x) : (l.set i y)[i]? = some y := by
  obtain ⟨h1, _⟩ := List.getElem?_eq_some_iff.mp h
  rw [List.getElem?_set_self h1]
/-- the set of what changes, when a place is written by a thing that changes still -/
theorem mof_set {i : Nat} {ob ob' : Ob} (h1 : st[i]? = some ob) (l : ob.live = true) (l' : ob'.live = true) (p : Addr) : Mof (st.set i ob') as p ↔ Mof st as p := by
  constructor
  · rintro ⟨j, o, a, qs, e1, e2, e3, e4⟩
    by_cases hj : j = i
    · subst hj
      exact ⟨j, ob, a, qs, h1, l, e3, e4⟩
    · rw [List.getElem?_set_ne (Ne.symm hj)] at e1
      exact ⟨j, o, a, qs, e1, e2, e3, e4⟩
  · rintro ⟨j, o, a, qs, e1, e2, e3, e4⟩
    by_cases hj : j = i
    · subst hj
      exact ⟨j, ob', a, qs, get_set_same h1, l', e3, e4⟩
    · exact ⟨j, o, a, qs, by rw [List.getElem?_set_ne (Ne.symm hj)]; exact e1, e2, e3, e4⟩
theorem zof_set {i : Nat} {ob ob' : Ob} (h1 : st[i]? = some ob) (l : ob.live = true) (l' : ob'.live = true) : Zof (st.set i ob') as R = Zof st as R := by
  funext p
  exact propext ⟨fun z => z.imp (mof_set h1 l l' p).mp id, fun z => z.imp (mof_set h1 l l' p).mpr id⟩
/-- an object of the store is written -/
theorem Wld.write (w : Wld K H R st as) {i : Nat} {ob ob' : Ob} {a : Addr} {qs : List Addr} {o : HO} (h1 : st[i]? = some ob) (h2 : as[i]? = some (a, qs)) (l : ob.live = true) (l' : ob'.live = true)
    (new : Slot K (upd H a o) (Zof st as R) ob' a qs) : Wld K (upd H a o) R (st.set i ob') as ∧ Grows H (Zof st as R) (upd H a o) (Zof (st.set i ob') as R) := by
  have hz : Zof st as R a := .inl ⟨i, ob, a, qs, h1, l, h2, .inl rfl⟩
  have g : Grows H (Zof st as R) (upd H a o) (Zof st as R) := grows_mut hz
  rw [zof_set h1 l l']
  refine ⟨⟨by rw [List.length_set]; exact w.len, fun j oj b rs e1 e2 => ?_, fun j k oj ok b rs b' rs' p e1 e2 l1 l2 f1 f2 p1 p2 => ?_, fun p hp => ?_⟩, g⟩
  · rw [zof_set h1 l l']
    by_cases hj : j = i
    · subst hj
      rw [get_set_same h1] at e1
      rw [h2] at e2
      cases e1; cases e2
      exact new
    · rw [List.getElem?_set_ne (Ne.symm hj)] at e1
      refine (w.slot j oj b rs e1 e2).grow g fun lj q u hq e => ?_
      have : q ≠ a := fun z => hj (w.inj j i oj ob b rs a qs q e1 h1 lj l e2 h2 hq (.inl z))
      rw [upd_ne this]; exact e
  · have go : ∀ {j : Nat} {oj : Ob}, (st.set i ob')[j]? = some oj → oj.live = true → ∃ oj', st[j]? = some oj' ∧ oj'.live = true := fun {j oj} e lj => by
      by_cases hj : j = i
      · subst hj; exact ⟨ob, h1, l⟩
      · rw [List.getElem?_set_ne (Ne.symm hj)] at e; exact ⟨oj, e, lj⟩
    obtain ⟨o1, g1, g2⟩ := go e1 l1
    obtain ⟨o2, g3, g4⟩ := go e2 l2
    exact w.inj j k o1 o2 b rs b' rs' p g1 g3 g2 g4 f1 f2 p1 p2
  · obtain ⟨⟨u, e⟩, n⟩ := w.res p hp
    have n' : ¬ Mof (st.set i ob') as p := fun z => n ((mof_set h1 l l' p).mp z)
    have : p ≠ a := fun z => n ⟨i, ob, a, qs, h1, l, h2, .inl z⟩
    exact ⟨⟨u, by rw [upd_ne this]; exact e⟩, n'⟩
/-- an object of the store changes no more -/
theorem mof_frz {i : Nat} {d : D} {p : Addr} (h : Mof (st.set i (.frz d)) as p) : Mof st as p := by
  obtain ⟨j, o, a, qs, e1, e2, e3, e4⟩ := h
  by_cases hj : j = i
  · subst hj
    by_cases hl : j < st.length
    · rw [List.getElem?_set_self hl] at e1
      cases e1; cases e2
    · rw [List.getElem?_eq_none (by rw [List.length_set]; omega)] at e1; cases e1
  · rw [List.getElem?_set_ne (Ne.symm hj)] at e1
    exact ⟨j, o, a, qs, e1, e2, e3, e4⟩
theorem Wld.freeze (w : Wld K H R st as) {i : Nat} {ob : Ob} {a : Addr} {qs : List Addr} (h1 : st[i]? = some ob) (h2 : as[i]? = some (a, qs)) :
    Wld K H R (st.set i (.frz ob.tree)) as ∧ Grows H (Zof st as R) H (Zof (st.set i (.frz ob.tree)) as R) ∧ Rel K H (Zof (st.set i (.frz ob.tree)) as R) ob.tree (.ref a) := by
  have hz : ∀ p, Zof (st.set i (.frz ob.tree)) as R p → Zof st as R p := fun p z => z.imp mof_frz id
  have g : Grows H (Zof st as R) H (Zof (st.set i (.frz ob.tree)) as R) := grows_less hz
  have rel : Rel K H (Zof (st.set i (.frz ob.tree)) as R) ob.tree (.ref a) := by
    have na : ob.live = true → ¬ Zof (st.set i (.frz ob.tree)) as R a := fun l z => by
      rcases z with ⟨j, oj, b, rs, e1, e2, e3, e4⟩ | z
      · by_cases hj : j = i
        · subst hj
          rw [get_set_same h1] at e1
          cases e1; cases e2
        · rw [List.getElem?_set_ne (Ne.symm hj)] at e1
          exact hj (w.inj j i oj ob b rs a qs a e1 h1 e2 l e3 h2 e4 (.inl rfl))
      · exact (w.res a z).2 ⟨i, ob, a, qs, h1, l, h2, .inl rfl⟩
    have s := w.slot i ob a qs h1 h2
    cases s with
    | lst e r => exact .lst (.inl ⟨.inl e, na rfl⟩) (r.grow g)
    | dK e r => exact .dK ⟨e, na rfl⟩ (r.grow g)
    | dT e r => exact .dT ⟨e, na rfl⟩ (r.grow g)
    | frz r => exact r.grow g
  refine ⟨⟨by rw [List.length_set]; exact w.len, fun j oj b rs e1 e2 => ?_, fun j k oj ok b rs b' rs' p e1 e2 l1 l2 f1 f2 p1 p2 => ?_, fun p hp => ?_⟩, g, rel⟩
  · by_cases hj : j = i
    · subst hj
      rw [get_set_same h1] at e1
      rw [h2] at e2
      cases e1; cases e2
      have s := w.slot j ob a qs h1 h2
      have hq : qs = [] := by cases s <;> rfl
      subst hq
      exact .frz rel
    · rw [List.getElem?_set_ne (Ne.symm hj)] at e1
      exact (w.slot j oj b rs e1 e2).grow g fun _ _ _ _ e => e
  · have go : ∀ {j : Nat} {oj : Ob}, (st.set i (.frz ob.tree))[j]? = some oj → oj.live = true → st[j]? = some oj := fun {j oj} e lj => by
      by_cases hj : j = i
      · subst hj
        rw [get_set_same h1] at e
        cases e; cases lj
      · rw [List.getElem?_set_ne (Ne.symm hj)] at e; exact e
    exact w.inj j k oj ok b rs b' rs' p (go e1 l1) (go e2 l2) l1 l2 f1 f2 p1 p2
  · exact ⟨(w.res p hp).1, fun z => (w.res p hp).2 (mof_frz z)⟩
/-- a reserved object comes into the store -/
theorem Wld.push {p : Addr} (w : Wld K H (fun q => R q ∨ q = p) st as) (np : ¬ R p) {ob : Ob} (l : ob.live = true) (s : Slot K H (Zof st as fun q => R q ∨ q = p) ob p []) :
    Wld K H R (st ++ [ob]) (as ++ [(p, [])]) ∧ Zof (st ++ [ob]) (as ++ [(p, [])]) R = Zof st as (fun q => R q ∨ q = p) := by
  have hlen := w.len
  have mofE : ∀ q, Mof (st ++ [ob]) (as ++ [(p, [])]) q ↔ Mof st as q ∨ q = p := fun q => by
    constructor
    · rintro ⟨i, o, a, qs, e1, e2, e3, e4⟩
      by_cases hi : i < st.length
      · rw [List.getElem?_append_left hi] at e1
        rw [List.getElem?_append_left (by omega)] at e3
        exact .inl ⟨i, o, a, qs, e1, e2, e3, e4⟩
      · rw [List.getElem?_append_right (by omega)] at e1 e3
        have h0 : i - st.length = 0 := by
          rcases Nat.eq_zero_or_pos (i - st.length) with z | z
          · exact z
          · rw [List.getElem?_eq_none (Nat.succ_le_of_lt z)] at e1; cases e1
        rw [← hlen, h0] at e3
        simp at e3
        obtain ⟨rfl, rfl⟩ := e3
        exact .inr (e4.elim id fun z => nomatch z)
    · rintro (⟨i, o, a, qs, e1, e2, e3, e4⟩ | rfl)
      · have hi := (List.getElem?_eq_some_iff.mp e1).1
        exact ⟨i, o, a, qs, by rw [List.getElem?_append_left hi]; exact e1, e2, by rw [List.getElem?_append_left (by omega)]; exact e3, e4⟩
      · exact ⟨st.length, ob, q, [], by simp, l, by rw [hlen]; simp, .inl rfl⟩
  have zE : Zof (st ++ [ob]) (as ++ [(p, [])]) R = Zof st as (fun q => R q ∨ q = p) := by
    funext q
    apply propext
    constructor
    · rintro (z | z)
      · rcases (mofE q).mp z with z | z
        · exact .inl z
        · exact .inr (.inr z)
      · exact .inr (.inl z)
    · rintro (z | z | z)
      · exact .inl ((mofE q).mpr (.inl z))
      · exact .inr z
      · exact .inl ((mofE q).mpr (.inr z))
  refine ⟨⟨by simp [hlen], fun i oi a qs e1 e2 => ?_, fun i j oi oj a qs a' qs' q e1 e2 l1 l2 f1 f2 p1 p2 => ?_, fun q hq => ?_⟩, zE⟩
  · rw [zE]
    by_cases hi : i < st.length
    · rw [List.getElem?_append_left hi] at e1
      rw [List.getElem?_append_left (by omega)] at e2
      exact w.slot i oi a qs e1 e2
    · rw [List.getElem?_append_right (by omega)] at e1 e2
      have h0 : i - st.length = 0 := by
        rcases Nat.eq_zero_or_pos (i - st.length) with z | z
        · exact z
        · rw [List.getElem?_eq_none (Nat.succ_le_of_lt z)] at e1; cases e1
      rw [h0] at e1
      rw [← hlen, h0] at e2
      simp at e1 e2
      subst e1
      obtain ⟨rfl, rfl⟩ := e2
      exact s
  · have pm : ¬ Mof st as p := (w.res p (.inr rfl)).2
    have cases' : ∀ {i : Nat} {oi : Ob} {a : Addr} {qs : List Addr}, (st ++ [ob])[i]? = some oi → (as ++ [(p, [])])[i]? = some (a, qs) → oi.live = true → (q = a ∨ q ∈ qs) → (i < st.length ∧ st[i]? = some oi ∧ as[i]? = some (a, qs)) ∨ (i = st.length ∧ q = p) := fun {i oi a qs} e f _ m => by
      by_cases hi : i < st.length
      · rw [List.getElem?_append_left hi] at e
        rw [List.getElem?_append_left (by omega)] at f
        exact .inl ⟨hi, e, f⟩
      · rw [List.getElem?_append_right (by omega)] at e f
        have h0 : i - st.length = 0 := by
          rcases Nat.eq_zero_or_pos (i - st.length) with z | z
          · exact z
          · rw [List.getElem?_eq_none (Nat.succ_le_of_lt z)] at e; cases e
        rw [← hlen, h0] at f
        simp at f
        obtain ⟨rfl, rfl⟩ := f
        exact .inr ⟨by omega, m.elim id fun z => nomatch z⟩
    rcases cases' e1 f1 l1 p1 with ⟨hi, g1, g2⟩ | ⟨hi, g1⟩
    · rcases cases' e2 f2 l2 p2 with ⟨hj, g3, g4⟩ | ⟨hj, g3⟩
      · exact w.inj i j oi oj a qs a' qs' q g1 g3 l1 l2 g2 g4 p1 p2
      · exact absurd ⟨i, oi, a, qs, g1, l1, g2, by rw [← g3]; exact p1⟩ pm
    · rcases cases' e2 f2 l2 p2 with ⟨hj, g3, g4⟩ | ⟨hj, g3⟩
      · exact absurd ⟨j, oj, a', qs', g3, l2, g4, by rw [← g1]; exact p2⟩ pm
      · omega
  · refine ⟨(w.res q (.inl hq)).1, fun z => ?_⟩
    rcases (mofE q).mp z with z | rfl
    · exact (w.res q (.inl hq)).2 z
    · exact np hq
end
end TB
set_option maxRecDepth 100000
/-! TBOps: operations on trees are what the machine's operations give. -/
namespace TB
open PySem PySem.Spec PyProof.Rows L2
/-! ### looking at a thing as it is -/
inductive Pk (K : PySem.W.Frag) (H : Hp) (Z : Addr → Prop) : D → V → Prop
  | rel {d : D} {v : V} : Rel K H Z d v → Pk K H Z d v
  | lst {a : Addr} {vs : List V} {ds : List D} : H a = some (.lst vs) → RelAll K H Z ds vs → Pk K H Z (.list ds) (.ref a)
  | dK {a : Addr} {kvs : List (Key × V)} {es : List (D × D)} : H a = some (.dK kvs) → RelK K H Z es kvs → Pk K H Z (.dict es) (.ref a)
  | dT {a : Addr} {kvs : List (List Key × V)} {es : List (D × D)} : H a = some (.dT kvs) → RelT K H Z es kvs → Pk K H Z (.dict es) (.ref a)
section
variable {K : PySem.W.Frag} {H : Hp} {Z R : Addr → Prop} {st : Sto} {as : As}
theorem pk_of (w : Wld K H R st as) {x : W} {v : V} {d : D} (r : RelW K H (Zof st as R) as x v) (h : peek x st = some d) : Pk K H (Zof st as R) d v := by
  cases x with
  | d y => cases h; exact .rel r
  | r a =>
    obtain ⟨b, qs, e, rfl⟩ := r
    cases hs : st[a]? with
    | none => simp only [peek, hs] at h; cases h
    | some ob =>
      simp only [peek, hs] at h
      have s := w.slot a ob b qs hs e
      cases s with
      | lst e1 r1 => cases h; exact .lst e1 r1
      | dK e1 r1 => cases h; exact .dK e1 r1
      | dT e1 r1 => cases h; exact .dT e1 r1
      | frz r1 => cases h; exact .rel r1
theorem Pk.int {i : Int} {v : V} (h : Pk K H Z (.int i) v) : v = .int i := by
  cases h with | rel h => cases h; rfl
theorem Pk.bool {b : Bool} {v : V} (h : Pk K H Z (.bool b) v) : v = .bl b := by
  cases h with | rel h => cases h; rfl
theorem Pk.non {v : V} (h : Pk K H Z .none v) : v = .non := by
  cases h with | rel h => cases h; rfl
theorem Pk.str {x : Str} {v : V} (h : Pk K H Z (.str x) v) : v = .str x := by
  cases h with | rel h => cases h; rfl
theorem Pk.tup {ds : List D} {v : V} (h : Pk K H Z (.tuple ds) v) : ∃ a vs, v = .ref a ∧ StT H Z a vs ∧ RelAll K H Z ds vs := by
  cases h with | rel h => cases h with | tup h1 h2 => exact ⟨_, _, rfl, h1, h2⟩
theorem Pk.list {ds : List D} {v : V} (h : Pk K H Z (.list ds) v) : ∃ a vs, v = .ref a ∧ LsX K H a vs ∧ RelAll K H Z ds vs := by
  cases h with
  | rel h => cases h with | lst h1 h2 => exact ⟨_, _, rfl, h1.sq, h2⟩
  | lst h1 h2 => exact ⟨_, _, rfl, .inl (.inl h1), h2⟩
theorem Pk.dict {es : List (D × D)} {v : V} (h : Pk K H Z (.dict es) v) : ∃ a, v = .ref a ∧ ((∃ kvs, H a = some (.dK kvs) ∧ RelK K H Z es kvs) ∨ ∃ kvs, H a = some (.dT kvs) ∧ RelT K H Z es kvs) := by
  cases h with
  | rel h => cases h with
    | dK h1 h2 => exact ⟨_, rfl, .inl ⟨_, h1.1, h2⟩⟩
    | dT h1 h2 => exact ⟨_, rfl, .inr ⟨_, h1.1, h2⟩⟩
  | dK h1 h2 => exact ⟨_, rfl, .inl ⟨_, h1, h2⟩⟩
  | dT h1 h2 => exact ⟨_, rfl, .inr ⟨_, h1, h2⟩⟩
mutual
/-- as data of the library's, where there is no dict -/
theorem Rel.dp : ∀ {d : D} {v : V}, Rel K H Z d v → d.canLay0 = true → Dp K H v d
  | _, _, .non, _ => .non
  | _, _, .bl b, _ => .bl b
  | _, _, .int i, _ => .int i
  | _, _, .str x, _ => .str x
  | _, _, .tup h r, c => .tup h.sq (RelAll.dp r (by simpa [PyData.canLay0] using c))
  | _, _, .lst h r, c => .lst h.sq.sq (RelAll.dp r (by simpa [PyData.canLay0] using c))
  | _, _, .dK _ _, c => by simp [PyData.canLay0] at c
  | _, _, .dT _ _, c => by simp [PyData.canLay0] at c
theorem RelAll.dp : ∀ {ds : List D} {vs : List V}, RelAll K H Z ds vs → PyData.canLayAll0 ds = true → DpAll K H vs ds
  | _, _, .nil, _ => .nil
  | _, _, .cons h r, c => by
    rw [PyData.canLayAll0, Bool.and_eq_true] at c
    exact .cons (Rel.dp h c.1) (RelAll.dp r c.2)
end
theorem Pk.dp {d : D} {v : V} (h : Pk K H Z d v) (c : d.canLay0 = true) : Dp K H v d := by
  cases h with
  | rel h => exact h.dp c
  | lst h1 h2 => exact .lst (.inl (.inl h1)) (h2.dp (by simpa [PyData.canLay0] using c))
  | dK _ _ => simp [PyData.canLay0] at c
  | dT _ _ => simp [PyData.canLay0] at c
end
/-! ### what a step leaves -/
structure Post (K : PySem.W.Frag) (R : Addr → Prop) (H : Hp) (st : Sto) (as : As) (st' : Sto) (H' : Hp) (as' : As) : Prop where
  wld : Wld K H' R st' as'
  grow : Grows H (Zof st as R) H' (Zof st' as' R)
  ext : ∃ more, as' = as ++ more
  res : ∀ p, R p → H' p = H p
section
variable {K : PySem.W.Frag} {R : Addr → Prop} {H H1 H2 : Hp} {st st1 st2 : Sto} {as as1 as2 : As}
theorem Post.refl (w : Wld K H R st as) : Post K R H st as st H as := ⟨w, Grows.refl, ⟨[], by simp⟩, fun _ _ => rfl⟩
theorem Post.trans (a : Post K R H st as st1 H1 as1) (b : Post K R H1 st1 as1 st2 H2 as2) : Post K R H st as st2 H2 as2 := by
  obtain ⟨m1, e1⟩ := a.ext
  obtain ⟨m2, e2⟩ := b.ext
  exact ⟨b.wld, a.grow.trans b.grow, ⟨m1 ++ m2, by rw [e2, e1, List.append_assoc]⟩, fun p hp => (b.res p hp).trans (a.res p hp)⟩
/-- a new thing beside the store -/
theorem Post.alloc (w : Wld K H R st as) {p : Addr} {o : HO} (h : H p = none) : Post K R H st as st (upd H p o) as :=
  ⟨w.alloc h, grows_new h, ⟨[], by simp⟩, fun q hq => by
    obtain ⟨⟨u, e⟩, _⟩ := w.res q hq
    exact upd_ne (ne_of_none e h)⟩
theorem RelW.grow {Z Z' : Addr → Prop} {H H' : Hp} {as as' : As} (g : Grows H Z H' Z') (e : ∃ more, as' = as ++ more) : ∀ {w : W} {v : V}, RelW K H Z as w v → RelW K H' Z' as' w v
  | .d _, _, h => Rel.grow g h
  | .r i, _, h => by
    obtain ⟨a, qs, h1, h2⟩ := h
    obtain ⟨m, e⟩ := e
    rw [e]
    exact ⟨a, qs, (List.getElem?_append_left (List.getElem?_eq_some_iff.mp h1).1).trans h1, h2⟩
theorem Loc.grow {Z Z' : Addr → Prop} {H H' : Hp} {as as' : As} {σ : Ev} {σV : L2.St} (g : Grows H Z H' Z') (e : ∃ more, as' = as ++ more) (h : Loc K H Z as σ σV) : Loc K H' Z' as' σ σV :=
  ⟨h.1, fun i w hi => by
    obtain ⟨v, h1, h2⟩ := h.2 i w hi
    exact ⟨v, h1, h2.grow g e⟩⟩
theorem Loc.set {Z : Addr → Prop} {σ : Ev} {σV : L2.St} {i : Nat} {w : W} {v : V} (h : Loc K H Z as σ σV) (r : RelW K H Z as w v) : Loc K H Z as (σ.set i (some w)) (σV.set i (some v)) := by
  refine ⟨by rw [List.length_set, List.length_set]; exact h.1, fun j x hj => ?_⟩
  by_cases e : j = i
  · subst e
    by_cases hl : j < σ.length
    · rw [List.getElem?_set_self hl] at hj
      cases hj
      exact ⟨v, by rw [List.getElem?_set_self (by rw [← h.1]; exact hl)], r⟩
    · rw [List.getElem?_eq_none (by rw [List.length_set]; omega)] at hj; cases hj
  · rw [List.getElem?_set_ne (Ne.symm e)] at hj
    obtain ⟨u, h1, h2⟩ := h.2 j x hj
    exact ⟨u, by rw [List.getElem?_set_ne (Ne.symm e)]; exact h1, h2⟩
end
/-! ### readings by trees -/
def Res.wp {α : Type} (r : Res α) (P : α → Sto → Prop) : Prop :=
  match r with
  | .ok a st => P a st
  | .exc _ _ _ => False
  | .bad => False
theorem wp_bind {α β : Type} {r : Res α} {f : α → Sto → Res β} {P : β → Sto → Prop} (h : (r.bind f).wp P) : r.wp fun a st => (f a st).wp P := by
  cases r with
  | ok a st => exact h
  | exc c as st => exact h
  | bad => exact h
theorem wp_mono {α : Type} {r : Res α} {P Q : α → Sto → Prop} (h : r.wp P) (m : ∀ a st, P a st → Q a st) : r.wp Q := by
  cases r with
  | ok a st => exact m a st h
  | exc c as st => exact h
  | bad => exact h
theorem wp_ofO {α : Type} {o : Option α} {st : Sto} {P : α → Sto → Prop} (h : (ofO o st).wp P) : ∃ a, o = some a ∧ P a st := by
  cases o with
  | none => exact h.elim
  | some a => exact ⟨a, rfl, h⟩
/-- an operation of one, two things, and of a list of things, by trees: what is told of the answer -/
def Ans (K : PySem.W.Frag) (R : Addr → Prop) (st : Sto) (as : As) (H : Hp) (d : D) (Q : VK) : Prop :=
  ∀ v H', Post K R H st as st H' as → Rel K H' (Zof st as R) d v → Q v H'
def rD (K : PySem.W.Frag) (g : D → D → Option D) : R2 := fun x y H Q => ∃ R st as d e r, Wld K H R st as ∧ Pk K H (Zof st as R) d x ∧ Pk K H (Zof st as R) e y ∧ g d e = some r ∧ Ans K R st as H r Q
def rD1 (K : PySem.W.Frag) (g : D → Option D) : V → Hp → VK → Prop := fun x H Q => ∃ R st as d r, Wld K H R st as ∧ Pk K H (Zof st as R) d x ∧ g d = some r ∧ Ans K R st as H r Q
inductive PkAll (K : PySem.W.Frag) (H : Hp) (Z : Addr → Prop) : List D → List V → Prop
  | nil : PkAll K H Z [] []
  | cons {d : D} {ds : List D} {v : V} {vs : List V} : Pk K H Z d v → PkAll K H Z ds vs → PkAll K H Z (d :: ds) (v :: vs)
def rDs (K : PySem.W.Frag) (g : List D → Option D) : List V → Hp → VK → Prop := fun xs H Q => ∃ R st as ds r, Wld K H R st as ∧ PkAll K H (Zof st as R) ds xs ∧ g ds = some r ∧ Ans K R st as H r Q
theorem OpR.imp {X : Cx} {f : Value → Value → Sem Value} {r r' : R2} (h : OpR X f r) (m : ∀ x y H Q, r' x y H Q → r x y H Q) : OpR X f r' := fun pins s σ H x y v u Q I rx ry q => h pins s σ H x y v u Q I rx ry (m x y H Q q)
theorem IxR.imp {X : Cx} {r r' : R2} (h : IxR X r) (m : ∀ x y H Q, r' x y H Q → r x y H Q) : IxR X r' := by
  intro val sl pins s σ H x y v u Q I rx ry q hs
  exact h val sl pins s σ H x y v u Q I rx ry (m x y H Q q) hs
theorem CallR.imp {X : Cx} {f : Value} {r r' : List V → Hp → VK → Prop} (h : CallR X f r) (m : ∀ x H Q, r' x H Q → r x H Q) : CallR X f r' := by
  intro pins s σ H xs us Q I rx q
  exact h pins s σ H xs us Q I rx (m xs H Q q)
section
variable {K : PySem.W.Frag} {R : Addr → Prop} {st : Sto} {as : As} {H : Hp} {Q : VK}
theorem Ans.int {i : Int} (w : Wld K H R st as) (q : Ans K R st as H (.int i) Q) : Q (.int i) H := q _ _ (.refl w) (.int i)
theorem Ans.bool {i : Bool} (w : Wld K H R st as) (q : Ans K R st as H (.bool i) Q) : Q (.bl i) H := q _ _ (.refl w) (.bl i)
theorem Ans.str {i : Str} (w : Wld K H R st as) (q : Ans K R st as H (.str i) Q) : Q (.str i) H := q _ _ (.refl w) (.str i)
theorem Ans.non (w : Wld K H R st as) (q : Ans K R st as H .none Q) : Q .non H := q _ _ (.refl w) .non
theorem Ans.is {d : D} {v : V} (w : Wld K H R st as) (q : Ans K R st as H d Q) (r : Rel K H (Zof st as R) d v) : Q v H := q _ _ (.refl w) r
theorem Ans.tup {ds : List D} {vs : List V} (w : Wld K H R st as) (q : Ans K R st as H (.tuple ds) Q) (r : RelAll K H (Zof st as R) ds vs) : ∀ p, H p = none → Q (.ref p) (upd H p (.tup vs)) := fun p hp =>
  q _ _ (.alloc w hp) (.tup ⟨upd_same, w.notZ hp⟩ (r.grow (grows_new hp)))
theorem Ans.lst {ds : List D} {vs : List V} (w : Wld K H R st as) (q : Ans K R st as H (.list ds) Q) (r : RelAll K H (Zof st as R) ds vs) : ∀ p, H p = none → Q (.ref p) (upd H p (.lst vs)) := fun p hp =>
  q _ _ (.alloc w hp) (.lst (.inl ⟨.inl upd_same, w.notZ hp⟩) (r.grow (grows_new hp)))
end
theorem lim_line {n : Nat} (h : n ≤ LIM) : n ≤ sizeLine := Nat.le_trans h (by rw [sizeLine_eq]; decide)
theorem clip_ix (n d : Nat) (o : Option Int) : clipD n d o = HT.sIx n d o := by
  cases o <;> rfl
theorem cut_rel {K : PySem.W.Frag} {H : Hp} {Z : Addr → Prop} {ds : List D} {vs : List V} (r : RelAll K H Z ds vs) (lo hi : Option Int) : RelAll K H Z (cutD ds lo hi) (cutV vs lo hi) := by
  unfold cutD cutV
  rw [clip_ix, clip_ix, r.length]
  exact (r.drop _).take _
section
variable {X : Cx}
/-- list + list, as they stand or stay -/
def rCatL (K : PySem.W.Frag) : R2 := fun x y H Q => ∃ l b xs zs, x = .ref l ∧ y = .ref b ∧ LsX K H l xs ∧ LsX K H b zs ∧ xs.length + zs.length ≤ sizeLine ∧ ∀ p, H p = none → Q (.ref p) (upd H p (.lst (xs ++ zs)))
theorem op_catL : OpR X (binaryOp .Add) (rCatL X.K) := by
  rintro pins s σ H x y v u Q I rx ry ⟨l, b, xs, zs, rfl, rfl, h1, h2, hz, q⟩
  cases rx
  cases ry
  obtain ⟨its, n, r, g1, hl⟩ := h1.at I
  obtain ⟨its2, n2, r2, g2, hl2⟩ := h2.at I
  have e1 := r.length
  have e2 := r2.length
  refine PySem.P.add_list g1 g2 ?_ (by rw [List.size_toArray, List.size_toArray]; omega)
  rw [show its.toArray ++ its2.toArray = (its ++ its2).toArray by simp]
  exact ⟨.ref _, _, I.lnew (t' := s.toks) (r.append r2) (by rw [List.length_append]; exact hz), rfl, q _ I.fresh⟩
theorem op_addD : OpR X (binaryOp .Add) (rD X.K addD) := by
  refine OpR.imp (OpR.or op_add (OpR.or op_add_str (OpR.or op_catA op_catL))) ?_
  rintro x y H Q ⟨R, st, as, d, e, r, w, p1, p2, g, q⟩
  cases d <;> cases e <;> simp only [addD] at g <;> try (cases g; done)
  · cases g
    rw [p1.int, p2.int]
    exact .inl ⟨_, _, rfl, rfl, q.int w⟩
  · split at g
    · rename_i hl
      cases g
      rw [p1.str, p2.str]
      exact .inr (.inl ⟨_, _, rfl, rfl, lim_line hl, q.str w⟩)
    · cases g
  · split at g
    · rename_i hl
      cases g
      obtain ⟨a, vs, rfl, s1, r1⟩ := p1.list
      obtain ⟨b, us, rfl, s2, r2⟩ := p2.list
      refine .inr (.inr (.inr ⟨a, b, vs, us, rfl, rfl, s1, s2, by rw [← r1.length, ← r2.length]; exact lim_line hl, q.lst w (r1.app r2)⟩))
    · cases g
  · split at g
    · rename_i hl
      cases g
      obtain ⟨a, vs, rfl, s1, r1⟩ := p1.tup
      obtain ⟨b, us, rfl, s2, r2⟩ := p2.tup
      refine .inr (.inr (.inl ⟨a, b, vs, us, rfl, rfl, s1.sq, s2.sq, by rw [← r1.length, ← r2.length]; exact lim_line hl, fun e => ?_, fun _ e => ?_, fun _ _ => q.tup w (r1.app r2)⟩))
      · subst e
        cases r1
        exact q.is w (.tup s2 r2)
      · subst e
        cases r2
        rw [List.append_nil] at q
        exact q.is w (.tup s1 r1)
    · cases g
theorem opI_D {op : Operator} {C : Int → Int → Prop} {g : Int → Int → Int} {f : Int → Int → Option Int} (h : OpR X (binaryOp op) (rI C fun i j => .int (g i j))) (hf : ∀ i j r, f i j = some r → C i j ∧ r = g i j) : OpR X (binaryOp op) (rD X.K (intD f)) := by
  refine OpR.imp h ?_
  rintro x y H Q ⟨R, st, as, d, e, r, w, p1, p2, k, q⟩
  cases d <;> cases e <;> simp only [intD] at k <;> try (cases k; done)
  rename_i i j
  cases hk : f i j with
  | none => rw [hk] at k; cases k
  | some z =>
    rw [hk] at k
    cases k
    obtain ⟨c, rfl⟩ := hf i j z hk
    rw [p1.int, p2.int]
    exact ⟨i, j, rfl, rfl, c, q.int w⟩
theorem opI0_D {op : Operator} {g : Int → Int → Int} {f : Int → Int → Option Int} (h : OpR X (binaryOp op) (rI0 fun i j => .int (g i j))) (hf : ∀ i j r, f i j = some r → r = g i j) : OpR X (binaryOp op) (rD X.K (intD f)) := by
  refine OpR.imp h ?_
  rintro x y H Q ⟨R, st, as, d, e, r, w, p1, p2, k, q⟩
  cases d <;> cases e <;> simp only [intD] at k <;> try (cases k; done)
  rename_i i j
  cases hk : f i j with
  | none => rw [hk] at k; cases k
  | some z =>
    rw [hk] at k
    cases k
    obtain rfl := hf i j z hk
    rw [p1.int, p2.int]
    exact ⟨i, j, rfl, rfl, q.int w⟩
theorem pow_ok {i j : Int} (h : powOk i j = true) : CPow i j := by
  simp only [powOk, Bool.and_eq_true, decide_eq_true_eq] at h
  exact ⟨h.1.1, by omega, h.2⟩
theorem ofIf {c : Prop} [Decidable c] {x r : Int} {C : Prop} (h : (if c then some x else none) = some r) (k : c → C) : C ∧ r = x := by
  by_cases hc : c
  · rw [if_pos hc] at h
    exact ⟨k hc, (Option.some.inj h).symm⟩
  · rw [if_neg hc] at h
    cases h
theorem op_binD (op : Operator) : OpR X (binaryOp op) (rD X.K (binD op)) := by
  cases op with
  | Add => exact op_addD
  | Sub => exact opI0_D op_sub fun i j r h => (Option.some.inj h).symm
  | Mod => exact opI_D op_mod fun i j r h => ofIf h fun c => c
  | FloorDiv => exact opI_D op_fdiv fun i j r h => ofIf h fun c => c
  | Pow => exact opI_D op_pow fun i j r h => ofIf h fun c => pow_ok c
  | LShift => exact opI_D op_shl fun i j r h => ofIf h fun c => pow_ok c
  | RShift => exact opI_D op_shr fun i j r h => ofIf h fun c => c
  | BitAnd => exact opI0_D op_and fun i j r h => (Option.some.inj h).symm
  | Mult =>
    refine OpR.imp op_mul ?_
    rintro x y H Q ⟨R, st, as, d, e, r, w, p1, p2, k, q⟩
    change mulD d e = some r at k
    cases d <;> cases e <;> simp only [mulD] at k <;> try (cases k; done)
    split at k
    · rename_i i j c
      cases k
      rw [p1.int, p2.int]
      refine ⟨i, j, rfl, rfl, ?_, q.int w⟩
      simp only [mulOk, Bool.or_eq_true, Bool.and_eq_true, decide_eq_true_eq] at c
      exact c
    · cases k
  | _ =>
    rintro pins s σ H x y v u Q I rx ry ⟨R, st, as, d, e, r, w, p1, p2, k, q⟩
    exact absurd k (by simp [binD])
end
end TB
set_option maxRecDepth 100000
/-! TBOps2: dicts' keys; comparisons, subscripts, slices, isinstance, built-ins, by trees. -/
namespace TB
open PySem PySem.Spec PyProof.Rows L2
/-! ### keys -/
theorem eqv_kD (a b : Key) : PyData.eqv (kD a) (kD b) = decide (a = b) := by
  cases a with
  | inl i =>
    cases b with
    | inl j =>
      simp only [kD, PyData.eqv]
      rw [Bool.beq_eq_decide_eq]
      simp
    | inr y => simp [kD, PyData.eqv]
  | inr x =>
    cases b with
    | inl j => simp [kD, PyData.eqv]
    | inr y =>
      simp only [kD, PyData.eqv]
      rw [Bool.beq_eq_decide_eq]
      simp
theorem eqvAll_kD : ∀ (a b : List Key), PyData.eqvAll (a.map kD) (b.map kD) = decide (a = b)
  | [], [] => by simp [PyData.eqvAll]
  | [], _ :: _ => by simp [PyData.eqvAll]
  | _ :: _, [] => by simp [PyData.eqvAll]
  | x :: xs, y :: ys => by
    rw [List.map_cons, List.map_cons, PyData.eqvAll, eqv_kD, eqvAll_kD xs ys]
    by_cases h1 : x = y <;> by_cases h2 : xs = ys <;> simp [h1, h2]
theorem eqv_kT (a b : List Key) : PyData.eqv (.tuple (a.map kD)) (.tuple (b.map kD)) = decide (a = b) := by
  rw [PyData.eqv]; exact eqvAll_kD a b
theorem flat_key {d : D} (h : flatK d = true) : ∃ k, d = kD k := by
  cases d <;> simp [flatK] at h
  · exact ⟨.inl _, rfl⟩
  · exact ⟨.inr _, rfl⟩
theorem flat_keys : ∀ {ds : List D}, ds.all flatK = true → ∃ ks : List Key, ds = ks.map kD
  | [], _ => ⟨[], rfl⟩
  | d :: ds, h => by
    rw [List.all_cons, Bool.and_eq_true] at h
    obtain ⟨k, rfl⟩ := flat_key h.1
    obtain ⟨ks, rfl⟩ := flat_keys h.2
    exact ⟨k :: ks, rfl⟩
theorem tup_key {d : D} (h : tupK d = true) : ∃ ks : List Key, d = .tuple (ks.map kD) := by
  cases d <;> simp only [tupK] at h <;> try (cases h; done)
  obtain ⟨ks, rfl⟩ := flat_keys h
  exact ⟨ks, rfl⟩
theorem flat_kD (k : Key) : flatK (kD k) = true := by cases k <;> rfl
theorem flat_kT (ks : List Key) : flatK (.tuple (ks.map kD)) = false := rfl
theorem tup_kD (k : Key) : tupK (kD k) = false := by cases k <;> rfl
section
variable {K : PySem.W.Frag} {H : Hp} {Z R : Addr → Prop}
theorem Rel.key {k : Key} {v : V} (h : Rel K H Z (kD k) v) : v = kV k := by
  cases k <;> (cases h; rfl)
theorem RelAll.keys : ∀ {ks : List Key} {vs : List V}, RelAll K H Z (ks.map kD) vs → vs = ks.map kV
  | [], _, h => by cases h; rfl
  | k :: ks, _, h => by
    cases h with
    | cons h1 h2 => rw [h1.key, RelAll.keys h2]; rfl
theorem Pk.key {k : Key} {v : V} (h : Pk K H Z (kD k) v) : v = kV k := by
  cases k with
  | inl i => exact h.int
  | inr x => exact h.str
theorem Pk.keyT {ks : List Key} {v : V} (h : Pk K H Z (.tuple (ks.map kD)) v) : ∃ b, v = .ref b ∧ H b = some (.tup (ks.map kV)) ∧ ¬ Z b := by
  obtain ⟨b, vs, rfl, h1, h2⟩ := h.tup
  rw [h2.keys] at h1
  exact ⟨b, rfl, h1.1, h1.2⟩
/-- what is found -/
def Found (K : PySem.W.Frag) (H : Hp) (Z : Addr → Prop) : Option D → Option V → Prop
  | some d, some v => Rel K H Z d v
  | none, none => True
  | _, _ => False
theorem RelK.look {k : Key} : ∀ {es : List (D × D)} {kvs : List (Key × V)}, RelK K H Z es kvs → Found K H Z (lookD es (kD k)) (valV kvs k)
  | _, _, .nil => True.intro
  | _, _, @RelK.cons _ _ _ k' d es v kvs h r => by
    unfold lookD
    rw [List.find?_cons]
    show Found K H Z ((match PyData.eqv (kD k') (kD k) with | true => _ | false => _ : Option (D × D)).map _) _
    rw [eqv_kD]
    by_cases e : k' = k
    · rw [decide_eq_true e, valV_pos e]
      exact h
    · rw [decide_eq_false e, valV_neg e]
      exact RelK.look r
theorem RelT.look {k : List Key} : ∀ {es : List (D × D)} {kvs : List (List Key × V)}, RelT K H Z es kvs → Found K H Z (lookD es (.tuple (k.map kD))) (valV kvs k)
  | _, _, .nil => True.intro
  | _, _, @RelT.cons _ _ _ k' d es v kvs h r => by
    unfold lookD
    rw [List.find?_cons]
    show Found K H Z ((match PyData.eqv (.tuple (k'.map kD)) (.tuple (k.map kD)) with | true => _ | false => _ : Option (D × D)).map _) _
    rw [eqv_kT]
    by_cases e : k' = k
    · rw [decide_eq_true e, valV_pos e]
      exact h
    · rw [decide_eq_false e, valV_neg e]
      exact RelT.look r
theorem RelK.flat : ∀ {es : List (D × D)} {kvs : List (Key × V)}, RelK K H Z es kvs → es ≠ [] → es.all (fun p => tupK p.1) = false
  | _, _, .nil, n => absurd rfl n
  | _, _, .cons _ _, _ => by rw [List.all_cons, tup_kD]; rfl
theorem RelT.tups : ∀ {es : List (D × D)} {kvs : List (List Key × V)}, RelT K H Z es kvs → es ≠ [] → es.all (fun p => flatK p.1) = false
  | _, _, .nil, n => absurd rfl n
  | _, _, .cons _ _, _ => by rw [List.all_cons, flat_kT]; rfl
theorem RelK.length : ∀ {es : List (D × D)} {kvs : List (Key × V)}, RelK K H Z es kvs → es.length = kvs.length
  | _, _, .nil => rfl
  | _, _, .cons _ r => by rw [List.length_cons, List.length_cons, r.length]
theorem RelT.length : ∀ {es : List (D × D)} {kvs : List (List Key × V)}, RelT K H Z es kvs → es.length = kvs.length
  | _, _, .nil => rfl
  | _, _, .cons _ r => by rw [List.length_cons, List.length_cons, r.length]
end
section
variable {X : Cx} {pins : List (Addr × Obj)} {σ : L2.St} {H : Hp} {s : Shared} {a : Addr}
/-- the empty dict, told the one way or the other -/
theorem empty_KT (I : Inv X pins σ H s) (e : H a = some (.dK [])) : Inv X pins σ (upd H a (.dT [])) s := by
  obtain ⟨z, hd, vs, rel, o, es, ep, ho, hx, hdt, hk, hp, hn⟩ := I.hok a _ e
  cases rel
  have he : es.toList = [] := by
    cases hq : es.toList with
    | nil => rfl
    | cons x r => rw [hq] at hp; cases hp
  refine I.write (x := a) (e := a) (h' := s.heap) (t' := s.toks) (by rw [e]; exact True.intro) (.inl rfl) (fun b u _ q => q) ⟨o, ho⟩ ?_
  exact ⟨Nat.zero_le _, hd, [], .nil, o, es, ep, ho, hx, hdt, by rw [he]; rfl, List.nodup_nil⟩
theorem empty_TK (I : Inv X pins σ H s) (e : H a = some (.dT [])) : Inv X pins σ (upd H a (.dK [])) s := by
  obtain ⟨z, hd, xs, rel, o, es, ep, ho, hx, hdt, hk, hn⟩ := I.hok a _ e
  cases rel
  have he : es = #[] := by
    have : es.toList = [] := hk
    simpa using this
  subst he
  refine I.write (x := a) (e := a) (h' := s.heap) (t' := s.toks) (by rw [e]; exact True.intro) (.inl rfl) (fun b u _ q => q) ⟨o, ho⟩ ?_
  exact dk_new (vs := []) (Nat.zero_le _) hd .nil ⟨o, #[], ep, ho, hx, hdt, fun e he => absurd he (by simp), .nil, List.nodup_nil⟩
theorem upd_self {o : HO} (e : H a = some o) : upd H a o = H := by
  funext b
  unfold upd
  split
  · rename_i h; rw [h, e]
  · rfl
/-- a look into a dict, by trees -/
theorem look_of {K : PySem.W.Frag} {Z : Addr → Prop} (I : Inv X pins σ H s) {es : List (D × D)} {k : D} {x y : V} (pd : Pk K H Z (.dict es) x) (pk : Pk K H Z k y) (ok : keysOk es k = true) :
    ∃ a o H2, x = .ref a ∧ Inv X pins σ H2 s ∧ (∀ s', Inv X pins σ H2 s' → Inv X pins σ H s') ∧ DGet H2 a y o ∧ Found K H Z (lookD es k) o := by
  simp only [keysOk, Bool.or_eq_true, Bool.and_eq_true] at ok
  obtain ⟨a, rfl, h⟩ := pd.dict
  rcases ok with ⟨o1, o2⟩ | ⟨o1, o2⟩
  · obtain ⟨k, rfl⟩ := flat_key o2
    rcases h with ⟨kvs, e, r⟩ | ⟨kvs, e, r⟩
    · exact ⟨a, _, H, rfl, I, fun _ J => J, .inl ⟨kvs, k, .inl e, pk.key, rfl⟩, r.look⟩
    · by_cases hn : es = []
      · subst hn
        cases r
        refine ⟨a, none, upd H a (.dK []), rfl, empty_TK I e, fun s' J => ?_, .inl ⟨[], k, .inl upd_same, pk.key, rfl⟩, True.intro⟩
        have := empty_KT J upd_same
        rw [upd_upd, upd_self e] at this
        exact this
      · rw [r.tups hn] at o1; cases o1
  · obtain ⟨ks, rfl⟩ := tup_key o2
    obtain ⟨b, rfl, eb, nb⟩ := pk.keyT
    rcases h with ⟨kvs, e, r⟩ | ⟨kvs, e, r⟩
    · by_cases hn : es = []
      · subst hn
        cases r
        refine ⟨a, none, upd H a (.dT []), rfl, empty_KT I e, fun s' J => ?_, .inr ⟨[], ks, b, .inl upd_same, rfl, ?_, rfl⟩, True.intro⟩
        · have := empty_TK J upd_same
          rw [upd_upd, upd_self e] at this
          exact this
        · rw [upd_ne (ne_of eb e (by intro z; cases z))]; exact eb
      · rw [r.flat hn] at o1; cases o1
    · exact ⟨a, _, H, rfl, I, fun _ J => J, .inr ⟨kvs, ks, b, .inl e, rfl, eb, rfl⟩, r.look⟩
end
/-! ### comparisons -/
section
variable {X : Cx}
theorem lay_of {d : D} (h : shapedB d = true) : d.canLay0 = true := SeqAt.canLay_of_shaped h
theorem op_inD0 (hu : X.A.units + 65 < cLine) : OpR X (compareOp .In) (rD X.K fun x y => (memD x y).map .bool) := by
  rintro pins s σ H x y v u Q I rx ry ⟨R, st, as, d, e, r, w, p1, p2, k, q⟩
  cases e <;> simp only [memD] at k <;> try (cases k; done)
  · split at k
    · rename_i ds c
      rw [Bool.and_eq_true] at c
      cases k
      exact op_inD hu pins s σ H x y v u Q I rx ry ⟨d, ds, p1.dp (lay_of c.1), p2.dp (lay_of c.2), c.1, c.2, q.bool w⟩
    · cases k
  · split at k
    · rename_i ds c
      rw [Bool.and_eq_true] at c
      cases k
      obtain ⟨as1, r1⟩ := Dp.reads I d x v (p1.dp (lay_of c.1)) rx
      obtain ⟨bs1, r2⟩ := Dp.reads I (.tuple ds) y u (p2.dp (lay_of c.2)) ry
      exact SeqAt.in_tuple_reads r2 r1 (by have := lay_of c.2; rwa [PyData.canLay0] at this) (lay_of c.1) (room_in_shaped c.1 hu) ⟨.bl _, H, I, rfl, q.bool w⟩
    · cases k
  · split at k
    · rename_i es c
      cases k
      obtain ⟨a, o, H2, rfl, J, back, g, f⟩ := look_of I p2 p1 c
      cases ry
      refine d_in (by omega) J g rx fun s' J' => ⟨.bl _, H, back s' J', rfl, ?_⟩
      have e : o.isSome = (lookD es d).isSome := by
        cases h1 : lookD es d <;> cases h2 : o <;> rw [h1, h2] at f <;> first | rfl | exact f.elim
      rw [e]
      exact q.bool w
    · cases k
theorem op_notInD0 (hu : X.A.units + 65 < cLine) : OpR X (compareOp .NotIn) (rD X.K fun x y => (memD x y).map fun b => .bool !b) := by
  rintro pins s σ H x y v u Q I rx ry ⟨R, st, as, d, e, r, w, p1, p2, k, q⟩
  cases e <;> simp only [memD] at k <;> try (cases k; done)
  · split at k
    · rename_i ds c
      rw [Bool.and_eq_true] at c
      cases k
      exact op_notInD hu pins s σ H x y v u Q I rx ry ⟨d, ds, p1.dp (lay_of c.1), p2.dp (lay_of c.2), c.1, c.2, q.bool w⟩
    · cases k
  · split at k
    · rename_i ds c
      rw [Bool.and_eq_true] at c
      cases k
      obtain ⟨as1, r1⟩ := Dp.reads I d x v (p1.dp (lay_of c.1)) rx
      obtain ⟨bs1, r2⟩ := Dp.reads I (.tuple ds) y u (p2.dp (lay_of c.2)) ry
      exact SeqAt.notIn_tuple_reads r2 r1 (by have := lay_of c.2; rwa [PyData.canLay0] at this) (lay_of c.1) (room_in_shaped c.1 hu) ⟨.bl _, H, I, rfl, q.bool w⟩
    · cases k
  · split at k
    · rename_i es c
      cases k
      obtain ⟨a, o, H2, rfl, J, back, g, f⟩ := look_of I p2 p1 c
      cases ry
      refine d_notIn (by omega) J g rx fun s' J' => ⟨.bl _, H, back s' J', rfl, ?_⟩
      have e : o.isSome = (lookD es d).isSome := by
        cases h1 : lookD es d <;> cases h2 : o <;> rw [h1, h2] at f <;> first | rfl | exact f.elim
      rw [e]
      exact q.bool w
    · cases k
theorem op_ltD (hu : X.A.units + 65 < cLine) : OpR X (compareOp .Lt) (rD X.K fun x y => (ltD x y).map .bool) := by
  rintro pins s σ H x y v u Q I rx ry ⟨R, st, as, d, e, r, w, p1, p2, k, q⟩
  cases d <;> cases e <;> simp only [ltD] at k <;> try (cases k; done)
  · cases k
    exact op_lt pins s σ H x y v u Q I rx ry ⟨_, _, p1.int, p2.int, q.bool w⟩
  · cases k
    exact op_lt_str pins s σ H x y v u Q I rx ry ⟨_, _, p1.str, p2.str, q.bool w⟩
  · split at k
    · rename_i xs ys c
      rw [Bool.and_eq_true, Bool.and_eq_true] at c
      cases k
      obtain ⟨as1, r1⟩ := Dp.reads I (.tuple xs) x v (p1.dp (lay_of c.1.1)) rx
      obtain ⟨bs1, r2⟩ := Dp.reads I (.tuple ys) y u (p2.dp (lay_of c.1.2)) ry
      have room : X.A.units + min (PyData.tuple xs).depth (PyData.tuple ys).depth < cLine := SeqAt.room_of_shaped c.1.1 (by omega)
      exact PySem.W.rcLt_alike _ _ X.A s v u as1 bs1 r1 r2 c.2 (by intro z; cases z) room X.prog X.w X.xe _ ⟨.bl _, H, I, rfl, q.bool w⟩
    · cases k
theorem op_cmpD (hu : X.A.units + 65 < cLine) (op : CmpOp) : OpR X (compareOp op) (rD X.K fun x y => (cmpD op x y).map .bool) := by
  cases op with
  | Lt => exact op_ltD hu
  | In => exact op_inD0 hu
  | NotIn =>
    refine OpR.imp (op_notInD0 hu) ?_
    rintro x y H Q ⟨R, st, as, d, e, r, w, p1, p2, k, q⟩
    refine ⟨R, st, as, d, e, r, w, p1, p2, ?_, q⟩
    rw [← k]
    simp [cmpD, Function.comp_def]
  | Eq =>
    refine OpR.imp (op_eqD (by omega)) ?_
    rintro x y H Q ⟨R, st, as, d, e, r, w, p1, p2, k, q⟩
    simp only [cmpD] at k
    split at k
    · rename_i c
      rw [Bool.and_eq_true] at c
      cases k
      exact ⟨d, e, p1.dp (lay_of c.1), p2.dp (lay_of c.2), c.1, c.2, q.bool w⟩
    · cases k
  | NotEq =>
    refine OpR.imp (op_neD (by omega)) ?_
    rintro x y H Q ⟨R, st, as, d, e, r, w, p1, p2, k, q⟩
    simp only [cmpD] at k
    split at k
    · rename_i c
      rw [Bool.and_eq_true] at c
      cases k
      exact ⟨d, e, p1.dp (lay_of c.1), p2.dp (lay_of c.2), c.1, c.2, q.bool w⟩
    · cases k
  | Gt =>
    refine OpR.imp op_gt ?_
    rintro x y H Q ⟨R, st, as, d, e, r, w, p1, p2, k, q⟩
    cases d <;> cases e <;> simp only [cmpD] at k <;> try (cases k; done)
    cases k
    exact ⟨_, _, p1.int, p2.int, q.bool w⟩
  | GtE =>
    refine OpR.imp op_ge ?_
    rintro x y H Q ⟨R, st, as, d, e, r, w, p1, p2, k, q⟩
    cases d <;> cases e <;> simp only [cmpD] at k <;> try (cases k; done)
    cases k
    exact ⟨_, _, p1.int, p2.int, q.bool w⟩
  | LtE =>
    refine OpR.imp op_le ?_
    rintro x y H Q ⟨R, st, as, d, e, r, w, p1, p2, k, q⟩
    cases d <;> cases e <;> simp only [cmpD, leD] at k <;> try (cases k; done)
    cases k
    exact ⟨_, _, p1.int, p2.int, q.bool w⟩
  | Is =>
    refine OpR.imp (OpR.or op_isN op_isBl) ?_
    rintro x y H Q ⟨R, st, as, d, e, r, w, p1, p2, k, q⟩
    cases e <;> simp only [cmpD, isB] at k <;> try (cases k; done)
    · cases k
      refine .inl ⟨p2.non, ?_⟩
      have e : decide (x = .non) = isNoneD d := by
        cases p1 with
        | rel h => cases h <;> rfl
        | lst _ _ => rfl
        | dK _ _ => rfl
        | dT _ _ => rfl
      rw [e]
      exact q.bool w
    · cases d <;> simp only at k <;> try (cases k; done)
      cases k
      exact .inr ⟨_, _, p1.bool, p2.bool, q.bool w⟩
  | IsNot =>
    refine OpR.imp (OpR.or op_notN op_notBl) ?_
    rintro x y H Q ⟨R, st, as, d, e, r, w, p1, p2, k, q⟩
    cases e <;> simp only [cmpD, isB] at k <;> try (cases k; done)
    · cases k
      refine .inl ⟨p2.non, ?_⟩
      have e : decide (x = .non) = isNoneD d := by
        cases p1 with
        | rel h => cases h <;> rfl
        | lst _ _ => rfl
        | dK _ _ => rfl
        | dT _ _ => rfl
      rw [e]
      exact q.bool w
    · cases d <;> simp only at k <;> try (cases k; done)
      cases k
      exact .inr ⟨_, _, p1.bool, p2.bool, q.bool w⟩
end
end TB
set_option maxRecDepth 100000
/-! TBOps3: subscripts, slices, isinstance, built-ins, by trees. -/
namespace TB
open PySem PySem.Spec PyProof.Rows L2
/-! ### subscripts -/
section
variable {X : Cx}
theorem place_ix (n : Nat) (i : Int) : placeOf n i = ixN n i := rfl
theorem ix_dict (hu : X.A.units + 65 < cLine) : IxR X (fun x y H Q => ∃ R st as es k d, Wld X.K H R st as ∧ Pk X.K H (Zof st as R) (.dict es) x ∧ Pk X.K H (Zof st as R) k y ∧ keysOk es k = true ∧ lookD es k = some d ∧ Ans X.K R st as H d Q) := by
  rintro val sl pins s σ H x y v u Q I rx ry ⟨R, st, as, es, k, d, w, p1, p2, c, l, q⟩ hs
  obtain ⟨a, o, H2, rfl, J, back, g, f⟩ := look_of I p1 p2 c
  cases rx
  rw [l] at f
  cases o with
  | none => exact f.elim
  | some z => exact tail_any (dict_typeIs J g) PySem.F.slot_dict_getitem.lookup (d_getItem (by omega) J g ry fun w' s' J' rw' => ⟨z, H, back s' J', rw', q.is w f⟩) hs
theorem ix_D (hu : X.A.units + 65 < cLine) : IxR X (rD X.K getD) := by
  refine IxR.imp (IxR.or ix_seq (ix_dict hu)) ?_
  rintro x y H Q ⟨R, st, as, d, e, r, w, p1, p2, k, q⟩
  cases d <;> simp only [getD] at k <;> try (cases k; done)
  · cases e <;> simp only at k <;> try (cases k; done)
    rename_i z i
    split at k
    · rename_i hl
      rw [p1.str, p2.int]
      rw [Option.map_eq_some_iff] at k
      obtain ⟨c, hc, rfl⟩ := k
      exact .inl (.inr (.inr ⟨z, i, c, rfl, rfl, lim_line hl, hc, q.str w⟩))
    · cases k
  · cases e <;> simp only at k <;> try (cases k; done)
    rename_i xs i
    obtain ⟨a, vs, rfl, s1, r1⟩ := p1.list
    rw [p2.int]
    rw [Option.bind_eq_some_iff] at k
    obtain ⟨j, hj, hx⟩ := k
    obtain ⟨v, hv, rv⟩ := r1.get hx
    refine .inl (.inl ⟨a, vs, i, v, rfl, rfl, s1.sq, ?_, q.is w rv⟩)
    unfold atI
    rw [← r1.length, ← place_ix, hj]
    exact hv
  · cases e <;> simp only at k <;> try (cases k; done)
    rename_i xs i
    obtain ⟨a, vs, rfl, s1, r1⟩ := p1.tup
    rw [p2.int]
    rw [Option.bind_eq_some_iff] at k
    obtain ⟨j, hj, hx⟩ := k
    obtain ⟨v, hv, rv⟩ := r1.get hx
    refine .inl (.inr (.inl ⟨a, vs, i, v, rfl, rfl, s1.sq, ?_, q.is w rv⟩))
    unfold atI
    rw [← r1.length, ← place_ix, hj]
    exact hv
  · split at k
    · rename_i es c
      exact .inr ⟨R, st, as, es, e, r, w, p1, p2, c, k, q⟩
    · cases k
end
/-! ### slices -/
def rSlD (K : PySem.W.Frag) : V → Option Int → Option Int → Hp → VK → Prop := fun x lo hi H Q => ∃ R st as d r, Wld K H R st as ∧ Pk K H (Zof st as R) d x ∧ sliceD d lo hi = some r ∧ Ans K R st as H r Q
section
variable {X : Cx}
theorem sl_D : SlR X (rSlD X.K) := by
  intro pins s σ H x v vl vu lo hi sl Q I rx hs pl pu ⟨R, st, as, d, r, w, p, k, q⟩
  refine (SlR.or sl_list sl_tupA) pins s σ H x v vl vu lo hi sl Q I rx hs pl pu ?_
  cases d <;> simp only [sliceD] at k <;> try (cases k; done)
  · cases k
    obtain ⟨a, vs, rfl, s1, r1⟩ := p.list
    exact .inl ⟨a, vs, rfl, s1.sq, q.lst w (cut_rel r1 lo hi)⟩
  · cases k
    rename_i ds
    obtain ⟨a, vs, rfl, s1, r1⟩ := p.tup
    refine .inr ⟨a, vs, rfl, s1.sq, fun h => ?_, fun _ => q.tup w (cut_rel r1 lo hi)⟩
    have e : cutD ds lo hi = ds := by
      unfold cutD
      rw [clip_ix, clip_ix, r1.length, h.1, h.2]
      simp [← r1.length]
    rw [e] at q
    exact q.is w (.tup s1 r1)
end
/-! ### isinstance -/
def tyN : Ty → String
  | .int => "int" | .bool => "bool" | .str => "str" | .tuple => "tuple" | .list => "list" | .dict => "dict"
def nameD : D → String
  | .none => "NoneType" | .bool _ => "bool" | .int _ => "int" | .str _ => "str" | .list _ => "list" | .tuple _ => "tuple" | .dict _ => "dict"
theorem isTy_kit (t : Ty) (d : D) : kitB (nameD d) (tyN t) = some (isTy t d) := by
  cases t <;> cases d <;> (simp only [nameD, tyN, isTy]; decide +kernel)
section
variable {K : PySem.W.Frag} {H : Hp} {Z : Addr → Prop}
theorem ls_ty {a : Addr} {vs : List V} (h : LsX K H a vs) : TyX K H (.ref a) (.type "list") := by
  rcases h with (h | ⟨o, h⟩) | ⟨its, n, h, _⟩
  · exact .base (.lst h)
  · exact .base (.frz h)
  · exact .kList h rfl
theorem pk_ty {d : D} {v : V} (h : Pk K H Z d v) : TyX K H v (.type (nameD d)) := by
  cases d with
  | none => rw [h.non]; exact .base .non
  | bool b => rw [h.bool]; exact .base (.bl b)
  | int i => rw [h.int]; exact .base (.int i)
  | str x => rw [h.str]; exact .base (.str x)
  | list ds =>
    obtain ⟨a, vs, rfl, s1, _⟩ := h.list
    exact ls_ty s1
  | tuple ds =>
    obtain ⟨a, vs, rfl, s1, _⟩ := h.tup
    exact .base (.tup s1.1)
  | dict es =>
    obtain ⟨a, rfl, ⟨kvs, e, _⟩ | ⟨kvs, e, _⟩⟩ := h.dict
    · exact .base (.dK e)
    · exact .base (.dT e)
end
def rIsD (K : PySem.W.Frag) (t : Ty) : List V → Hp → VK → Prop := fun xs H Q => ∃ R st as d x, xs = [x, .ty (tyN t)] ∧ Wld K H R st as ∧ Pk K H (Zof st as R) d x ∧ Ans K R st as H (.bool (isTy t d)) Q
theorem call_isD {X : Cx} (t : Ty) : CallR X (.builtin "isinstance") (rIsD X.K t) := by
  refine CallR.imp call_isi ?_
  rintro xs H Q ⟨R, st, as, d, x, rfl, w, p, q⟩
  exact ⟨x, _, _, _, _, rfl, .ty _, pk_ty p, kit_ty (isTy_kit t d), q.bool w⟩
/-! ### built-ins by name -/
theorem bools_of : ∀ {ds : List D} {bs : List Bool}, boolsD ds = some bs → ds = bs.map .bool
  | [], _, h => by cases h; rfl
  | .bool b :: r, _, h => by
    simp only [boolsD, Option.map_eq_some_iff] at h
    obtain ⟨c, hc, rfl⟩ := h
    rw [bools_of hc]; rfl
  | .none :: _, _, h => by cases h
  | .int _ :: _, _, h => by cases h
  | .str _ :: _, _, h => by cases h
  | .list _ :: _, _, h => by cases h
  | .tuple _ :: _, _, h => by cases h
  | .dict _ :: _, _, h => by cases h
theorem ints_of : ∀ {ds : List D} {bs : List Int}, intsD ds = some bs → ds = bs.map .int
  | [], _, h => by cases h; rfl
  | .int b :: r, _, h => by
    simp only [intsD, Option.map_eq_some_iff] at h
    obtain ⟨c, hc, rfl⟩ := h
    rw [ints_of hc]; rfl
  | .none :: _, _, h => by cases h
  | .bool _ :: _, _, h => by cases h
  | .str _ :: _, _, h => by cases h
  | .list _ :: _, _, h => by cases h
  | .tuple _ :: _, _, h => by cases h
  | .dict _ :: _, _, h => by cases h
section
variable {K : PySem.W.Frag} {H : Hp} {Z : Addr → Prop}
theorem RelAll.bls : ∀ {bs : List Bool} {vs : List V}, RelAll K H Z (bs.map .bool) vs → vs = bs.map V.bl
  | [], _, h => by cases h; rfl
  | b :: bs, _, h => by
    cases h with
    | cons h1 h2 => cases h1; rw [RelAll.bls h2]; rfl
theorem RelAll.ints : ∀ {bs : List Int} {vs : List V}, RelAll K H Z (bs.map .int) vs → vs = bs.map V.int
  | [], _, h => by cases h; rfl
  | b :: bs, _, h => by
    cases h with
    | cons h1 h2 => cases h1; rw [RelAll.ints h2]; rfl
theorem RelAll.ofInts : ∀ (bs : List Int), RelAll K H Z (bs.map .int) (bs.map V.int)
  | [] => .nil
  | b :: bs => .cons (.int b) (RelAll.ofInts bs)
theorem PkAll.one {d : D} {vs : List V} (h : PkAll K H Z [d] vs) : ∃ v, vs = [v] ∧ Pk K H Z d v := by
  cases h with
  | cons h1 h2 => cases h2; exact ⟨_, rfl, h1⟩
theorem PkAll.two {d e : D} {vs : List V} (h : PkAll K H Z [d, e] vs) : ∃ v u, vs = [v, u] ∧ Pk K H Z d v ∧ Pk K H Z e u := by
  cases h with
  | cons h1 h2 => obtain ⟨u, rfl, h3⟩ := h2.one; exact ⟨_, u, rfl, h1, h3⟩
end
theorem maxI : ∀ {ns : List Int} {m : Int}, ns.max? = some m → m ∈ ns ∧ ∀ y ∈ ns, y ≤ m := by
  intro ns m h
  have h1 := List.max?_mem h
  refine ⟨h1, fun y hy => ?_⟩
  exact (List.max?_le_iff h).mp (Int.le_refl _) y hy
theorem minI : ∀ {ns : List Int} {m : Int}, ns.min? = some m → m ∈ ns ∧ ∀ y ∈ ns, m ≤ y := by
  intro ns m h
  have h1 := List.min?_mem h
  refine ⟨h1, fun y hy => ?_⟩
  exact (List.le_min?_iff h).mp (Int.le_refl _) y hy
end TB
set_option maxRecDepth 100000
/-! TBOps4: sorted; each built-in by trees. -/
namespace TB
open PySem PySem.Spec PyProof.Rows L2 PySem.W
section
variable {prog : Program} {w : World} {A : Around} {E : Value → Shared → Prop} {s : Shared}
/-- a tuple's items, gathered -/
theorem gather_tuple {l : Addr} {vs : List Value} {Q : List Value → Shared → Prop} (hl : IsTup s.heap l vs.toArray) (hsz : vs.length ≤ sizeLine)
    (h : Q vs { s with heap := (s.heap.push (seqObj "list" #[] 0)).update s.heap.objs.size (Obj.mapSeq (· ++ vs.toArray)) }) : wpAny (model prog w) A (collect (.ref l)) Q E s := by
  obtain ⟨o, ho, hc, n, hd⟩ := id hl
  unfold collect
  refine wpAny_bind <| wpAny_runValue <| codeAny_builtin entry_proto_collect' ?_
  show wpAny _ _ (do again (.builtin "list.__iadd__" ⟨[← newList [], Value.ref l], []⟩)) _ _ s
  refine wpAny_bind <| wpAny_newList <| wpAny_pure ⟨Code.quiet_builtin _ (by decide +kernel), codeAny_builtin entry_list_iadd' ?_⟩
  show wpAny _ _ (Builtin.List.listExtendWith (Value.ref s.heap.objs.size) (Value.ref l) (Value.ref s.heap.objs.size)) _ _ ({ s with heap := s.heap.push (seqObj "list" #[] 0) } : Shared)
  unfold Builtin.List.listExtendWith
  have ho2 : (s.heap.push (seqObj "list" #[] 0)).get? l = some o := Heap.get?_push_of_some _ ho
  refine wpAny_bind <| wpAny_typeOf (T := "tuple") ⟨o, ho2, hc⟩ ?_
  have ht : (Value.type "tuple" == Value.type "tuple") = true := by decide
  rw [if_pos (show _ = true by rw [ht, Bool.or_true])]
  refine wpAny_bind <| listItems_at ho2 hd ?_
  refine wpAny_bind <| listItems_at (xs := #[]) (n := 0) (Heap.get?_push_size _ rfl) rfl ?_
  rw [if_neg (by simp)]
  refine wpAny_bind <| listUpdate_at (xs := #[]) (n := 0) (Heap.get?_push_size _ rfl) rfl ?_ (Nat.zero_le _) (by
    show (#[] ++ vs.toArray).size ≤ sizeLine + 1
    rw [Array.size_append, List.size_toArray]
    exact Nat.le_succ_of_le (by simpa using hsz))
  refine wpAny_pure ?_
  refine wpAny_bind <| wpAny_load (get?_update_seq (Heap.get?_push_size _ rfl) _) ?_
  show wpAny _ _ (pure ((#[] : Array Value) ++ vs.toArray).toList) Q E _
  rw [show ((#[] : Array Value) ++ vs.toArray).toList = vs from by simp]
  exact wpAny_pure h
/-- sorted of a thing whose items are gathered in one step -/
theorem sorted_gathered {x : Value} {vs : List Value} {Q : Value → Shared → Prop} (hL : vs.length ≤ sizeLine) (ha : argsOk "sorted" ⟨[x], []⟩)
    (col : ∀ (E' : Value → Shared → Prop) (Q' : List Value → Shared → Prop), Q' vs { s with heap := (s.heap.push (seqObj "list" #[] 0)).update s.heap.objs.size (Obj.mapSeq (· ++ vs.toArray)) } → wpAny (model prog w) A.in1 (collect x) Q' E' s)
    (body : ∀ E' : Value → Shared → Prop, wpAny (model prog w) A.in1.in1 (Builtin.«list.sort» ⟨[.ref (s.heap.objs.size + 1)], []⟩) (fun f s' => f = .done (.ret .none) ∧ Q (.ref (s.heap.objs.size + 1)) s') E' { s with heap := copyHeap s.heap vs }) :
    wpAny (model prog w) A (call (.builtin "sorted") [x] []) Q E s := by
  refine call_function_entry_kw kind_sorted plain_sorted entry_sorted ha ?_
  unfold Builtin.«sorted»
  refine wpAny_bind (m := checkCount "sorted" 1 1 _) <| wpAny_pure ?_
  refine wpAny_bind <| col _ _ ?_
  refine wpAny_bind <| wpAny_newList ?_ hL
  have hz : ((s.heap.push (seqObj "list" #[] 0)).update s.heap.objs.size (Obj.mapSeq (· ++ vs.toArray))).objs.size = s.heap.objs.size + 1 := (Heap.size_update ..).trans (size_push' ..)
  show wpAny _ _ _ _ _ ({ s with heap := copyHeap s.heap vs } : Shared)
  rw [hz]
  refine wpAny_bind <| wpAny_holding <| wpAny_call_entry_kw slot_list_sort ⟨_, copyHeap_at s.heap vs, rfl⟩ entry_list_sort ?bd (args_list_sort _)
  case bd =>
    refine wpAny_mono (body _) (fun f s' hf => ?_) fun _ _ e => e
    rw [hf.1]
    exact ⟨_, rfl, wpAny_pure ⟨_, rfl, hf.2⟩⟩
theorem args_sortedX (x : Value) : argsOk "sorted" ⟨[x], []⟩ := args_sorted1 x
theorem sorted_tup_data {l : Addr} {vs : List Value} {ds : List PyData} {R : Value → PyData → Prop} {Q : Value → Shared → Prop} (hl : IsTup s.heap l vs.toArray) (e : EachIs R vs ds) (er : EachIs (fun v b => ∃ as, Reads s.heap v b as) vs ds)
    (hal : AllAlike ds) (hk : Sortable ds) (hL : ds.length ≤ sizeLine) (hu : ∀ b, b ∈ ds → A.units + 2 + b.depth < cLine)
    (h : ∀ out, out.length = ds.length → EachIs R out (ds.mergeSort (dataLe false id)) → Q (.ref (s.heap.objs.size + 1)) { s with heap := sortedAll s.heap vs (List.toArray out) }) :
    wpAny (model prog w) A (call (.builtin "sorted") [.ref l]) Q E s := by
  have hL' : vs.length ≤ sizeLine := by rw [e.length]; exact hL
  refine sorted_gathered (vs := vs) hL' (args_sortedX _) (fun E' Q' q => gather_tuple hl hL' q) fun E' => ?_
  have er' : EachIs (fun v b => ∃ as, Reads (sortingHeap (copyHeap s.heap vs) (s.heap.objs.size + 1) vs) v b as) vs ds := er.mono fun _ _ ⟨as, r⟩ => ⟨as, PyProof.Rows.Reads.keeps (fun _ _ => sorting_copy_old) r⟩
  have S : SortsAt prog w A.in1.in1 { s with heap := sortingHeap (copyHeap s.heap vs) (s.heap.objs.size + 1) vs } (dataKind (sortingHeap (copyHeap s.heap vs) (s.heap.objs.size + 1) vs) ds) vs :=
    SortsAt.data (s := { s with heap := sortingHeap (copyHeap s.heap vs) (s.heap.objs.size + 1) vs }) er' hal hk hu
  refine list_sort_vals (s := { s with heap := copyHeap s.heap vs }) (copyHeap_at s.heap vs) S hL' ⟨rfl, ?_⟩
  have hs := sortVals_data (enc := id) (h' := sortingHeap (copyHeap s.heap vs) (s.heap.objs.size + 1) vs) false e er' (by rw [List.map_id]; exact hal)
  rw [List.map_id] at hs
  exact h _ ((sortVals_length false rfl).trans e.length) hs
end
/-! ### by trees -/
section
variable {K : PySem.W.Frag} {H : Hp} {Z : Addr → Prop}
theorem RelAll.each : ∀ {ds : List D} {vs : List V} {us : List Value}, RelAll K H Z ds vs → Vals vs us → EachIs (fun u d => ∃ v, Rel K H Z d v ∧ RelV v u) us ds
  | _, _, _, .nil, .nil => .nil
  | _, _, _, .cons h r, .cons q t => .cons ⟨_, h, q⟩ (RelAll.each r t)
theorem each_rel : ∀ {us : List Value} {ds : List D}, EachIs (fun u d => ∃ v, Rel K H Z d v ∧ RelV v u) us ds → ∃ vs, RelAll K H Z ds vs ∧ Vals vs us
  | _, _, .nil => ⟨[], .nil, .nil⟩
  | _, _, .cons ⟨v, h1, h2⟩ t => by
    obtain ⟨vs, h3, h4⟩ := each_rel t
    exact ⟨v :: vs, .cons h1 h3, .cons h2 h4⟩
theorem each_reads {X : Cx} {pins : List (Addr × Obj)} {σ : L2.St} {s : Shared} (I : Inv X pins σ H s) : ∀ {us : List Value} {ds : List D}, (∀ d ∈ ds, shapedB d = true) → EachIs (fun u d => ∃ v, Rel X.K H Z d v ∧ RelV v u) us ds → EachIs (fun u d => ∃ as, Reads s.heap u d as) us ds := by
  intro us ds hs e
  induction e with
  | nil => exact .nil
  | cons h t ih =>
    obtain ⟨v, h1, h2⟩ := h
    exact .cons (Dp.reads I _ v _ (h1.dp (lay_of (hs _ (.head _)))) h2) (ih fun d hd => hs d (.tail _ hd))
end
theorem alike_of {ds : List D} (h : alikeAllB ds = true) : AllAlike ds := by
  intro d hd e he
  unfold alikeAllB at h
  rw [List.all_eq_true] at h
  have := h d hd
  rw [List.all_eq_true] at this
  exact this e he
theorem sortable_of {ds : List D} (h : sortableB ds = true) : Sortable ds := by
  unfold sortableB at h
  rw [Bool.or_eq_true, List.all_eq_true, List.all_eq_true] at h
  rcases h with h | h
  · refine .inl fun d hd => ?_
    have := h d hd
    split at this
    · exact ⟨_, _, rfl⟩
    · cases this
  · refine .inr fun d hd => ?_
    have := h d hd
    split at this
    · cases this
    · cases this
    · rename_i h1 h2
      exact ⟨fun z => h1 z, fun xs z => h2 xs z⟩
section
variable {X : Cx}
theorem cr_sortedD (hu : X.A.units + 200 < cLine) : CallR X (.builtin "sorted") (rDs X.K (biD .sorted)) := by
  rintro pins s σ H xs us Q I rx ⟨R, st, as, ds, r, w, p, k, q⟩
  have main : ∀ (es : List D) (vs : List V) (its : List Value), RelAll X.K H (Zof st as R) es vs → Vals vs its → sortedD es = some r → AllAlike es ∧ Sortable es ∧ es.length ≤ sizeLine ∧ (∀ b ∈ es, X.A.units + 2 + b.depth < cLine) ∧ (∀ d ∈ es, shapedB d = true) ∧
      ∀ out : List Value, out.length = es.length → EachIs (fun u d => ∃ v, Rel X.K H (Zof st as R) d v ∧ RelV v u) out (es.mergeSort (dataLe false id)) → EP X pins σ Q (.ref (s.heap.objs.size + 1)) { s with heap := PyProof.Rows.sortedAll s.heap its (List.toArray out) } := by
    intro es vs its re rv hk
    unfold sortedD at hk
    split at hk
    · rename_i c
      simp only [Bool.and_eq_true, decide_eq_true_eq, List.all_eq_true] at c
      cases hk
      refine ⟨alike_of c.1.1.1, sortable_of c.1.1.2, lim_line c.1.2, fun b hb => ?_, c.2, fun out hl eo => ?_⟩
      · have := SeqAt.depth_of_shaped (c.2 b hb)
        omega
      · obtain ⟨ws, r2, v2⟩ := each_rel eo
        obtain ⟨ep, he⟩ := PyProof.Rows.sortedAll_at s.heap its (List.toArray out)
        refine ⟨.ref _, upd H (s.heap.objs.size + 1) (.lst ws), I.laid (t' := s.toks) (fun _ _ => PyProof.Rows.sortedAll_old) (Nat.le_succ _) ⟨?_, out, ep, v2, he⟩, rfl, q.lst w r2 _ (I.hok.fresh (Nat.le_succ _))⟩
        rw [v2.length, hl]
        exact lim_line c.1.2
    · cases hk
  match ds, p, k with
  | [.list es], p, k =>
    obtain ⟨v, rfl, p1⟩ := p.one
    obtain ⟨a, vs, rfl, s1, r1⟩ := p1.list
    obtain ⟨its, n, rv, hg, _⟩ := s1.at I
    obtain ⟨h1, h2, h3, h4, h5, h6⟩ := main es vs its r1 rv k
    rw [Vals.ref1 rx]
    have e := r1.each rv
    refine sorted_data (enc := id) (vs := its) (bs := es) ⟨_, hg, rfl, n, rfl⟩ e (each_reads I h5 e) (by rw [List.map_id]; exact h1) (by rw [List.map_id]; exact h2) h3 h4 fun out o1 o2 => h6 out o1 o2
  | [.tuple es], p, k =>
    obtain ⟨v, rfl, p1⟩ := p.one
    obtain ⟨a, vs, rfl, s1, r1⟩ := p1.tup
    obtain ⟨its, rv, ht, _⟩ := I.tuple s1.sq
    obtain ⟨h1, h2, h3, h4, h5, h6⟩ := main es vs its r1 rv k
    rw [Vals.ref1 rx]
    have e := r1.each rv
    exact sorted_tup_data ht e (each_reads I h5 e) h1 h2 h3 h4 fun out o1 o2 => h6 out o1 o2
def biV : Bi → Value
  | .len => .builtin "len" | .all => .builtin "all" | .any => .builtin "any" | .tuple => .type "tuple" | .list => .type "list" | .sorted => .builtin "sorted"
  | .max => .builtin "max" | .min => .builtin "min" | .sum => .builtin "sum" | .abs => .builtin "abs" | .divmod => .builtin "divmod" | .int => .type "int"
  | .str => .type "str" | .repr => .builtin "repr" | .sortedset => .none | .lenset => .none | .dict => .type "dict" | .bool => .type "bool"
theorem dict_len (es : List (D × D)) : True := trivial
theorem cr_biD (hc : X.calm = true) (hu : X.A.units + 200 < cLine) (b : Bi) (h1 : b ≠ .sortedset) (h2 : b ≠ .lenset) : CallR X (biV b) (rDs X.K (biD b)) := by
  cases b with
  | sorted => exact cr_sortedD hu
  | len =>
    rintro pins s σ H xs us Q I rx ⟨R, st, as, ds, r, w, p, k, q⟩
    match ds, p, k with
    | [.list es], p, k =>
      cases k
      obtain ⟨v, rfl, p1⟩ := p.one
      obtain ⟨a, vs, rfl, s1, r1⟩ := p1.list
      refine call_len pins s σ H _ us Q I rx ⟨_, vs.length, rfl, .inl ⟨vs, s1.sq, rfl⟩, ?_⟩
      rw [← r1.length]; exact q.int w
    | [.tuple es], p, k =>
      cases k
      obtain ⟨v, rfl, p1⟩ := p.one
      obtain ⟨a, vs, rfl, s1, r1⟩ := p1.tup
      refine call_len pins s σ H _ us Q I rx ⟨_, vs.length, rfl, .inr ⟨vs, s1.sq, rfl⟩, ?_⟩
      rw [← r1.length]; exact q.int w
    | [.str z], p, k =>
      simp only [biD] at k
      split at k
      · rename_i hl
        cases k
        obtain ⟨v, rfl, p1⟩ := p.one
        rw [p1.str] at rx
        exact call_len pins s σ H _ us Q I rx ⟨_, z.length, rfl, ⟨lim_line hl, rfl⟩, q.int w⟩
      · cases k
    | [.dict es], p, k =>
      cases k
      obtain ⟨v, rfl, p1⟩ := p.one
      obtain ⟨a, rfl, ⟨kvs, e, re⟩ | ⟨kvs, e, re⟩⟩ := p1.dict
      · rw [Vals.ref1 rx]
        refine d_len I (.inl e) fun t s' I' => ⟨.int kvs.length, H, I', ⟨t, rfl⟩, ?_⟩
        rw [← re.length]; exact q.int w
      · refine call_len_dT pins s σ H _ us Q I rx ⟨a, kvs, rfl, e, ?_⟩
        rw [← re.length]; exact q.int w
  | all =>
    refine CallR.imp (cr_all hc) ?_
    rintro xs H Q ⟨R, st, as, ds, r, w, p, k, q⟩
    match ds, p, k with
    | [.list es], p, k =>
      simp only [biD, Option.map_eq_some_iff] at k
      obtain ⟨bs, hb, rfl⟩ := k
      obtain ⟨v, rfl, p1⟩ := p.one
      obtain ⟨a, vs, rfl, s1, r1⟩ := p1.list
      rw [bools_of hb] at r1
      rw [r1.bls] at s1
      exact ⟨a, bs, rfl, s1.sq, q.bool w⟩
  | any =>
    refine CallR.imp (cr_any hc) ?_
    rintro xs H Q ⟨R, st, as, ds, r, w, p, k, q⟩
    match ds, p, k with
    | [.list es], p, k =>
      simp only [biD, Option.map_eq_some_iff] at k
      obtain ⟨bs, hb, rfl⟩ := k
      obtain ⟨v, rfl, p1⟩ := p.one
      obtain ⟨a, vs, rfl, s1, r1⟩ := p1.list
      rw [bools_of hb] at r1
      rw [r1.bls] at s1
      exact ⟨a, bs, rfl, s1.sq, q.bool w⟩
  | tuple =>
    refine CallR.imp call_tuple_of ?_
    rintro xs H Q ⟨R, st, as, ds, r, w, p, k, q⟩
    match ds, p, k with
    | [.list es], p, k =>
      cases k
      obtain ⟨v, rfl, p1⟩ := p.one
      obtain ⟨a, vs, rfl, s1, r1⟩ := p1.list
      exact ⟨a, vs, rfl, .inl ⟨s1.sq, q.tup w r1⟩⟩
    | [.tuple es], p, k =>
      cases k
      obtain ⟨v, rfl, p1⟩ := p.one
      obtain ⟨a, vs, rfl, s1, r1⟩ := p1.tup
      exact ⟨a, vs, rfl, .inr ⟨s1.sq, q.is w (.tup s1 r1)⟩⟩
  | list =>
    refine CallR.imp call_list_of ?_
    rintro xs H Q ⟨R, st, as, ds, r, w, p, k, q⟩
    match ds, p, k with
    | [.list es], p, k =>
      cases k
      obtain ⟨v, rfl, p1⟩ := p.one
      obtain ⟨a, vs, rfl, s1, r1⟩ := p1.list
      exact ⟨a, vs, rfl, .inl s1.sq, q.lst w r1⟩
    | [.tuple es], p, k =>
      cases k
      obtain ⟨v, rfl, p1⟩ := p.one
      obtain ⟨a, vs, rfl, s1, r1⟩ := p1.tup
      exact ⟨a, vs, rfl, .inr s1.sq, q.lst w r1⟩
  | max =>
    refine CallR.imp (CallR.or (call_max2 hc) (cr_max hc)) ?_
    rintro xs H Q ⟨R, st, as, ds, r, w, p, k, q⟩
    match ds, p, k with
    | [.int i, .int j], p, k =>
      cases k
      obtain ⟨v, u, rfl, p1, p2⟩ := p.two
      rw [p1.int, p2.int]
      exact .inl ⟨i, j, rfl, q.int w⟩
    | [.list es], p, k =>
      simp only [biD, Option.bind_eq_some_iff, Option.map_eq_some_iff] at k
      obtain ⟨ns, hb, m, hm, rfl⟩ := k
      obtain ⟨v, rfl, p1⟩ := p.one
      obtain ⟨a, vs, rfl, s1, r1⟩ := p1.list
      rw [ints_of hb] at r1
      rw [r1.ints] at s1
      obtain ⟨m1, m2⟩ := maxI hm
      refine .inr ⟨a, ns, rfl, s1.sq, List.length_pos_of_mem m1, fun m' h1 h2 => ?_⟩
      have : m' = m := Int.le_antisymm (m2 _ h1) (h2 _ m1)
      rw [this]; exact q.int w
  | min =>
    refine CallR.imp (CallR.or (call_min2 hc) (cr_min hc)) ?_
    rintro xs H Q ⟨R, st, as, ds, r, w, p, k, q⟩
    match ds, p, k with
    | [.int i, .int j], p, k =>
      cases k
      obtain ⟨v, u, rfl, p1, p2⟩ := p.two
      rw [p1.int, p2.int]
      exact .inl ⟨i, j, rfl, q.int w⟩
    | [.list es], p, k =>
      simp only [biD, Option.bind_eq_some_iff, Option.map_eq_some_iff] at k
      obtain ⟨ns, hb, m, hm, rfl⟩ := k
      obtain ⟨v, rfl, p1⟩ := p.one
      obtain ⟨a, vs, rfl, s1, r1⟩ := p1.list
      rw [ints_of hb] at r1
      rw [r1.ints] at s1
      obtain ⟨m1, m2⟩ := minI hm
      refine .inr ⟨a, ns, rfl, s1.sq, List.length_pos_of_mem m1, fun m' h1 h2 => ?_⟩
      have : m' = m := Int.le_antisymm (h2 _ m1) (m2 _ h1)
      rw [this]; exact q.int w
  | sum =>
    refine CallR.imp (cr_sum hc) ?_
    rintro xs H Q ⟨R, st, as, ds, r, w, p, k, q⟩
    match ds, p, k with
    | [.list es], p, k =>
      simp only [biD, Option.map_eq_some_iff] at k
      obtain ⟨ns, hb, rfl⟩ := k
      obtain ⟨v, rfl, p1⟩ := p.one
      obtain ⟨a, vs, rfl, s1, r1⟩ := p1.list
      rw [ints_of hb] at r1
      rw [r1.ints] at s1
      exact ⟨a, ns, rfl, s1.sq, q.int w⟩
  | abs =>
    refine CallR.imp call_abs ?_
    rintro xs H Q ⟨R, st, as, ds, r, w, p, k, q⟩
    match ds, p, k with
    | [.int i], p, k =>
      cases k
      obtain ⟨v, rfl, p1⟩ := p.one
      rw [p1.int]
      exact ⟨i, rfl, q.int w⟩
  | divmod =>
    refine CallR.imp call_divmod ?_
    rintro xs H Q ⟨R, st, as, ds, r, w, p, k, q⟩
    match ds, p, k with
    | [.int i, .int j], p, k =>
      simp only [biD] at k
      split at k
      · rename_i c
        cases k
        obtain ⟨v, u, rfl, p1, p2⟩ := p.two
        rw [p1.int, p2.int]
        exact ⟨i, j, rfl, c, q.tup w (.cons (.int _) (.cons (.int _) .nil))⟩
      · cases k
  | int =>
    refine CallR.imp call_int1 ?_
    rintro xs H Q ⟨R, st, as, ds, r, w, p, k, q⟩
    match ds, p, k with
    | [.int i], p, k =>
      cases k
      obtain ⟨v, rfl, p1⟩ := p.one
      rw [p1.int]
      exact .inl ⟨i, rfl, q.int w⟩
    | [.bool i], p, k =>
      cases k
      obtain ⟨v, rfl, p1⟩ := p.one
      rw [p1.bool]
      exact .inr ⟨i, rfl, q.int w⟩
  | sortedset => exact absurd rfl h1
  | lenset => exact absurd rfl h2
  | str =>
    rintro pins s σ H xs us Q I rx ⟨R, st, as, ds, r, w, p, k, q⟩
    exact absurd k (by simp [biD])
  | repr =>
    rintro pins s σ H xs us Q I rx ⟨R, st, as, ds, r, w, p, k, q⟩
    exact absurd k (by simp [biD])
  | dict =>
    rintro pins s σ H xs us Q I rx ⟨R, st, as, ds, r, w, p, k, q⟩
    exact absurd k (by simp [biD])
  | bool =>
    rintro pins s σ H xs us Q I rx ⟨R, st, as, ds, r, w, p, k, q⟩
    exact absurd k (by simp [biD])
end
end TB
set_option maxRecDepth 100000
/-! TBMatch: a syntax tree of mine stands for a tree of the machine's. -/
namespace TB
open PySem PySem.Spec PyProof.Rows L2
/-- names by slots, functions by numbers, constants by numbers -/
structure Cxt where
  N : List Str
  fn : List Str
  gl : List Str
def visB (sc : Scope) (x : Str) : Bool := match sc.names.lookup x with
  | some .local => true
  | some .cell => true
  | some .free => true
  | _ => false
def locB (sc : Scope) (x : Str) : Bool := match sc.names.lookup x with
  | some .local => true
  | _ => false
def lcB (sc : Scope) (x : Str) : Bool := match sc.names.lookup x with
  | some .local => true
  | some .cell => true
  | _ => false
def glB (sc : Scope) (x : Str) : Bool := match sc.names.lookup x with
  | some .globalImplicit => true
  | _ => false
def plainN (x : Str) : Bool := !(x == ("__debug__" : Str)) && !(x == ("__classdict__" : Str))
def notStar : Expr → Bool
  | .Starred _ _ => false
  | _ => true
def notSlice : Expr → Bool
  | .Slice _ _ _ _ => false
  | _ => true
def notSetD : Expr → Bool
  | .Set _ _ _ => false
  | _ => true
def biX : Bi → Str
  | .len => "len" | .all => "all" | .any => "any" | .tuple => "tuple" | .list => "list" | .sorted => "sorted"
  | .max => "max" | .min => "min" | .sum => "sum" | .abs => "abs" | .divmod => "divmod" | .int => "int"
  | .str => "str" | .repr => "repr" | .sortedset => "sorted" | .lenset => "len" | .dict => "dict" | .bool => "bool"
def tyX : Ty → Str
  | .int => "int" | .bool => "bool" | .str => "str" | .tuple => "tuple" | .list => "list" | .dict => "dict"
def nmIs (c : Cxt) (i : Nat) (x : Str) : Bool := decide (c.N[i]? = some x)
def eqOp (a b : Operator) : Bool := match a, b with
  | .Add, .Add => true | .Sub, .Sub => true | .Mult, .Mult => true | .Mod, .Mod => true | .FloorDiv, .FloorDiv => true | .Pow, .Pow => true
  | .LShift, .LShift => true | .RShift, .RShift => true | .BitAnd, .BitAnd => true | _, _ => false
def eqCmp (a b : CmpOp) : Bool := match a, b with
  | .Eq, .Eq => true | .NotEq, .NotEq => true | .Lt, .Lt => true | .LtE, .LtE => true | .Gt, .Gt => true | .GtE, .GtE => true
  | .Is, .Is => true | .IsNot, .IsNot => true | .In, .In => true | .NotIn, .NotIn => true | _, _ => false
theorem eqOp_eq {a b : Operator} (h : eqOp a b = true) : a = b := by cases a <;> cases b <;> first | rfl | cases h
theorem eqCmp_eq {a b : CmpOp} (h : eqCmp a b = true) : a = b := by cases a <;> cases b <;> first | rfl | cases h
def matchC (d : D) (k : Const) : Bool := match d, k with
  | .none, .none => true
  | .bool b, .bool c => b == c
  | .int i, .int j => decide (i = j)
  | .str x, .str y => decide (x = y)
  | _, _ => false
def matchNm (c : Cxt) (sc : Scope) (i : Nat) (py : Expr) : Bool := match py with
  | .Name x _ => nmIs c i x && lcB sc x && plainN x
  | _ => false
def matchNms (c : Cxt) (sc : Scope) : List Nat → List Expr → Bool
  | [], [] => true
  | i :: is, e :: es => matchNm c sc i e && matchNms c sc is es
  | _, _ => false
def matchT (c : Cxt) (sc : Scope) (t : Tg) (py : Expr) : Bool := match t, py with
  | .nm i, py => matchNm c sc i py
  | .tp is, .Tuple es _ _ => matchNms c sc is es && decide (is.length ≤ 1000)
  | _, _ => false
def tgB (t : Tg) (own : List Nat) : Bool := match t with
  | .nm i => own.contains i
  | .tp is => is.all fun i => own.contains i
def pairI : I → Bool
  | .en _ => true
  | .z2 _ _ => true
  | _ => false
def isTp : Tg → Bool
  | .tp _ => true
  | _ => false
def ownP (c : Cxt) (own : List Nat) : List (Str × Nat) := own.map fun i => (c.N.getD i "", i)
section
variable (c : Cxt)
mutual
def matchE : E → Scope → Expr → Bool
  | .var i, sc, py => match py with
    | .Name x _ => nmIs c i x && visB sc x && plainN x
    | _ => false
  | .cn d, _, py => match py with
    | .Constant k _ _ => matchC d k
    | _ => false
  | .glob i, sc, py => match py with
    | .Name x _ => decide (c.gl[i]? = some x) && glB sc x && plainN x
    | _ => false
  | .tup es, sc, py => match py with
    | .Tuple xs _ _ => matchEs es sc xs && decide (xs.length ≤ 1000)
    | _ => false
  | .lst es, sc, py => match py with
    | .List xs _ => matchEs es sc xs && decide (xs.length ≤ 1000)
    | _ => false
  | .dnew, _, py => match py with
    | .Dict [] [] _ => true
    | _ => false
  | .bin op a b, sc, py => match py with
    | .BinOp x o y _ => eqOp op o && matchE a sc x && matchE b sc y
    | _ => false
  | .neg a, sc, py => match py with
    | .UnaryOp .USub x _ => matchE a sc x
    | _ => false
  | .not a, sc, py => match py with
    | .UnaryOp .Not x _ => matchE a sc x
    | _ => false
  | .and a b, sc, py => match py with
    | .BoolOp .And (x :: y :: r) pos => matchE a sc x && (match r with | [] => matchE b sc y | _ :: _ => matchE b sc (.BoolOp .And (y :: r) pos))
    | _ => false
  | .or a b, sc, py => match py with
    | .BoolOp .Or (x :: y :: r) pos => matchE a sc x && (match r with | [] => matchE b sc y | _ :: _ => matchE b sc (.BoolOp .Or (y :: r) pos))
    | _ => false
  | .cmp op a b, sc, py => match py with
    | .Compare x [o] [y] _ => eqCmp op o && matchE a sc x && matchE b sc y && notSetD y
    | _ => false
  | .chain op op' a b d, sc, py => match py with
    | .Compare x [o, o'] [y, z] _ => eqCmp op o && eqCmp op' o' && matchE a sc x && matchE b sc y && matchE d sc z && notSetD z
    | _ => false
  | .ite d a b, sc, py => match py with
    | .IfExp z x y _ => matchE d sc z && matchE a sc x && matchE b sc y
    | _ => false
  | .call f es, sc, py => match py with
    | .Call (.Name x _) xs [] _ => decide (c.fn[f]? = some x) && glB sc x && plainN x && matchEs es sc xs && !xs.isEmpty
    | _ => false
  | .bi b es, sc, py => match py with
    | .Call (.Name x _) xs [] _ => decide (x = biX b) && glB sc x && (match b with
      | .sortedset => (match xs with
        | [.Call (.Name y _) ys [] _] => decide (y = ("set" : Str)) && glB sc y && matchEs es sc ys && !ys.isEmpty
        | _ => false)
      | .lenset => false
      | _ => matchEs es sc xs && !xs.isEmpty)
    | _ => false
  | .isin a t, sc, py => match py with
    | .Call (.Name x _) [y, .Name z _] [] _ => decide (x = ("isinstance" : Str)) && glB sc x && decide (z = tyX t) && glB sc z && matchE a sc y && notStar y
    | _ => false
  | .idx o i, sc, py => match py with
    | .Subscript x y _ => matchE o sc x && matchE i sc y && notSlice y
    | _ => false
  | .slc o a b, sc, py => match py with
    | .Subscript x (.Slice lo hi none _) _ => matchE o sc x && matchO a sc lo && matchO b sc hi
    | _ => false
  | .back o, sc, py => match py with
    | .Subscript x (.Slice none none (some (.UnaryOp .USub (.Constant (.int k) _ _) _)) _) _ => matchE o sc x && decide (k = 1)
    | _ => false
  | .rep es k, sc, py => match py with
    | .BinOp (.List xs _) .Mult y _ => matchEs es sc xs && decide (xs.length ≤ 1000) && matchE k sc y
    | _ => false
  | .inG neg a i, sc, py => match py with
    | .Compare x [o] [.Name y _] _ => eqCmp (if neg then .NotIn else .In) o && matchE a sc x && decide (c.gl[i]? = some y) && glB sc y && plainN y && false
    | _ => false
  | .lof it, sc, py => match py with
    | .Call (.Name x _) [y] [] _ => decide (x = ("list" : Str)) && glB sc x && matchI it sc y && notStar y && false
    | _ => false
  | .lc elt t it own d, sc, py => match py with
    | .ListComp y [⟨tg, iter, ifs, k⟩] scope _ => decide (k = 0) && matchI it sc iter && notSetD iter && (!pairI it || isTp t) && blkC c.N sc scope (ownP c own) && matchT c (relS scope sc) t tg && matchT c scope t tg && tgB t own && matchIf d (relS scope sc) ifs && matchE elt (relS scope sc) y
    | _ => false
def matchEs : Es → Scope → List Expr → Bool
  | .nil, _, py => match py with
    | [] => true
    | _ => false
  | .cons e es, sc, py => match py with
    | x :: xs => matchE e sc x && notStar x && matchEs es sc xs
    | _ => false
def matchO : Oe → Scope → Option Expr → Bool
  | .no, _, py => match py with
    | none => true
    | _ => false
  | .yes e, sc, py => match py with
    | some x => matchE e sc x
    | _ => false
def matchIf : Oe → Scope → List Expr → Bool
  | .no, _, py => match py with
    | [] => true
    | _ => false
  | .yes e, sc, py => match py with
    | [x] => matchE e sc x
    | _ => false
def matchI : I → Scope → Expr → Bool
  | .e e, sc, py => matchE e sc py
  | .r1 a, sc, py => match py with
    | .Call (.Name x _) [y] [] _ => decide (x = ("range" : Str)) && glB sc x && matchE a sc y && notStar y
    | _ => false
  | .r2 a b, sc, py => match py with
    | .Call (.Name x _) [y, z] [] _ => decide (x = ("range" : Str)) && glB sc x && matchE a sc y && notStar y && matchE b sc z && notStar z
    | _ => false
  | .r3 a b d, sc, py => match py with
    | .Call (.Name x _) [y, z, u] [] _ => decide (x = ("range" : Str)) && glB sc x && matchE a sc y && notStar y && matchE b sc z && notStar z && matchE d sc u && notStar u
    | _ => false
  | .gl i, sc, py => match py with
    | .Name x _ => decide (c.gl[i]? = some x) && glB sc x && plainN x && false
    | _ => false
  | .en a, sc, py => match py with
    | .Call (.Name x _) [y] [] _ => decide (x = ("enumerate" : Str)) && glB sc x && matchE a sc y && notStar y
    | _ => false
  | .z2 a b, sc, py => match py with
    | .Call (.Name x _) [y, z] [] _ => decide (x = ("zip" : Str)) && glB sc x && matchE a sc y && notStar y && matchE b sc z && notStar z
    | _ => false
end
end
theorem star_cons {e : Expr} {es : List Expr} {env : Env} (h : notStar e = true) : starEach (e :: es) env = (false, eval e env) :: starEach es env := by
  cases e <;> first | rfl | cases h
theorem plainIx_of {b : Expr} (h : notSlice b = true) : PlainIx b := by
  intro o i
  cases b <;> first | rfl | cases h
theorem nomark_of {op : CmpOp} {b : Expr} (h : notSetD b = true) : behindInMarks op b = false := by
  cases b <;> first | rfl | cases h
theorem folded_of {e : Expr} {env : Env} (h : notSetD e = true) : ∀ x, foldedSetIterable e env x = pure x := by
  intro x
  cases e <;> first | rfl | cases h
theorem vis_of {sc : Scope} {x : Str} (h : visB sc x = true) : Vis sc x := by
  unfold visB at h
  unfold Vis
  split at h
  · rename_i e; exact .inl e
  · rename_i e; exact .inr (.inl e)
  · rename_i e; exact .inr (.inr e)
  · cases h
theorem loc_of {sc : Scope} {x : Str} (h : lcB sc x = true) : L2.Loc sc x := by
  unfold lcB at h
  unfold L2.Loc
  split at h
  · rename_i e; exact .inl e
  · rename_i e; exact .inr e
  · cases h
theorem gl_of {sc : Scope} {x : Str} (h : glB sc x = true) : sc.names.lookup x = some .globalImplicit := by
  unfold glB at h
  split at h
  · rename_i e; exact e
  · cases h
theorem plain1 {x : Str} (h : plainN x = true) : (x == ("__debug__" : Str)) = false ∧ (x == ("__classdict__" : Str)) = false := by
  simp only [plainN, Bool.and_eq_true, Bool.not_eq_true'] at h
  exact h
theorem any_back {pos : Pos} {es : List (Bool × Sem Value)} (h : es.any (·.1) = false) : (backTo pos es).any (·.1) = false := by
  unfold backTo
  rw [List.any_map]
  exact h
theorem any_star {c : Cxt} {sc : Scope} {env : Env} : ∀ {es : Es} {xs : List Expr}, matchEs c es sc xs = true → (starEach xs env).any (·.1) = false
  | .nil, xs, h => by
    simp only [matchEs] at h
    split at h
    · rfl
    · cases h
  | .cons e es, xs, h => by
    simp only [matchEs] at h
    split at h
    · simp only [Bool.and_eq_true] at h
      rw [star_cons h.1.2, List.any_cons, any_star h.2]
      rfl
    · cases h
end TB
set_option maxRecDepth 100000
/-! TBSnd: what the evaluator tells of an expression is what the machine does. -/
namespace TB
open PySem PySem.Spec PyProof.Rows L2
/-! ### readings by the evaluator -/
def RelWs (K : PySem.W.Frag) (H : Hp) (Z : Addr → Prop) (as : As) : List W → List V → Prop
  | [], [] => True
  | w :: ws, v :: vs => RelW K H Z as w v ∧ RelWs K H Z as ws vs
  | _, _ => False
theorem RelWs.grow {K : PySem.W.Frag} {H H' : Hp} {Z Z' : Addr → Prop} {as as' : As} (g : Grows H Z H' Z') (e : ∃ more, as' = as ++ more) : ∀ {ws : List W} {vs : List V}, RelWs K H Z as ws vs → RelWs K H' Z' as' ws vs
  | [], [], _ => True.intro
  | _ :: _, _ :: _, h => ⟨h.1.grow g e, RelWs.grow g e h.2⟩
  | [], _ :: _, h => h.elim
  | _ :: _, [], h => h.elim
section
variable (K : PySem.W.Frag) (Φ : Nat → List W → Sto → Res W) (G : List D)
def rd {α β : Type} (f : Ev → Sto → Res α) (rel : Hp → (Addr → Prop) → As → α → β → Prop) (σV : L2.St) (H : Hp) (Q : β → Hp → Prop) : Prop :=
  ∃ R σ st as, Loc K H (Zof st as R) as σ σV ∧ Wld K H R st as ∧ (f σ st).wp fun a st' => ∀ b H' as', Post K R H st as st' H' as' → rel H' (Zof st' as' R) as' a b → Q b H'
def tE (e : E) : TE := rd K (ev Φ G e) (RelW K)
def tT (e : E) : TT := rd K (evT Φ G e) fun _ _ _ (a b : Bool) => b = a
def tA (es : Es) : TA := rd K (evs Φ G es) (RelWs K)
def tAD (es : Es) : TA := rd K (evD Φ G es) fun H Z _ ds vs => RelAll K H Z ds vs
def tO (o : Oe) : TO := rd K (evO Φ G o) fun _ _ _ (a b : Option Int) => b = a
def tIf (o : Oe) : TT := rd K (evC Φ G o) fun _ _ _ (a b : Bool) => b = a
end
section
variable {K : PySem.W.Frag} {α β γ δ : Type} {R : Addr → Prop} {σ : Ev} {σV : L2.St} {st : Sto} {as : As} {H : Hp} {rel : Hp → (Addr → Prop) → As → α → β → Prop}
/-- one step of a reading -/
theorem rd_step {f : Ev → Sto → Res α} {P : α → Sto → Prop} {Q : β → Hp → Prop} (hl : Loc K H (Zof st as R) as σ σV) (hw : Wld K H R st as) (h : (f σ st).wp P)
    (k : ∀ a st1 b H1 as1, P a st1 → Post K R H st as st1 H1 as1 → Loc K H1 (Zof st1 as1 R) as1 σ σV → rel H1 (Zof st1 as1 R) as1 a b → Q b H1) : rd K f rel σV H Q :=
  ⟨R, σ, st, as, hl, hw, wp_mono h fun a st1 p b H1 as1 po r => k a st1 b H1 as1 p po (hl.grow po.grow po.ext) r⟩
end
theorem PE.imp {X : Cx} {e : Expr} {t t' : TE} (h : PE X e t) (m : ∀ σ H Q, t' σ H Q → t σ H Q) : PE X e t' := ⟨fun pins s σ H Q I q => h.run pins s σ H Q I (m σ H Q q)⟩
theorem PT.imp {X : Cx} {e : Expr} {t t' : TT} (h : PT X e t) (m : ∀ σ H Q, t' σ H Q → t σ H Q) : PT X e t' := ⟨fun pins s σ H Q I q => h.run pins s σ H Q I (m σ H Q q)⟩
theorem PW.imp {X : Cx} {e : Expr} {t t' : TT} (h : PW X e t) (m : ∀ σ H Q, t' σ H Q → t σ H Q) : PW X e t' := ⟨fun wh pins s σ H Q I q => h.run wh pins s σ H Q I (m σ H Q q)⟩
theorem PA.imp {X : Cx} {es : List Expr} {t t' : TA} (h : PA X es t) (m : ∀ σ H Q, t' σ H Q → t σ H Q) : PA X es t' := ⟨fun pos pins s σ H Q I q => h.run pos pins s σ H Q I (m σ H Q q)⟩
theorem PO.imp {X : Cx} {e : Option Expr} {t t' : TO} (h : PO X e t) (m : ∀ σ H Q, t' σ H Q → t σ H Q) : PO X e t' := ⟨fun pins s σ H Q I q => h.run pins s σ H Q I (m σ H Q q)⟩
theorem PTs.imp {X : Cx} {es : List Expr} {t t' : TT} (h : PTs X es t) (m : ∀ σ H Q, t' σ H Q → t σ H Q) : PTs X es t' := ⟨fun pins s σ H Q I q => h.run pins s σ H Q I (m σ H Q q)⟩
/-- an answer by trees, as the reading of an expression wants it -/
theorem ans_of {K : PySem.W.Frag} {R : Addr → Prop} {st st1 : Sto} {as as1 : As} {H H1 : Hp} {d : D} {Q : VK} (po : Post K R H st as st1 H1 as1)
    (q : ∀ v H' as', Post K R H st as st1 H' as' → RelW K H' (Zof st1 as' R) as' (.d d) v → Q v H') : Ans K R st1 as1 H1 d Q := fun v H' po' r => q v H' as1 (po.trans po') r
/-! ### what a call is worth; what is known of the context -/
def spF (K : PySem.W.Frag) (F : List W → Sto → Res W) : List V → Hp → VK → Prop := fun vs H Q =>
  ∃ R ws st as, RelWs K H (Zof st as R) as ws vs ∧ Wld K H R st as ∧ (F ws st).wp fun w st' => ∀ v H' as', Post K R H st as st' H' as' → RelW K H' (Zof st' as' R) as' w v → Q v H'
def CallsOk (P : Program) (w : World) (K : PySem.W.Frag) (mg : Str → Option Value) (base : Heap) (A : Around) (fa : Addr) (F : List W → Sto → Res W) : Prop :=
  ∀ (outer : List Env) (s : Shared) (H : Hp) (us : List Value) (vs : List V) (Q : VK), Env0 P w K mg base A outer s H → Vals vs us → spF K F vs H Q → codeAny (model P w) A (.call (.ref fa) ⟨us, []⟩) (CR CX0 outer P w H s Q E0) s
def bNames : List Str := ["len", "all", "any", "tuple", "list", "sorted", "max", "min", "sum", "abs", "divmod", "int", "str", "repr", "dict", "bool", "set", "isinstance", "range", "enumerate", "zip"]
/-- constants: whole numbers -/
def GlobOk (d : Option D) (u : Value) : Prop := match d with
  | some (.int n) => ∃ t, u = .int n t
  | _ => True
structure XOk (X : Cx) (c : Cxt) (Φ : Nat → List W → Sto → Res W) (G : List D) : Prop where
  calm : X.calm = true
  N : X.N = c.N
  nd : X.N.Nodup
  hu : X.A.units + 200 < cLine
  blt : ∀ x ∈ bNames, X.mg x = none
  glob : ∀ (i : Nat) x, c.gl[i]? = some x → ∃ u, X.mg x = some u ∧ GlobOk G[i]? u
  calls : ∀ (f : Nat) x, c.fn[f]? = some x → ∃ fa, X.mg x = some (.ref fa) ∧ PySem.W.keepIn X.K (.ref fa) = true ∧ CallsOk X.prog X.w X.K X.mg X.base X.A fa (Φ f)
theorem XOk.blk {X : Cx} {c : Cxt} {Φ : Nat → List W → Sto → Res W} {G : List D} (h : XOk X c Φ G) (s : Shared) (H : Hp) (scope : Scope) (cenv : Env) (fp : List Addr) : XOk (X.blk s H scope cenv fp) c Φ G :=
  ⟨h.calm, h.N, h.nd, h.hu, h.blt, h.glob, h.calls⟩
/-! ### calls -/
section
variable {X : Cx} {c : Cxt} {Φ : Nat → List W → Sto → Res W} {G : List D}
theorem run_ok (ok : XOk X c Φ G) {fa : Addr} {F : List W → Sto → Res W} (hf : CallsOk X.prog X.w X.K X.mg X.base X.A fa F) {pins : List (Addr × Obj)} {σ : L2.St} {H : Hp} {s : Shared} {Q : VK} {us : List Value} {vs : List V} (I : Inv X pins σ H s) (r : Vals vs us) (h : spF X.K F vs H Q) :
    wpAny (model X.prog X.w) X.A (PySem.call (.ref fa) us) (EP X pins σ Q) X.xe s := by
  refine wpAny_call <| codeAny_mono (hf X.stack s H us vs Q I.env0 r h) fun res s' hq => ?_
  match res, hq with
  | .ok (.ret u), hq => exact I.after hq
  | .ok .next, hq => exact False.elim hq
  | .ok .brk, hq => exact False.elim hq
  | .ok .cont, hq => exact False.elim hq
  | .error e, hq => exact False.elim hq
theorem pe_fn (ok : XOk X c Φ G) {f : Nat} {x : Str} {p pos : Pos} {e : Expr} {es : List Expr} {t : TA} (hx : c.fn[f]? = some x) (hg : Gl X x) (hd : (x == ("__debug__" : Str)) = false) (ha : PA X (e :: es) t)
    (h1 : starEach (e :: es) X.env = (false, eval e X.env) :: starEach es X.env) (h2 : (starEach es X.env).any (·.1) = false) :
    PE X (.Call (.Name x p) (e :: es) [] pos) (fun σ H Q => t σ H fun vs H1 => spF X.K (Φ f) vs H1 Q) := by
  obtain ⟨fa, hm, hk, hf⟩ := ok.calls f x hx
  refine ⟨fun pins s σ H Q I h => ?_⟩
  refine wpAny_Call_Name_kw (ld_glob I hg hm ?_ hd)
  exact PySem.W.callWith_K (h₀ := X.base) I.ok.mod.kin hk (thn (ha.run pos pins s σ H _ I h) fun us s1 ⟨vs, H1, I1, r, q⟩ => ⟨I1.kIn, run_ok ok hf I1 r q⟩) h1 (any_back h2)
end
/-! ### targets -/
section
variable {K : PySem.W.Frag} {R Z : Addr → Prop} {as : As} {H : Hp}
theorem wipe_set {σV : L2.St} {i : Nat} {o : Option V} : ∀ {vs : List Nat}, i ∈ vs → wipe (σV.set i o) vs = wipe σV vs
  | [], h => by cases h
  | v :: vs, h => by
    unfold wipe
    by_cases e : i ∈ vs
    · rw [wipe_set e]
    · rcases List.mem_cons.mp h with rfl | h
      · have key : ∀ (ws : List Nat), i ∉ ws → (wipe (σV.set i o) ws).set i none = (wipe σV ws).set i none := by
          intro ws
          induction ws with
          | nil => intro _; exact List.set_set ..
          | cons w ws ih =>
            intro hn
            rw [List.mem_cons, not_or] at hn
            unfold wipe
            rw [List.set_comm _ _ (Ne.symm hn.1), ih hn.2, List.set_comm _ _ hn.1]
        exact key vs e
      · exact absurd h e
theorem Loc.unset {σ : Ev} {σV : L2.St} (h : Loc K H Z as σ σV) (i : Nat) : Loc K H Z as (σ.set i none) (σV.set i none) := by
  refine ⟨by rw [List.length_set, List.length_set]; exact h.1, fun j x hj => ?_⟩
  by_cases e : j = i
  · subst e
    by_cases hl : j < σ.length
    · rw [List.getElem?_set_self hl] at hj; cases hj
    · rw [List.getElem?_eq_none (by rw [List.length_set]; omega)] at hj; cases hj
  · rw [List.getElem?_set_ne (Ne.symm e)] at hj
    obtain ⟨u, h1, h2⟩ := h.2 j x hj
    exact ⟨u, by rw [List.getElem?_set_ne (Ne.symm e)]; exact h1, h2⟩
theorem Loc.wipe {σ : Ev} {σV : L2.St} (h : Loc K H Z as σ σV) : ∀ vs : List Nat, Loc K H Z as (wipeE σ vs) (L2.wipe σV vs)
  | [] => h
  | v :: vs => (Loc.wipe h vs).unset v
def tGs : List Nat → TGs
  | [] => gNil
  | i :: is => gCons (gName i) (tGs is)
def tG (K : PySem.W.Frag) : Tg → TG
  | .nm i => gName i
  | .tp is => gTup K is.length (tGs is)
theorem tGs_of : ∀ {is : List Nat} {ds : List D} {vs : List V} {σ σ1 : Ev} {σV : L2.St} {Q : L2.St → Hp → Prop}, storeT is ds σ = some σ1 → RelAll K H Z ds vs → Loc K H Z as σ σV →
    (∀ σV1, Loc K H Z as σ1 σV1 → (∀ own : List Nat, (is.all fun i => own.contains i) = true → wipe σV1 own = wipe σV own) → Q σV1 H) → tGs is vs σV H Q
  | [], [], _, σ, σ1, σV, Q, h, r, l, k => by
    cases r
    cases h
    exact ⟨rfl, k σV l fun _ _ => rfl⟩
  | i :: is, d :: ds, _, σ, σ1, σV, Q, h, r, l, k => by
    cases r with
    | cons r1 r2 =>
      refine ⟨_, _, rfl, tGs_of h r2 (l.set (w := .d d) r1) fun σV1 l1 hw => k σV1 l1 fun own ho => ?_⟩
      rw [List.all_cons, Bool.and_eq_true] at ho
      rw [hw own ho.2]
      exact wipe_set (by simpa using ho.1)
  | [], _ :: _, _, _, _, _, _, h, _, _, _ => by cases h
  | _ :: _, [], _, _, _, _, _, h, _, _, _ => by cases h
theorem storeT_len : ∀ {is : List Nat} {ds : List D} {σ σ1 : Ev}, storeT is ds σ = some σ1 → is.length = ds.length
  | [], [], _, _, _ => rfl
  | _ :: is, _ :: ds, _, _, h => by
    have h' : storeT is ds _ = some _ := h
    rw [List.length_cons, List.length_cons, storeT_len h']
  | [], _ :: _, _, _, h => by cases h
  | _ :: _, [], _, _, h => by cases h
theorem tG_of {t : Tg} {d : D} {v : V} {σ σ1 : Ev} {σV : L2.St} {Q : L2.St → Hp → Prop} (h : bindT t d σ = some σ1) (r : Rel K H Z d v) (l : Loc K H Z as σ σV)
    (k : ∀ σV1, Loc K H Z as σ1 σV1 → (∀ own : List Nat, tgB t own = true → wipe σV1 own = wipe σV own) → Q σV1 H) : tG K t v σV H Q := by
  cases t with
  | nm i =>
    cases h
    exact k _ (l.set (w := .d d) r) fun own ho => wipe_set (by simpa [tgB] using ho)
  | tp is =>
    cases d <;> simp only [bindT] at h <;> try (cases h; done)
    cases r with
    | tup h1 h2 => exact ⟨_, _, rfl, h1.sq, by rw [← h2.length, storeT_len h], tGs_of h h2 l k⟩
end
section
variable {X : Cx} {c : Cxt} {Φ : Nat → List W → Sto → Res W} {G : List D}
theorem pg_nm (ok : XOk X c Φ G) {i : Nat} {py : Expr} {sc' : Scope} (h : matchNm c X.env.scope i py = true) (h' : matchNm c sc' i py = true) (hf : ∀ x, lcB sc' x = true → X.env.scope.names.lookup x = some .cell → X.fn x = true) : PG X py (gName i) := by
  unfold matchNm at h
  split at h
  · rename_i x pos
    simp only [matchNm, Bool.and_eq_true, nmIs, decide_eq_true_eq] at h h'
    have hl := loc_of h.1.2
    refine pg_name ok.nd (by rw [ok.N]; exact h.1.1) hl ?_
    rcases hl with e | e
    · exact .inr e
    · exact .inl (hf x h'.1.2 e)
  · cases h
theorem assign_cons {e : Expr} {es : List Expr} {env : Env} (h : notStar e = true) : assignEach (e :: es) env = (false, assign e env) :: assignEach es env := by
  cases e <;> first | rfl | cases h
theorem nm_star {sc : Scope} {i : Nat} {py : Expr} (h : matchNm c sc i py = true) : notStar py = true := by
  unfold matchNm at h
  split at h
  · rfl
  · cases h
theorem nms_each {sc : Scope} {env : Env} : ∀ {is : List Nat} {es : List Expr}, matchNms c sc is es = true → (assignEach es env).length = is.length ∧ (assignEach es env).findIdx? (·.1) = none
  | [], [], _ => ⟨rfl, rfl⟩
  | i :: is, e :: es, h => by
    rw [matchNms, Bool.and_eq_true] at h
    obtain ⟨h1, h2⟩ := nms_each (env := env) h.2
    rw [assign_cons (nm_star h.1)]
    refine ⟨by rw [List.length_cons, List.length_cons, h1], ?_⟩
    rw [List.findIdx?_cons]
    simp [h2]
  | [], _ :: _, h => by cases h
  | _ :: _, [], h => by cases h
theorem pg_nms (ok : XOk X c Φ G) {sc' : Scope} (hf : ∀ x, lcB sc' x = true → X.env.scope.names.lookup x = some .cell → X.fn x = true) : ∀ {is : List Nat} {es : List Expr}, matchNms c X.env.scope is es = true → matchNms c sc' is es = true → PGs X es (tGs is)
  | [], [], _, _ => pgs_nil
  | i :: is, e :: es, h, h' => by
    rw [matchNms, Bool.and_eq_true] at h h'
    refine pgs_cons (pg_nm ok h.1 h'.1 hf) (pg_nms ok hf h.2 h'.2) ?_
    rw [assign_cons (nm_star h.1)]
    rfl
  | [], _ :: _, h, _ => by cases h
  | _ :: _, [], h, _ => by cases h
theorem pg_tg (ok : XOk X c Φ G) {sc' : Scope} (hf : ∀ x, lcB sc' x = true → X.env.scope.names.lookup x = some .cell → X.fn x = true) {t : Tg} {py : Expr} (h : matchT c X.env.scope t py = true) (h' : matchT c sc' t py = true) : PG X py (tG X.K t) := by
  unfold matchT at h
  split at h
  · exact pg_nm ok h h' hf
  · rename_i is es k pos
    simp only [matchT, Bool.and_eq_true] at h h'
    obtain ⟨h1, h2⟩ := nms_each (env := X.env) h.1
    exact pg_tup ok.calm (pg_nms ok hf h.1 h'.1) h1 h2
  · cases h
end
end TB
set_option maxRecDepth 100000
/-! TBIter: what is walked, by trees. -/
namespace TB
open PySem PySem.Spec PyProof.Rows L2
/-- J yields the things xs, wherever what stays has stayed -/
structure Yl (K : PySem.W.Frag) (J : It) (xs : List D) (H : Hp) (Z : Addr → Prop) : Prop where
  len : xs.length ≤ sizeLine
  go : ∀ H2 Z2, Grows H Z H2 Z2 → ∀ i, i < xs.length → J.go i H2
  stop : ∀ H2 Z2, Grows H Z H2 Z2 → J.stop xs.length H2
  yld : ∀ H2 Z2, Grows H Z H2 Z2 → (∀ p, Z2 p → ∃ o, H2 p = some o) → ∀ i x H3, i < xs.length → J.yld i H2 x H3 → (H3 = H2 ∨ ∃ T o, H2 T = none ∧ H3 = upd H2 T o) ∧ ∃ d, xs[i]? = some d ∧ Rel K H3 Z2 d x
def tI (K : PySem.W.Frag) (Φ : Nat → List W → Sto → Res W) (G : List D) (it : I) : TI := fun σV H RR =>
  ∃ R σ st as, Loc K H (Zof st as R) as σ σV ∧ Wld K H R st as ∧ (evI Φ G it σ st).wp fun xs st' => ∀ J H' as', Post K R H st as st' H' as' → Yl K J xs H' (Zof st' as' R) → RR J H'
section
variable {K : PySem.W.Frag} {H : Hp} {Z : Addr → Prop}
theorem yl_list {a : Addr} {vs : List V} {ds : List D} (h : StL K H Z a vs) (r : RelAll K H Z ds vs) (hb : vs.length ≤ sizeLine) : Yl K (Itl K a) ds H Z := by
  refine ⟨by rw [r.length]; exact hb, fun H2 Z2 g i hi => ?_, fun H2 Z2 g => ⟨vs, (h.grow g).sq.sq, Nat.le_of_eq r.length.symm⟩, fun H2 Z2 g hz i x H3 hi hy => ?_⟩
  · obtain ⟨v, hv, _⟩ := r.get (List.getElem?_eq_getElem hi)
    exact ⟨vs, v, (h.grow g).sq.sq, hv⟩
  · obtain ⟨rfl, hy⟩ := hy
    obtain ⟨v, hv, rv⟩ := (r.grow g).get (List.getElem?_eq_getElem hi)
    have := hy vs (h.grow g).sq.sq
    rw [hv] at this
    cases this
    exact ⟨.inl rfl, _, List.getElem?_eq_getElem hi, rv⟩
theorem yl_tup {a : Addr} {vs : List V} {ds : List D} (h : StT H Z a vs) (r : RelAll K H Z ds vs) (hb : vs.length ≤ sizeLine) : Yl K (Itt K a) ds H Z := by
  refine ⟨by rw [r.length]; exact hb, fun H2 Z2 g i hi => ?_, fun H2 Z2 g => ⟨vs, (h.grow g).sq, Nat.le_of_eq r.length.symm⟩, fun H2 Z2 g hz i x H3 hi hy => ?_⟩
  · obtain ⟨v, hv, _⟩ := r.get (List.getElem?_eq_getElem hi)
    exact ⟨vs, v, (h.grow g).sq, hv⟩
  · obtain ⟨rfl, hy⟩ := hy
    obtain ⟨v, hv, rv⟩ := (r.grow g).get (List.getElem?_eq_getElem hi)
    have := hy vs (h.grow g).sq
    rw [hv] at this
    cases this
    exact ⟨.inl rfl, _, List.getElem?_eq_getElem hi, rv⟩
theorem rangeL_len (lo c : Int) : ∀ n, (rangeL lo c n).length = n
  | 0 => rfl
  | n + 1 => by rw [rangeL, List.length_cons, rangeL_len]
theorem rangeL_get (c : Int) : ∀ (n : Nat) (lo : Int) (i : Nat), i < n → (rangeL lo c n)[i]? = some (.int (lo + (i : Nat) * c))
  | n + 1, lo, 0, _ => by simp [rangeL]
  | n + 1, lo, i + 1, h => by
    rw [rangeL, List.getElem?_cons_succ, rangeL_get c n (lo + c) i (by omega)]
    congr 2
    rw [Int.natCast_add, Int.add_mul]
    simp
    omega
theorem yl_range {lo : Int} {n : Nat} (hb : n ≤ sizeLine) : Yl K (Itr lo n) (rangeL lo 1 n) H Z := by
  refine ⟨by rw [rangeL_len]; exact hb, fun H2 Z2 g i hi => ?_, fun H2 Z2 g => ?_, fun H2 Z2 g hz i x H3 hi hy => ?_⟩
  · rwa [rangeL_len] at hi
  · rw [rangeL_len]; exact Nat.le_refl _
  · obtain ⟨rfl, rfl⟩ := hy
    rw [rangeL_len] at hi
    refine ⟨.inl rfl, _, rangeL_get 1 n lo i hi, ?_⟩
    rw [Int.mul_one]
    exact .int _
theorem yl_rangeC {lo c : Int} {n : Nat} (hb : n ≤ sizeLine) : Yl K (Itc lo c n) (rangeL lo c n) H Z := by
  refine ⟨by rw [rangeL_len]; exact hb, fun H2 Z2 g i hi => ?_, fun H2 Z2 g => ?_, fun H2 Z2 g hz i x H3 hi hy => ?_⟩
  · rwa [rangeL_len] at hi
  · rw [rangeL_len]; exact Nat.le_refl _
  · obtain ⟨rfl, rfl⟩ := hy
    rw [rangeL_len] at hi
    exact ⟨.inl rfl, _, rangeL_get c n lo i hi, .int _⟩
theorem enumL_get : ∀ (xs : List D) (k i : Nat) (d : D), xs[i]? = some d → (enumL k xs)[i]? = some (.tuple [.int ((k + i : Nat) : Int), d])
  | x :: xs, k, 0, d, h => by
    simp at h
    subst h
    simp [enumL]
  | x :: xs, k, i + 1, d, h => by
    rw [enumL, List.getElem?_cons_succ, enumL_get xs (k + 1) i d (by simpa using h)]
    congr 5
    omega
theorem enumL_len : ∀ (xs : List D) (k : Nat), (enumL k xs).length = xs.length
  | [], _ => rfl
  | x :: xs, k => by rw [enumL, List.length_cons, List.length_cons, enumL_len xs]
theorem zipL_len : ∀ (xs ys : List D), (zipL xs ys).length = min xs.length ys.length
  | [], _ => by simp [zipL]
  | _ :: _, [] => by simp [zipL]
  | x :: xs, y :: ys => by
    rw [zipL, List.length_cons, zipL_len xs ys, List.length_cons, List.length_cons]
    omega
theorem zipL_get : ∀ (xs ys : List D) (i : Nat) (d e : D), xs[i]? = some d → ys[i]? = some e → (zipL xs ys)[i]? = some (.tuple [d, e])
  | x :: xs, y :: ys, 0, d, e, h1, h2 => by
    simp at h1 h2
    subst h1 h2
    simp [zipL]
  | x :: xs, y :: ys, i + 1, d, e, h1, h2 => by
    rw [zipL, List.getElem?_cons_succ]
    exact zipL_get xs ys i d e (by simpa using h1) (by simpa using h2)
theorem grows_pair {H2 : Hp} {Z2 : Addr → Prop} {T : Addr} {x y : V} {d e : D} (hz : ∀ p, Z2 p → ∃ o, H2 p = some o) (hT : H2 T = none) (r1 : Rel K H2 Z2 d x) (r2 : Rel K H2 Z2 e y) : Rel K (upd H2 T (.tup [x, y])) Z2 (.tuple [d, e]) (.ref T) :=
  .tup ⟨upd_same, fun z => by obtain ⟨o, e⟩ := hz T z; rw [hT] at e; cases e⟩ (.cons (r1.grow (grows_new hT)) (.cons (r2.grow (grows_new hT)) .nil))
theorem yl_enum {a : Addr} {vs : List V} {ds : List D} (h : StL K H Z a vs) (r : RelAll K H Z ds vs) (hb : vs.length ≤ sizeLine) : Yl K (Ite K a) (enumL 0 ds) H Z := by
  refine ⟨by rw [enumL_len, r.length]; exact hb, fun H2 Z2 g i hi => ?_, fun H2 Z2 g => ⟨vs, (h.grow g).sq.sq, by rw [enumL_len]; exact Nat.le_of_eq r.length.symm⟩, fun H2 Z2 g hz i x H3 hi hy => ?_⟩
  · rw [enumL_len] at hi
    obtain ⟨v, hv, _⟩ := r.get (List.getElem?_eq_getElem hi)
    exact ⟨vs, v, (h.grow g).sq.sq, hv⟩
  · rw [enumL_len] at hi
    obtain ⟨T, z, rfl, hT, rfl, hy⟩ := hy
    obtain ⟨v, hv, rv⟩ := (r.grow g).get (List.getElem?_eq_getElem hi)
    have := hy vs (h.grow g).sq.sq
    rw [hv] at this
    cases this
    refine ⟨.inr ⟨T, _, hT, rfl⟩, _, enumL_get ds 0 i _ (List.getElem?_eq_getElem hi), ?_⟩
    rw [Nat.zero_add]
    exact grows_pair hz hT (.int _) rv
theorem yl_zip {a b : Addr} {vs us : List V} {ds es : List D} (h : StL K H Z a vs) (r : RelAll K H Z ds vs) (h' : StL K H Z b us) (r' : RelAll K H Z es us) (hb : vs.length ≤ sizeLine) : Yl K (Itz K a b) (zipL ds es) H Z := by
  refine ⟨by rw [zipL_len, r.length]; exact Nat.le_trans (Nat.min_le_left _ _) hb, fun H2 Z2 g i hi => ?_, fun H2 Z2 g => ⟨vs, us, (h.grow g).sq.sq, (h'.grow g).sq.sq, by rw [zipL_len, ← r.length, ← r'.length]; omega⟩, fun H2 Z2 g hz i x H3 hi hy => ?_⟩
  · rw [zipL_len] at hi
    obtain ⟨v, hv, _⟩ := r.get (List.getElem?_eq_getElem (i := i) (by omega))
    obtain ⟨u, hu, _⟩ := r'.get (List.getElem?_eq_getElem (i := i) (by omega))
    exact ⟨vs, us, v, u, (h.grow g).sq.sq, (h'.grow g).sq.sq, hv, hu⟩
  · rw [zipL_len] at hi
    obtain ⟨T, z, z', rfl, hT, rfl, hy, hy'⟩ := hy
    have e1 := List.getElem?_eq_getElem (l := ds) (i := i) (by omega)
    have e2 := List.getElem?_eq_getElem (l := es) (i := i) (by omega)
    obtain ⟨v, hv, rv⟩ := (r.grow g).get e1
    obtain ⟨u, hu, ru⟩ := (r'.grow g).get e2
    have q1 := hy vs (h.grow g).sq.sq
    have q2 := hy' us (h'.grow g).sq.sq
    rw [hv] at q1
    rw [hu] at q2
    cases q1; cases q2
    exact ⟨.inr ⟨T, _, hT, rfl⟩, _, zipL_get ds es i _ _ e1 e2, grows_pair hz hT rv ru⟩
theorem yl_zipT {a b : Addr} {vs us : List V} {ds es : List D} (h : StT H Z a vs) (r : RelAll K H Z ds vs) (h' : StT H Z b us) (r' : RelAll K H Z es us) (hb : vs.length ≤ sizeLine) : Yl K (RZ.ItzT K a b) (zipL ds es) H Z := by
  refine ⟨by rw [zipL_len, r.length]; exact Nat.le_trans (Nat.min_le_left _ _) hb, fun H2 Z2 g i hi => ?_, fun H2 Z2 g => ⟨vs, us, (h.grow g).sq, (h'.grow g).sq, by rw [zipL_len, ← r.length, ← r'.length]; omega⟩, fun H2 Z2 g hz i x H3 hi hy => ?_⟩
  · rw [zipL_len] at hi
    obtain ⟨v, hv, _⟩ := r.get (List.getElem?_eq_getElem (i := i) (by omega))
    obtain ⟨u, hu, _⟩ := r'.get (List.getElem?_eq_getElem (i := i) (by omega))
    exact ⟨vs, us, v, u, (h.grow g).sq, (h'.grow g).sq, hv, hu⟩
  · rw [zipL_len] at hi
    obtain ⟨T, z, z', rfl, hT, rfl, hy, hy'⟩ := hy
    have e1 := List.getElem?_eq_getElem (l := ds) (i := i) (by omega)
    have e2 := List.getElem?_eq_getElem (l := es) (i := i) (by omega)
    obtain ⟨v, hv, rv⟩ := (r.grow g).get e1
    obtain ⟨u, hu, ru⟩ := (r'.grow g).get e2
    have q1 := hy vs (h.grow g).sq
    have q2 := hy' us (h'.grow g).sq
    rw [hv] at q1
    rw [hu] at q2
    cases q1; cases q2
    exact ⟨.inr ⟨T, _, hT, rfl⟩, _, zipL_get ds es i _ _ e1 e2, grows_pair hz hT rv ru⟩
end
/-! ### a value that comes to rest as a tree -/
section
variable {K : PySem.W.Frag} {R : Addr → Prop} {st : Sto} {as : As} {H : Hp}
theorem val_of (w : Wld K H R st as) {x : W} {v : V} (r : RelW K H (Zof st as R) as x v) {P : D → Sto → Prop} (h : (val x st).wp P) : ∃ d st', P d st' ∧ Post K R H st as st' H as ∧ Rel K H (Zof st' as R) d v := by
  cases x with
  | d y => exact ⟨y, st, h, .refl w, r⟩
  | r a =>
    obtain ⟨b, qs, e, rfl⟩ := r
    cases hs : st[a]? with
    | none => simp only [val, hs] at h; exact h.elim
    | some ob =>
      simp only [val, hs] at h
      obtain ⟨w', g, rl⟩ := w.freeze hs e
      exact ⟨_, _, h, ⟨w', g, ⟨[], by simp⟩, fun _ _ => rfl⟩, rl⟩
end
/-- no sequence is longer than the line -/
def Bnd (K : PySem.W.Frag) (H : Hp) (v : V) : Prop := ∀ a xs, v = .ref a → (SqL K H a xs ∨ SqT K H a xs) → xs.length ≤ sizeLine
theorem bnd_of {X : Cx} {pins : List (Addr × Obj)} {σ : L2.St} {H : Hp} {s : Shared} (I : Inv X pins σ H s) (v : V) : Bnd X.K H v := fun a xs _ h => by
  rcases h with h | h
  · obtain ⟨_, _, _, hz⟩ := I.list h
    exact hz
  · obtain ⟨_, _, _, hz⟩ := I.tuple h
    exact hz
theorem pe_bnd {X : Cx} {e : Expr} {t : TE} (h : PE X e t) : PE X e (fun σ H Q => t σ H fun v H1 => Bnd X.K H1 v → Q v H1) :=
  ⟨fun pins s σ H Q I q => thn (h.run pins s σ H _ I q) fun _ _ ⟨v, H1, I1, r, q1⟩ => ⟨v, H1, I1, r, q1 (bnd_of I1 v)⟩⟩
theorem pa_bnd {X : Cx} {es : List Expr} {t : TA} (h : PA X es t) : PA X es (fun σ H Q => t σ H fun vs H1 => (∀ v, Bnd X.K H1 v) → Q vs H1) :=
  ⟨fun pos pins s σ H Q I q => thn (h.run pos pins s σ H _ I q) fun _ _ ⟨v, H1, I1, r, q1⟩ => ⟨v, H1, I1, r, q1 (bnd_of I1)⟩⟩
section
variable {X : Cx} {tg : Expr}
/-- a list or a tuple, walked -/
def iSeq (K : PySem.W.Frag) (tl : TE) : TI := fun σ H RR => tl σ H fun x H1 => ∃ a, x = .ref a ∧ (((∃ xs, SqL K H1 a xs) ∧ RR (Itl K a) H1) ∨ ((∃ xs, SqT K H1 a xs) ∧ RR (Itt K a) H1))
theorem pi_seq {l : Expr} {tl : TE} (hl : PE X l tl) : PI X tg l (iSeq X.K tl) := by
  refine ⟨fun pins s σ H RR I h => thn (hl.run pins s σ H _ I h) fun v s1 ⟨x, H1, I1, r1, a, e, q⟩ => ?_⟩
  subst e
  obtain rfl : v = Value.ref a := r1
  rcases q with ⟨⟨xs, hq⟩, q⟩ | ⟨⟨xs, hq⟩, q⟩
  · obtain ⟨its, rv, p, hz⟩ := I1.list hq
    exact wpAny_pyIter_list p.isList (pi_one (tk := s1.toks) I1 _ (turn_list a _) ⟨_, Heap.get?_push_size _ rfl, rfl, rfl⟩ q)
  · obtain ⟨its, rv, p, hz⟩ := I1.tuple hq
    exact wpAny_pyIter_tuple (show s1.heap.IsTuple a its.toArray from p) (pi_one (tk := s1.toks) I1 _ (turn_tuple a _) ⟨_, Heap.get?_push_size _ rfl, rfl, rfl⟩ q)
theorem PI.imp {e : Expr} {t t' : TI} (h : PI X tg e t) (m : ∀ σ H Q, t' σ H Q → t σ H Q) : PI X tg e t' := ⟨fun pins s σ H Q I q => h.run pins s σ H Q I (m σ H Q q)⟩
end
end TB
set_option maxRecDepth 100000
/-! TBComp: a comprehension, by trees. -/
namespace TB
open PySem PySem.Spec PyProof.Rows L2
theorem wipe_len (σV : L2.St) : ∀ vs : List Nat, (wipe σV vs).length = σV.length
  | [] => rfl
  | v :: vs => by unfold wipe; rw [List.length_set, wipe_len σV vs]
theorem wipe_get (σV : L2.St) (i : Nat) (hi : i < σV.length) : ∀ vs : List Nat, (wipe σV vs)[i]? = if i ∈ vs then some none else σV[i]?
  | [] => by simp [wipe]
  | v :: vs => by
    unfold wipe
    by_cases e : v = i
    · subst e
      rw [List.getElem?_set_self (by rw [wipe_len]; exact hi)]
      simp
    · rw [List.getElem?_set_ne e, wipe_get σV i hi vs]
      simp [Ne.symm e]
theorem wipe_idem (σV : L2.St) (vs : List Nat) : wipe (wipe σV vs) vs = wipe σV vs := by
  apply List.ext_getElem?
  intro i
  by_cases hi : i < σV.length
  · rw [wipe_get _ i (by rw [wipe_len]; exact hi), wipe_get σV i hi]
    split <;> rfl
  · rw [List.getElem?_eq_none (by rw [wipe_len, wipe_len]; omega), List.getElem?_eq_none (by rw [wipe_len]; omega)]
theorem zofR {st : Sto} {as : As} {R : Addr → Prop} {Dn p : Addr} (h : Zof st as R p) : Zof st as (fun q => R q ∨ q = Dn) p := h.imp id .inl
/-- behind an expression that made a new object at p -/
structure PostF (K : PySem.W.Frag) (R : Addr → Prop) (H : Hp) (st : Sto) (as : As) (p : Addr) (st' : Sto) (H' : Hp) (as' : As) : Prop where
  wld : Wld K H' (fun q => R q ∨ q = p) st' as'
  np : ¬ R p
  grow : Grows H (Zof st as R) H' (Zof st' as' fun q => R q ∨ q = p)
  ext : ∃ more, as' = as ++ more
  res : ∀ q, R q → H' q = H q
theorem PostF.post {K : PySem.W.Frag} {R : Addr → Prop} {H : Hp} {st : Sto} {as : As} {p : Addr} {st' : Sto} {H' : Hp} {as' : As} (h : PostF K R H st as p st' H' as') : Post K R H st as st' H' as' :=
  ⟨h.wld.less fun _ => .inl, h.grow.trans (grows_less fun _ z => zofR z), h.ext, h.res⟩
theorem PostF.nz {K : PySem.W.Frag} {R : Addr → Prop} {H : Hp} {st : Sto} {as : As} {p : Addr} {st' : Sto} {H' : Hp} {as' : As} (h : PostF K R H st as p st' H' as') : ¬ Zof st' as' R p := fun z =>
  z.elim (h.wld.res p (.inr rfl)).2 h.np
theorem PostF.fresh {K : PySem.W.Frag} {R : Addr → Prop} {H : Hp} {st : Sto} {as : As} {p : Addr} {st' : Sto} {H' : Hp} {as' : As} {o : HO} (h : Post K R H st as st' H' as') (e : H' p = none) : PostF K R H st as p st' (upd H' p o) as' :=
  ⟨h.wld.allocR e, fun z => (by obtain ⟨⟨u, q⟩, _⟩ := h.wld.res p z; rw [e] at q; cases q), h.grow.trans (grows_keep e fun q z => by
    rcases z with z | z | z
    · exact .inl (.inl z)
    · exact .inl (.inr z)
    · exact .inr z), h.ext, fun q hq => by rw [upd_ne (fun z => by obtain ⟨⟨u, q'⟩, _⟩ := h.wld.res q hq; rw [z, e] at q'; cases q'), h.res q hq]⟩
/-- an answer that is a list just made -/
def AnsL (K : PySem.W.Frag) (R : Addr → Prop) (H : Hp) (st : Sto) (as : As) (ys : List D) (st' : Sto) (Q : VK) : Prop :=
  ∀ p vs H' as', PostF K R H st as p st' H' as' → H' p = some (.lst vs) → RelAll K H' (Zof st' as' fun q => R q ∨ q = p) ys vs → Q (.ref p) H'
theorem AnsL.of {K : PySem.W.Frag} {R : Addr → Prop} {H : Hp} {st : Sto} {as : As} {ys : List D} {st' : Sto} {Q : VK} (q : ∀ v H' as', Post K R H st as st' H' as' → RelW K H' (Zof st' as' R) as' (.d (.list ys)) v → Q v H') : AnsL K R H st as ys st' Q :=
  fun p vs H' as' h e r => q _ H' as' h.post (Rel.lst (.inl ⟨.inl e, h.nz⟩) (r.grow (grows_less fun _ z => zofR z)))
/-- an answer that is new, to stand in the store -/
def Fr (K : PySem.W.Frag) (R : Addr → Prop) (H : Hp) (st : Sto) (as : As) (w : W) (st' : Sto) (Q : VK) : Prop :=
  match w with
  | .r a => ∀ v H' as', Post K R H st as st' H' as' → RelW K H' (Zof st' as' R) as' (.r a) v → Q v H'
  | .d d => ∀ p ob H' as', newOb d = some ob → PostF K R H st as p st' H' as' → Slot K H' (Zof st' as' fun q => R q ∨ q = p) ob p [] → Q (.ref p) H'
theorem AnsL.ofF {K : PySem.W.Frag} {R : Addr → Prop} {H : Hp} {st : Sto} {as : As} {ys : List D} {st' : Sto} {Q : VK} (q : Fr K R H st as (.d (.list ys)) st' Q) : AnsL K R H st as ys st' Q :=
  fun p vs H' as' h e r => q p (.lst ys) H' as' rfl h (.lst e r)
section
variable {K : PySem.W.Frag} {Φ : Nat → List W → Sto → Res W} {G : List D}
theorem lc_gen {elt : E} {t : Tg} {it : I} {own : List Nat} {d : Oe} (ht : tgB t own = true) (σV : L2.St) (H : Hp) (Q : VK) {R : Addr → Prop} {σ : Ev} {st : Sto} {as : As} (hl : Loc K H (Zof st as R) as σ σV) (hw : Wld K H R st as)
    (h : (ev Φ G (.lc elt t it own d) σ st).wp fun w st' => ∀ ys, w = .d (.list ys) → AnsL K R H st as ys st' Q) :
    tLc (tI K Φ G it) (tG K t) (tIf K Φ G d) (tE K Φ G elt) own σV H Q := by
  rw [ev] at h
  refine ⟨R, σ, st, as, hl, hw, wp_mono (wp_bind h) fun xs st1 h1 J H1 as1 po yl => ?_⟩
  intro Dn hD
  have h2 := wp_mono (wp_bind h1) fun (ys : List D) st' (q : ∀ zs, W.d (.list ys) = .d (.list zs) → AnsL K R H st as zs st' Q) => q ys rfl
  have nR : ∀ p, R p → p ≠ Dn := fun p hp => by
    obtain ⟨⟨u, e⟩, _⟩ := po.wld.res p hp
    exact ne_of_none e hD
  refine ⟨fun i m Hc => m = xs.length - i ∧ i ≤ xs.length ∧ ∃ st2 as2 acc accD, Hc Dn = some (.lst acc) ∧ Wld K Hc (fun q => R q ∨ q = Dn) st2 as2 ∧ Grows H1 (Zof st1 as1 R) Hc (Zof st2 as2 fun q => R q ∨ q = Dn) ∧ (∃ more, as2 = as1 ++ more) ∧
    (∀ p, R p → Hc p = H1 p) ∧ RelAll K Hc (Zof st2 as2 fun q => R q ∨ q = Dn) accD acc ∧ acc.length ≤ i ∧ (compL _ (xs.drop i) st2).wp fun ys st3 => AnsL K R H st as (accD ++ ys) st3 Q,
    ⟨xs.length, by simp, Nat.zero_le _, st1, as1, [], [], upd_same, po.wld.allocR hD, grows_keep hD fun q z => ?_, ⟨[], by simp⟩, fun p hp => upd_ne (nR p hp), .nil, Nat.zero_le _, h2⟩, ?_⟩
  · rcases z with z | z | z
    · exact .inl (.inl z)
    · exact .inl (.inr z)
    · exact .inr z
  rintro i m Hc ⟨rfl, hi, st2, as2, acc, accD, eD, w2, g2, x2, res2, r2, l2, c2⟩
  by_cases hlt : i < xs.length
  · refine .inr ⟨yl.go Hc _ g2 i hlt, fun Hn => ∃ m', m' < xs.length - i ∧ (m' = xs.length - (i + 1) ∧ i + 1 ≤ xs.length ∧ ∃ st2 as2 acc accD, Hn Dn = some (.lst acc) ∧ Wld K Hn (fun q => R q ∨ q = Dn) st2 as2 ∧ Grows H1 (Zof st1 as1 R) Hn (Zof st2 as2 fun q => R q ∨ q = Dn) ∧ (∃ more, as2 = as1 ++ more) ∧
      (∀ p, R p → Hn p = H1 p) ∧ RelAll K Hn (Zof st2 as2 fun q => R q ∨ q = Dn) accD acc ∧ acc.length ≤ i + 1 ∧ (compL _ (xs.drop (i + 1)) st2).wp fun ys st3 => AnsL K R H st as (accD ++ ys) st3 Q), fun H' z => z, fun x H3 hy => ?_⟩
    obtain ⟨hH, dd, hd, rd⟩ := yl.yld Hc _ g2 (fun p hp => w2.zof hp) i x H3 hlt hy
    have dr : xs.drop i = dd :: xs.drop (i + 1) := by
      rw [List.drop_eq_getElem_cons hlt]
      rw [List.getElem?_eq_getElem hlt] at hd
      rw [Option.some.inj hd]
    rw [dr, compL] at c2
    -- the heap of the item
    have w3 : Wld K H3 (fun q => R q ∨ q = Dn) st2 as2 := by
      rcases hH with rfl | ⟨T, o, hT, rfl⟩
      · exact w2
      · exact w2.alloc hT
    have g3 : Grows Hc (Zof st2 as2 fun q => R q ∨ q = Dn) H3 (Zof st2 as2 fun q => R q ∨ q = Dn) := by
      rcases hH with rfl | ⟨T, o, hT, rfl⟩
      · exact Grows.refl
      · exact grows_new hT
    have keep3 : ∀ p o, Hc p = some o → H3 p = some o := fun p o e => by
      rcases hH with rfl | ⟨T, u, hT, rfl⟩
      · exact e
      · rw [upd_ne (ne_of_none e hT)]; exact e
    have hl3 : Loc K H3 (Zof st2 as2 fun q => R q ∨ q = Dn) as2 σ σV := by
      obtain ⟨m1, e1⟩ := po.ext
      obtain ⟨m2, e2⟩ := x2
      exact hl.grow (po.grow.trans (g2.trans g3)) ⟨m1 ++ m2, by rw [e2, e1, List.append_assoc]⟩
    have c3 := wp_bind c2
    have c4 := wp_bind c3
    obtain ⟨σ1, hσ1, c5⟩ := wp_ofO c4
    refine tG_of hσ1 rd (hl3.wipe own) fun σV1 hl1 hwp => ⟨(hwp own ht).trans (wipe_idem σV own), ?_⟩
    refine ⟨_, σ1, st2, as2, hl1, w3, wp_mono (wp_bind c5) fun k st3 p3 b H4 as3 po3 eb => ?_⟩
    subst eb
    have w4 := po3.wld
    have g4 := g2.trans (g3.trans po3.grow)
    have x4 : ∃ more, as3 = as1 ++ more := by
      obtain ⟨m1, e1⟩ := x2
      obtain ⟨m2, e2⟩ := po3.ext
      exact ⟨m1 ++ m2, by rw [e2, e1, List.append_assoc]⟩
    have eD4 : H4 Dn = some (.lst acc) := by rw [po3.res Dn (.inr rfl)]; exact keep3 _ _ eD
    have res4 : ∀ p, R p → H4 p = H1 p := fun p hp => by
      rw [po3.res p (.inl hp), ← res2 p hp]
      obtain ⟨⟨o, e⟩, _⟩ := w2.res p (.inl hp)
      rw [e]
      exact keep3 p o e
    cases b with
    | false =>
      rw [if_neg Bool.false_ne_true] at p3 ⊢
      exact ⟨xs.length - (i + 1), by omega, rfl, by omega, st3, as3, acc, accD, eD4, w4, g4, x4, res4, r2.grow (g3.trans po3.grow), by omega, wp_mono (wp_bind p3) fun ys st4 q => q⟩
    | true =>
      rw [if_pos rfl] at p3 ⊢
      have p4 := wp_bind p3
      refine ⟨_, σ1, st3, as3, hl1.grow po3.grow po3.ext, w4, wp_mono p4 fun w st4 p5 y H5 as5 po5 r5 => ?_⟩
      obtain ⟨d', st5, p6, po6, r6⟩ := val_of po5.wld r5 (wp_bind p5)
      have po56 := po5.trans po6
      have eD5 : H5 Dn = some (.lst acc) := by rw [po5.res Dn (.inr rfl)]; exact eD4
      have hz : Zof st5 as5 (fun q => R q ∨ q = Dn) Dn := .inr (.inr rfl)
      refine ⟨acc, eD5, Nat.lt_of_le_of_lt l2 (Nat.lt_of_lt_of_le hlt yl.len), xs.length - (i + 1), by omega, rfl, by omega, st5, as5, acc ++ [y], accD ++ [d'], upd_same, po6.wld.resv (.inr rfl), g4.trans (po56.grow.trans (grows_mut hz)), ?_, fun p hp => ?_, ?_, ?_, ?_⟩
      · obtain ⟨m1, e1⟩ := x4
        obtain ⟨m2, e2⟩ := po56.ext
        exact ⟨m1 ++ m2, by rw [e2, e1, List.append_assoc]⟩
      · rw [upd_ne (nR p hp), po5.res p (.inl hp)]
        exact res4 p hp
      · exact ((r2.grow (g3.trans (po3.grow.trans po56.grow))).app (.cons r6 .nil)).grow (grows_mut hz)
      · rw [List.length_append]; simpa using l2
      · refine wp_mono (wp_bind p6) fun ys st6 q => ?_
        rw [List.append_assoc]
        exact q
  · have e : i = xs.length := by omega
    subst e
    rw [List.drop_length] at c2
    refine .inl ⟨yl.stop Hc _ g2, ?_⟩
    have q : AnsL K R H st as (accD ++ []) st2 Q := c2
    rw [List.append_nil] at q
    refine q Dn acc Hc as2 ⟨w2, fun z => nR Dn z rfl, po.grow.trans g2, ?_, fun p hp => (res2 p hp).trans (po.res p hp)⟩ eD r2
    obtain ⟨m1, e1⟩ := po.ext
    obtain ⟨m2, e2⟩ := x2
    exact ⟨m1 ++ m2, by rw [e2, e1, List.append_assoc]⟩
theorem lc_read {elt : E} {t : Tg} {it : I} {own : List Nat} {d : Oe} (ht : tgB t own = true) (σV : L2.St) (H : Hp) (Q : VK) (h : tE K Φ G (.lc elt t it own d) σV H Q) :
    tLc (tI K Φ G it) (tG K t) (tIf K Φ G d) (tE K Φ G elt) own σV H Q := by
  obtain ⟨R, σ, st, as, hl, hw, h⟩ := h
  exact lc_gen ht σV H Q hl hw (wp_mono h fun w st' q ys e => by subst e; exact .of q)
/-- a new object as it is read to be kept -/
def tEF (K : PySem.W.Frag) (Φ : Nat → List W → Sto → Res W) (G : List D) (e : E) : TE := fun σV H Q => ∃ R σ st as, Loc K H (Zof st as R) as σ σV ∧ Wld K H R st as ∧ (ev Φ G e σ st).wp fun w st' => Fr K R H st as w st' Q
theorem lc_readF {elt : E} {t : Tg} {it : I} {own : List Nat} {d : Oe} (ht : tgB t own = true) (σV : L2.St) (H : Hp) (Q : VK) (h : tEF K Φ G (.lc elt t it own d) σV H Q) :
    tLc (tI K Φ G it) (tG K t) (tIf K Φ G d) (tE K Φ G elt) own σV H Q := by
  obtain ⟨R, σ, st, as, hl, hw, h⟩ := h
  exact lc_gen ht σV H Q hl hw (wp_mono h fun w st' q ys e => by subst e; exact .ofF q)
end
end TB
set_option maxRecDepth 100000
/-! TBBack: t[::-1]. -/
namespace TB
open PySem PySem.Spec PyProof.Rows L2
section
variable {prog : Program} {w : World} {A : Around} {E : Value → Shared → Prop} {s : Shared}
theorem back_adjust (n : Nat) : Builtin.Slice.sliceAdjust none none (-1) (n : Int) = ((n : Int) - 1, -1) := by
  unfold Builtin.Slice.sliceAdjust
  simp
theorem back_places (n : Nat) : Builtin.Slice.slicePlaces ((n : Int) - 1) (-1) (-1) = n := by
  unfold Builtin.Slice.slicePlaces
  have h0 : ¬ ((-1 : Int) > 0) := by decide
  simp only [h0, if_false]
  by_cases h : (n : Int) - 1 > -1
  · rw [if_pos h, show (-(-1) : Int) = 1 by decide, Int.ediv_one]; omega
  · rw [if_neg h]; omega
theorem back_pick (xs : Array Value) : ((List.range xs.size).filterMap fun (k : Nat) => xs[((xs.size : Int) - 1 + (k : Int) * (-1)).toNat]?) = xs.toList.reverse := by
  have e1 : (fun (k : Nat) => xs[((xs.size : Int) - 1 + (k : Int) * (-1)).toNat]?) = fun k => (if k < xs.size then xs[xs.size - 1 - k]? else xs[((xs.size : Int) - 1 + (k : Int) * (-1)).toNat]?) := by
    funext k
    by_cases h : k < xs.size
    · rw [if_pos h]
      congr 1
      omega
    · rw [if_neg h]
  rw [e1]
  have e2 : ((List.range xs.size).filterMap fun k => (if k < xs.size then xs[xs.size - 1 - k]? else xs[((xs.size : Int) - 1 + (k : Int) * (-1)).toNat]?)) = (List.range xs.size).filterMap fun k => xs[xs.size - 1 - k]? := by
    have cong : ∀ {l : List Nat}, (∀ k ∈ l, k < xs.size) → (l.filterMap fun k => (if k < xs.size then xs[xs.size - 1 - k]? else xs[((xs.size : Int) - 1 + (k : Int) * (-1)).toNat]?)) = l.filterMap fun k => xs[xs.size - 1 - k]? := by
      intro l hl
      induction l with
      | nil => rfl
      | cons a l ih => rw [List.filterMap_cons, List.filterMap_cons, ih fun k hk => hl k (List.mem_cons_of_mem _ hk), if_pos (hl a (List.mem_cons_self ..))]
    exact cong fun k hk => List.mem_range.mp hk
  rw [e2]
  have e3 := PySem.W.krv_range xs.size
  have e4 : ((List.range xs.size).filterMap fun k => xs[xs.size - 1 - k]?) = ((List.range xs.size).map fun k => xs.size - 1 - k).filterMap (xs[·]?) := by
    rw [List.filterMap_map]
    rfl
  rw [e4, e3, List.filterMap_reverse, PySem.W.krv_all]
theorem back_applied {sl : Addr} {va vb vc : Value} {n : Nat} {Q : Int × Int × Nat → Shared → Prop} (hs : s.heap.IsSliceOf sl va vb vc) (pa : IsPart va none) (pb : IsPart vb none) (pc : IsPart vc (some (-1)))
    (h : Q ((n : Int) - 1, -1, n) s) : wpAny (model prog w) A (Builtin.Slice.sliceApplied (.ref sl) (pure (n : Int))) Q E s := by
  obtain ⟨ob, g1, g2, g3⟩ := id hs
  unfold Builtin.Slice.sliceApplied Builtin.Slice.sliceFields
  refine wpAny_bind (wpAny_bind (wpAny_field g1 g3 (x := va) rfl (wpAny_bind (wpAny_field g1 g3 (x := vb) rfl (wpAny_bind (wpAny_field g1 g3 (x := vc) rfl (wpAny_pure ?_)))))))
  refine wpAny_bind (HT.slicePart_ pc ?_)
  show wpAny _ _ (if ((-1 : Int) == 0) = true then _ else _) _ _ s
  rw [if_neg (by decide)]
  refine wpAny_bind (HT.slicePart_ pa (wpAny_bind (HT.slicePart_ pb (wpAny_bind (wpAny_pure ?_)))))
  show wpAny _ _ (match Builtin.Slice.sliceAdjust none none (-1) (n : Int) with | (a, b) => pure (a, (-1 : Int), Builtin.Slice.slicePlaces a b (-1))) _ _ s
  rw [back_adjust n]
  show wpAny _ _ (pure ((n : Int) - 1, (-1 : Int), Builtin.Slice.slicePlaces ((n : Int) - 1) (-1) (-1))) _ _ s
  rw [back_places]
  exact wpAny_pure h
theorem back_tup {t sl : Addr} {its : Array Value} {va vb vc : Value} {Q : Value → Shared → Prop} (ht : IsTup s.heap t its) (hs : s.heap.IsSliceOf sl va vb vc) (pa : IsPart va none) (pb : IsPart vb none) (pc : IsPart vc (some (-1)))
    (h : Q (.ref s.heap.objs.size) { s with heap := s.heap.push { cls := .type "tuple", data := .seq its.toList.reverse.toArray } })
    (hz : its.size ≤ sizeLine) : wpAny (model prog w) A (getItem (.ref t) (.ref sl)) Q E s := by
  have big : sizeOk (.seq its.toList.reverse.toArray) := by
    show its.toList.reverse.toArray.size ≤ sizeLine
    rw [List.size_toArray, List.length_reverse, Array.length_toList]
    exact hz
  obtain ⟨ob, g1, g2, g3⟩ := id hs
  have tsl : s.TypeIs (.ref sl) "slice" := ⟨ob, g1, g2⟩
  unfold getItem
  try with_reducible refine wpAny_holding ?_
  first | refine wpAny_bind (wpAny_pure ?_) | skip
  refine wpAny_bind (wpAny_sequenceKey ht.typeIs (by decide) ?_)
  refine wpAny_bind (wpAny_callSpecial?_slot (name := Str.ofString "__getitem__") ht.typeIs PyProof.Rows.slot_tuple_getitem
    (wpAny_call_entry PyProof.Rows.slot_tuple_getitem ht.typeIs PyProof.Rows.entry_tuple_getitem ?_ (PyProof.Rows.args_tuple_getitem _ _)))
  show wpAny _ _ (Builtin.Tuple.tupleItemsOf (.ref t) >>= _) _ _ s
  refine wpAny_bind (PyProof.Rows.tupleItemsOf_ ht ?_)
  refine wpAny_bind (wpAny_typeOf tsl ?_)
  rw [if_pos (by decide)]
  refine wpAny_bind (back_applied hs pa pb pc ?_)
  have nope : ¬ ((((its.size : Int) - 1 == 0) && ((-1 : Int) == 1) && (its.size == its.size)) = true) := by
    intro q
    rw [Bool.and_eq_true, Bool.and_eq_true] at q
    exact absurd q.1.2 (by decide)
  show wpAny _ _ (if (((its.size : Int) - 1 == 0) && ((-1 : Int) == 1) && (its.size == its.size)) = true then _ else _) _ _ s
  rw [if_neg nope, back_pick]
  first
    | exact wpAny_bind (m := Builtin.Tuple.tupleExact _) (wpAny_newObj_type (wpAny_pure ⟨_, rfl, wpAny_pure h⟩) big)
    | exact wpAny_bind (m := Builtin.Tuple.tupleExact _) (wpAny_newObj_type (wpAny_bind (wpAny_pure (wpAny_pure ⟨_, rfl, wpAny_pure h⟩))) big)
    | exact wpAny_bind (wpAny_bind (m := Builtin.Tuple.tupleExact _) (wpAny_newObj_type (wpAny_pure (wpAny_pure ⟨_, rfl, wpAny_pure h⟩)) big))
    | exact wpAny_bind (wpAny_bind (m := Builtin.Tuple.tupleExact _) (wpAny_newObj_type (wpAny_pure ⟨_, rfl, wpAny_pure h⟩) big))
end
/-- x[::-1], a list or a tuple -/
def tRevX (K : PySem.W.Frag) (te : TE) : TE := fun σ H Q => te σ H fun x H1 => ∃ a xs, x = .ref a ∧ ((SqL K H1 a xs ∧ ∀ p, H1 p = none → Q (.ref p) (upd H1 p (.lst xs.reverse))) ∨ (SqT K H1 a xs ∧ ∀ p, H1 p = none → Q (.ref p) (upd H1 p (.tup xs.reverse))))
theorem pe_revX {X : Cx} {e : Expr} {te : TE} {k : Nat} {p1 p2 p3 pos : Pos} (he : PE X e te) : PE X (.Subscript e (.Slice none none (some (.UnaryOp .USub (.Constant (.int 1) k p1) p2)) p3) pos) (tRevX X.K te) := by
  refine ⟨fun pins s σ H Q I h => Subscript_ (thn (he.run pins s σ H _ I h) fun v s1 ⟨x, H1, I1, r1, a, xs, ex, q⟩ => ?_)⟩
  subst ex
  cases r1
  have st : PO X (some (.UnaryOp .USub (.Constant (.int 1) k p1) p2)) (tPart (tUn (rU fun i => .int (-i)) (tC (.int 1)))) := po_some (pe_un un_neg pe_int)
  refine wpAny_Slice (thn (po_none.run pins s1 σ H1 (fun o H2 => o = none ∧ H2 = H1) I1 ⟨rfl, rfl⟩) fun va s2 ⟨o1, H2, I2, pa, z1, z2⟩ => ?_)
  subst z1 z2
  refine thn (po_none.run pins s2 σ H2 (fun o H3 => o = none ∧ H3 = H2) I2 ⟨rfl, rfl⟩) fun vb s3 ⟨o2, H3, I3, pb, z3, z4⟩ => ?_
  subst z3 z4
  refine thn (st.run pins s3 σ H3 (fun o H4 => o = some (-1) ∧ H4 = H3) I3 ⟨1, rfl, -1, rfl, rfl, rfl⟩) fun vc s4 ⟨o3, H4, I4, pc, z5, z6⟩ => ?_
  subst z5 z6
  have I5 : Inv X pins σ H4 { s4 with heap := s4.heap.push { cls := .type "slice", data := .fields #[va, vb, vc] } } := I4.kept (t' := s4.toks) fun b ob q => Heap.get?_push_of_some _ q
  show wpAny (model X.prog X.w) X.A (subscriptTail e (.Slice none none (some (.UnaryOp .USub (.Constant (.int 1) k p1) p2)) p3) (.ref a) (.ref s4.heap.objs.size)) (EP X pins σ Q) X.xe { s4 with heap := s4.heap.push { cls := .type "slice", data := .fields #[va, vb, vc] } }
  rcases q with ⟨hx, q⟩ | ⟨hx, q⟩
  · obtain ⟨its, r, ht, hz⟩ := I5.list hx
    have ln := r.length
    refine tail_any (ops := [.ref a, .ref s4.heap.objs.size]) ht.isList.typeIs (PySem.slot_list_getitem.lookup) ?_ (by with_unfolding_all rfl)
    refine wpAny_getItem_list_slice ht.isList (Heap.IsSliceOf.new _ va vb vc) pa pb pc (by decide) ?_ (by rw [List.size_toArray]; omega)
    rw [PySem.W.krv_pick]
    exact ⟨.ref _, _, I5.laid (t' := s4.toks) (o := .lst xs.reverse) (fun b ob q => Heap.get?_push_of_some _ q) (Nat.le_refl _) ⟨by rw [List.length_reverse]; exact hz, _, 0, r.reverse, Heap.get?_push_size _ rfl⟩, rfl, q _ (I5.hok.fresh (Nat.le_refl _))⟩
  · obtain ⟨its, r, ht, hz⟩ := I5.tuple hx
    have ln := r.length
    refine tail_any (ops := [.ref a, .ref s4.heap.objs.size]) ht.typeIs PyProof.Rows.slot_tuple_getitem.lookup ?_ (by with_unfolding_all rfl)
    refine back_tup ht (Heap.IsSliceOf.new _ va vb vc) pa pb pc ?_ (by rw [List.size_toArray]; omega)
    exact ⟨.ref _, _, I5.laid (t' := s4.toks) (o := .tup xs.reverse) (fun b ob q => Heap.get?_push_of_some _ q) (Nat.le_refl _) ⟨by rw [List.length_reverse]; exact hz, _, r.reverse, IsTup.new _ _⟩, rfl, q _ (I5.hok.fresh (Nat.le_refl _))⟩
end TB
set_option maxRecDepth 100000
/-! TBSnd2: expressions. -/
namespace TB
open PySem PySem.Spec PyProof.Rows L2
section
variable {K : PySem.W.Frag} {Φ : Nat → List W → Sto → Res W} {G : List D}
theorem evD_len : ∀ {es : Es} {σ : Ev} {st : Sto} {xs : List D} {st' : Sto}, evD Φ G es σ st = .ok xs st' → ∀ {c : Cxt} {sc : Scope} {pys : List Expr}, matchEs c es sc pys = true → xs.length = pys.length
  | .nil, σ, st, xs, st', h, c, sc, pys, hm => by
    rw [evD] at h
    cases h
    simp only [matchEs] at hm
    split at hm
    · rfl
    · cases hm
  | .cons e es, σ, st, xs, st', h, c, sc, pys, hm => by
    rw [evD] at h
    simp only [matchEs] at hm
    split at hm
    · rw [Bool.and_eq_true] at hm
      cases h1 : ev Φ G e σ st with
      | ok w st1 =>
        rw [h1, Res.bind_ok] at h
        cases h2 : val w st1 with
        | ok d st2 =>
          rw [h2, Res.bind_ok] at h
          cases h3 : evD Φ G es σ st2 with
          | ok ys st3 =>
            rw [h3, Res.bind_ok] at h
            cases h
            rw [List.length_cons, List.length_cons, evD_len h3 hm.2]
          | exc _ _ _ => rw [h3] at h; cases h
          | bad => rw [h3] at h; cases h
        | exc _ _ _ => rw [h2] at h; cases h
        | bad => rw [h2] at h; cases h
      | exc _ _ _ => rw [h1] at h; cases h
      | bad => rw [h1] at h; cases h
    · cases hm
theorem wp_ok {α : Type} {r : Res α} {P : α → Sto → Prop} (h : r.wp P) : ∃ a st, r = .ok a st ∧ P a st := by
  cases r with
  | ok a st => exact ⟨a, st, rfl, h⟩
  | exc _ _ _ => exact h.elim
  | bad => exact h.elim
end
section
variable {X : Cx} {c : Cxt} {Φ : Nat → List W → Sto → Res W} {G : List D}
theorem bt (ok : XOk X c Φ G) {x : Str} (h : x ∈ bNames := by decide +kernel) : X.mg x = none := ok.blt x h
theorem tru_of {K : PySem.W.Frag} {H : Hp} {Z : Addr → Prop} {d : D} {v : V} {k : Bool} (p : Pk K H Z d v) (h : truthD d = some k) : TruV K v H k := by
  cases d with
  | none => cases h; rw [p.non]; rfl
  | bool b => cases h; rw [p.bool]; rfl
  | int i => cases h; rw [p.int]; rfl
  | str x => cases h
  | dict es => cases h
  | list ds =>
    cases h
    obtain ⟨a, vs, rfl, s1, r⟩ := p.list
    refine .inl ⟨vs, s1.sq, ?_⟩
    cases r <;> rfl
  | tuple ds =>
    cases h
    obtain ⟨a, vs, rfl, s1, r⟩ := p.tup
    refine .inr (.inl ⟨vs, s1.sq, ?_⟩)
    cases r <;> rfl
/-- a test by the value's truth -/
theorem pt_dflt {e : E} {py : Expr} (hE : PE X py (tE X.K Φ G e)) (he : ∀ whole, isTrue py X.env whole = (do let v ← whole; standAt py.pos; holding [v] (truthy v))) : PT X py (tT X.K Φ G e) := by
  refine PT.imp (pt_truth hE he) ?_
  rintro σV H Q ⟨R, σ, st, as, hl, hw, h⟩
  refine rd_step hl hw (wp_bind h) fun w st1 v H1 as1 p po l r => ?_
  obtain ⟨k, hk, q⟩ := wp_ofO p
  rw [Option.bind_eq_some_iff] at hk
  obtain ⟨d, hd, ht⟩ := hk
  exact ⟨k, tru_of (pk_of po.wld r hd) ht, q k H1 as1 po rfl⟩
/-- two things, an operation -/
theorem op_read {K : PySem.W.Frag} {e a b : E} {g : D → D → Option D} (hev : ∀ σ st, ev Φ G e σ st = (ev Φ G a σ st).bind fun x st1 => (ev Φ G b σ st1).bind fun y st2 => ofO ((peek x st2).bind fun d => (peek y st2).bind fun e => (g d e).map .d) st2)
    (σV : L2.St) (H : Hp) (Q : VK) (h : tE K Φ G e σV H Q) : tOp (rD K g) (tE K Φ G a) (tE K Φ G b) σV H Q := by
  obtain ⟨R, σ, st, as, hl, hw, h⟩ := h
  rw [hev] at h
  refine rd_step hl hw (wp_bind h) fun x st1 v H1 as1 p po l r => ?_
  refine rd_step l po.wld (wp_bind p) fun y st2 u H2 as2 p2 po2 l2 r2 => ?_
  obtain ⟨w, hw2, q⟩ := wp_ofO p2
  rw [Option.bind_eq_some_iff] at hw2
  obtain ⟨d, hd, hw2⟩ := hw2
  rw [Option.bind_eq_some_iff] at hw2
  obtain ⟨e', he, hw2⟩ := hw2
  rw [Option.map_eq_some_iff] at hw2
  obtain ⟨z, hz, rfl⟩ := hw2
  exact ⟨R, st2, as2, d, e', z, po2.wld, pk_of po2.wld (r.grow po2.grow po2.ext) hd, pk_of po2.wld r2 he, hz, ans_of (po.trans po2) q⟩
theorem pks_of {K : PySem.W.Frag} {H : Hp} {R : Addr → Prop} {st : Sto} {as : As} (w : Wld K H R st as) : ∀ {ws : List W} {vs : List V} {ds : List D}, RelWs K H (Zof st as R) as ws vs → (ws.mapM fun x => peek x st) = some ds → PkAll K H (Zof st as R) ds vs
  | [], [], ds, _, h => by
    rw [List.mapM_nil] at h
    cases h
    exact .nil
  | x :: ws, v :: vs, ds, r, h => by
    rw [List.mapM_cons] at h
    simp only [Option.bind_eq_bind, Option.bind_eq_some_iff, Option.pure_def, Option.some.injEq] at h
    obtain ⟨d, hd, es, he, rfl⟩ := h
    exact .cons (pk_of w r.1 hd) (pks_of w r.2 he)
  | [], _ :: _, _, r, _ => r.elim
  | _ :: _, [], _, r, _ => r.elim
theorem bi_read {K : PySem.W.Frag} {b : Bi} {es : Es} (σV : L2.St) (H : Hp) (Q : VK) (h : tE K Φ G (.bi b es) σV H Q) : tCB (rDs K (biD b)) (tA K Φ G es) σV H Q := by
  obtain ⟨R, σ, st, as, hl, hw, h⟩ := h
  rw [ev] at h
  refine rd_step hl hw (wp_bind h) fun ws st1 vs H1 as1 p po l r => ?_
  obtain ⟨w, hw2, q⟩ := wp_ofO p
  rw [Option.bind_eq_some_iff] at hw2
  obtain ⟨ds, hd, hw2⟩ := hw2
  rw [Option.map_eq_some_iff] at hw2
  obtain ⟨z, hz, rfl⟩ := hw2
  exact ⟨R, st1, as1, ds, z, po.wld, pks_of po.wld r hd, hz, ans_of po q⟩
theorem pe_biX (ok : XOk X c Φ G) {b : Bi} {e : Expr} {es : List Expr} {t : TA} {p pos : Pos} (h1 : b ≠ .sortedset) (h2 : b ≠ .lenset) (hg : Gl X (biX b)) (ha : PA X (e :: es) t)
    (s1 : starEach (e :: es) X.env = (false, eval e X.env) :: starEach es X.env) (s2 : (starEach es X.env).any (·.1) = false) : PE X (.Call (.Name (biX b) p) (e :: es) [] pos) (tCB (rDs X.K (biD b)) t) := by
  have hc := cr_biD ok.calm ok.hu b h1 h2
  cases b with
  | sortedset => exact absurd rfl h1
  | lenset => exact absurd rfl h2
  | len => exact pe_callB hc hg (bt ok) (by decide +kernel) ha (by decide) (by decide) s1 (any_back s2)
  | all => exact pe_callB hc hg (bt ok) (by decide +kernel) ha (by decide) (by decide) s1 (any_back s2)
  | any => exact pe_callB hc hg (bt ok) (by decide +kernel) ha (by decide) (by decide) s1 (any_back s2)
  | tuple => exact pe_callTy hc hg (bt ok) (by decide +kernel) ha (by decide) (by decide) s1 (any_back s2)
  | list => exact pe_callTy hc hg (bt ok) (by decide +kernel) ha (by decide) (by decide) s1 (any_back s2)
  | sorted => exact pe_callB hc hg (bt ok) (by decide +kernel) ha (by decide) (by decide) s1 (any_back s2)
  | max => exact pe_callB hc hg (bt ok) (by decide +kernel) ha (by decide) (by decide) s1 (any_back s2)
  | min => exact pe_callB hc hg (bt ok) (by decide +kernel) ha (by decide) (by decide) s1 (any_back s2)
  | sum => exact pe_callB hc hg (bt ok) (by decide +kernel) ha (by decide) (by decide) s1 (any_back s2)
  | abs => exact pe_callB hc hg (bt ok) (by decide +kernel) ha (by decide) (by decide) s1 (any_back s2)
  | divmod => exact pe_callB hc hg (bt ok) (by decide +kernel) ha (by decide) (by decide) s1 (any_back s2)
  | int => exact pe_callTy hc hg (bt ok) (by decide +kernel) ha (by decide) (by decide) s1 (any_back s2)
  | str => exact pe_callTy hc hg (bt ok) (by decide +kernel) ha (by decide) (by decide) s1 (any_back s2)
  | repr => exact pe_callB hc hg (bt ok) (by decide +kernel) ha (by decide) (by decide) s1 (any_back s2)
  | dict => exact pe_callTy hc hg (bt ok) (by decide +kernel) ha (by decide) (by decide) s1 (any_back s2)
  | bool => exact pe_callTy hc hg (bt ok) (by decide +kernel) ha (by decide) (by decide) s1 (any_back s2)
theorem pe_tyN (ok : XOk X c Φ G) {t : Ty} {p : Pos} (hg : Gl X (tyX t)) : PE X (.Name (tyX t) p) (tC (.ty (tyN t))) := by
  cases t <;> exact pe_bltn (v := .ty _) hg (bt ok) (by decide +kernel) rfl (by decide) (by decide)
theorem bi_star {b : Bi} {sc : Scope} {x : Str} {xs : List Expr} {es : Es} (h1 : b ≠ .sortedset) (h2 : b ≠ .lenset)
    (h : (match b with
      | .sortedset => (match xs with
        | [.Call (.Name y _) ys [] _] => decide (y = ("set" : Str)) && glB sc y && matchEs c es sc ys && !ys.isEmpty
        | _ => false)
      | .lenset => false
      | _ => matchEs c es sc xs && !xs.isEmpty) = true) : matchEs c es sc xs = true ∧ xs.isEmpty = false := by
  cases b <;> first | exact absurd rfl h1 | exact absurd rfl h2 | (rw [Bool.and_eq_true, Bool.not_eq_true'] at h; exact h)
theorem stars {sc : Scope} {es : Es} {x : Expr} {xs : List Expr} {env : Env} (h : matchEs c es sc (x :: xs) = true) : starEach (x :: xs) env = (false, eval x env) :: starEach xs env ∧ (starEach xs env).any (·.1) = false := by
  cases es with
  | nil => simp only [matchEs] at h; cases h
  | cons e es =>
    simp only [matchEs, Bool.and_eq_true] at h
    exact ⟨star_cons h.1.2, any_star h.2⟩
end
/-! sorted(set(t)), t a tuple of whole numbers -/
theorem insU_mem (x : Int) : ∀ (l : List Int) (k : Int), k ∈ insU x l ↔ k = x ∨ k ∈ l
  | [], k => by simp [insU]
  | y :: ys, k => by
    unfold insU
    split
    · simp
    · split
      · rename_i h; subst h; simp
      · rw [List.mem_cons, insU_mem x ys k, List.mem_cons]
        constructor
        · rintro (h | h | h)
          · exact .inr (.inl h)
          · exact .inl h
          · exact .inr (.inr h)
        · rintro (h | h | h)
          · exact .inr (.inl h)
          · exact .inl h
          · exact .inr (.inr h)
theorem insU_rise (x : Int) : ∀ (l : List Int), l.Pairwise (· < ·) → (insU x l).Pairwise (· < ·)
  | [], _ => by simp [insU]
  | y :: ys, h => by
    obtain ⟨h1, h2⟩ := List.pairwise_cons.mp h
    unfold insU
    split
    · rename_i hx
      refine List.pairwise_cons.mpr ⟨fun z hz => ?_, h⟩
      rcases List.mem_cons.mp hz with rfl | hz
      · exact hx
      · exact Int.lt_trans hx (h1 z hz)
    · split
      · exact h
      · rename_i n1 n2
        refine List.pairwise_cons.mpr ⟨fun z hz => ?_, insU_rise x ys h2⟩
        rcases (insU_mem x ys z).mp hz with rfl | hz
        · omega
        · exact h1 z hz
theorem setSort_mem : ∀ (l : List Int) (k : Int), k ∈ setSort l ↔ k ∈ l
  | [], k => by simp [setSort]
  | x :: xs, k => by
    have ih := setSort_mem xs k
    show k ∈ insU x (setSort xs) ↔ _
    rw [insU_mem, ih, List.mem_cons]
theorem setSort_rise : ∀ (l : List Int), (setSort l).Pairwise (· < ·)
  | [] => by simp [setSort]
  | x :: xs => insU_rise x _ (setSort_rise xs)
theorem rise_one : ∀ {a b : List Int}, a.Pairwise (· < ·) → b.Pairwise (· < ·) → (∀ k, k ∈ a ↔ k ∈ b) → a = b
  | [], [], _, _, _ => rfl
  | [], y :: ys, _, _, h => absurd ((h y).mpr (List.mem_cons_self ..)) (by simp)
  | x :: xs, [], _, _, h => absurd ((h x).mp (List.mem_cons_self ..)) (by simp)
  | x :: xs, y :: ys, ha, hb, h => by
    obtain ⟨a1, a2⟩ := List.pairwise_cons.mp ha
    obtain ⟨b1, b2⟩ := List.pairwise_cons.mp hb
    have e : x = y := by
      rcases List.mem_cons.mp ((h x).mp (List.mem_cons_self ..)) with e | e
      · exact e
      · rcases List.mem_cons.mp ((h y).mpr (List.mem_cons_self ..)) with e' | e'
        · exact e'.symm
        · have := a1 y e'
          have := b1 x e
          omega
    subst e
    rw [rise_one a2 b2 fun k => ?_]
    constructor
    · intro hk
      rcases List.mem_cons.mp ((h k).mp (List.mem_cons_of_mem _ hk)) with e | e
      · have := a1 k hk; omega
      · exact e
    · intro hk
      rcases List.mem_cons.mp ((h k).mpr (List.mem_cons_of_mem _ hk)) with e | e
      · have := b1 k hk; omega
      · exact e
def rSetT (K : PySem.W.Frag) (w : World) : List V → Hp → VK → Prop := fun xs H Q => ∃ (a : Addr) (ns : List Int), xs = [.ref a] ∧ SqT K H a (ns.map V.int) ∧ ns.length < 64 ∧ ∀ p c, H p = none → c ≤ ns.length → Q (.ref p) (upd H p (SetO w p (fun j => decide (j ∈ ns)) c))
theorem cr_setT {X : Cx} (hc : X.calm = true) : CallR X (.type "set") (rSetT X.K X.w) := by
  intro pins s σ H xs us Q I r h
  obtain ⟨a, ns, rfl, ha, hn, q⟩ := h
  obtain rfl := Vals.ref1 r
  obtain ⟨its, rv, pt, hz⟩ := I.tuple ha
  have hi : IntsAre its.toArray.toList ns := intsAre_of rv
  refine call_set_tupI ns (I.ok.hd hc) (show s.heap.IsTuple a its.toArray from pt) hi (by unfold scanBound; omega) fun h' tk c R1 hcn k => ?_
  exact ⟨.ref _, _, I.laid (t' := tk) (fun b u e => k b u e) (Nat.le_refl _) (setO_new R1), rfl, q _ c (I.hok.fresh (Nat.le_refl _)) hcn⟩
section
variable {X : Cx} {c : Cxt} {Φ : Nat → List W → Sto → Res W} {G : List D}
theorem biD_sset {ds : List D} {z : D} (h : biD .sortedset ds = some z) : ∃ ns : List Int, ds = [.tuple (ns.map .int)] ∧ ns.length < 64 ∧ z = .list ((setSort ns).map .int) := by
  rcases ds with _ | ⟨d, _ | ⟨e, ds⟩⟩
  · simp [biD] at h
  · cases d <;> simp only [biD] at h <;> try (cases h; done)
    rw [Option.bind_eq_some_iff] at h
    obtain ⟨ns, hn, h⟩ := h
    split at h
    · rename_i hl
      cases h
      exact ⟨ns, by rw [ints_of hn], hl, rfl⟩
    · cases h
  · cases d <;> cases e <;> simp [biD] at h
theorem sset_read {K : PySem.W.Frag} {w : World} {es : Es} (σV : L2.St) (H : Hp) (Q : VK) (h : tE K Φ G (.bi .sortedset es) σV H Q) : tCB (rSortedSet w) (tCons (tCB (rSetT K w) (tA K Φ G es)) tNil) σV H Q := by
  obtain ⟨R, σ, st, as, hl, hw, h⟩ := h
  rw [ev] at h
  refine rd_step hl hw (wp_bind h) fun ws st1 vs H1 as1 p po l r => ?_
  obtain ⟨x, hx, q⟩ := wp_ofO p
  rw [Option.bind_eq_some_iff] at hx
  obtain ⟨ds, hd, hx⟩ := hx
  rw [Option.map_eq_some_iff] at hx
  obtain ⟨z, hz, rfl⟩ := hx
  have pk := pks_of po.wld r hd
  obtain ⟨ns, rfl, hlen, rfl⟩ := biD_sset hz
  obtain ⟨v, rfl, pv⟩ := pk.one
  obtain ⟨a, us, rfl, s1, r1⟩ := pv.tup
  obtain rfl := r1.ints
  refine ⟨a, ns, rfl, s1.sq, hlen, fun p c hp hc => ⟨p, _, c, rfl, upd_same, by omega, fun ms p2 hs hm hl2 hp2 => ?_⟩⟩
  have e3 : ms = setSort ns := rise_one hs (setSort_rise ns) fun k => by
    rw [hm k, setSort_mem]
    exact decide_eq_true_iff
  subst e3
  have po1 := po.trans (Post.alloc (o := SetO w p (fun j => decide (j ∈ ns)) c) po.wld hp)
  exact (ans_of po1 q).lst po1.wld (RelAll.ofInts _) p2 hp2
theorem pe_sset (ok : XOk X c Φ G) {e : Expr} {es : List Expr} {es' : Es} {p p' pos pos' : Pos} (hg : Gl X "sorted") (hg' : Gl X "set") (ha : PA X (e :: es) (tA X.K Φ G es'))
    (s1 : starEach (e :: es) X.env = (false, eval e X.env) :: starEach es X.env) (s2 : (starEach es X.env).any (·.1) = false) :
    PE X (.Call (.Name "sorted" p) [.Call (.Name "set" p') (e :: es) [] pos'] [] pos) (tE X.K Φ G (.bi .sortedset es')) :=
  PE.imp (pe_callB (cr_sortedSet ok.calm) hg (bt ok) (by decide +kernel) (pa_cons (pe_callTy (cr_setT ok.calm) hg' (bt ok) (by decide +kernel) ha (by decide) (by decide) s1 (any_back s2)) pa_nil rfl) (by decide) (by decide) rfl rfl) sset_read
theorem pe_back (ok : XOk X c Φ G) {o : E} {py : Expr} {k : Nat} {p1 p2 p3 pos : Pos} (h : PE X py (tE X.K Φ G o)) :
    PE X (.Subscript py (.Slice none none (some (.UnaryOp .USub (.Constant (.int 1) k p1) p2)) p3) pos) (tE X.K Φ G (.back o)) := by
  refine PE.imp (pe_revX h) fun σV H Q ⟨R, σ, st, as, hl, hw, h⟩ => ?_
  rw [ev] at h
  refine rd_step hl hw (wp_bind h) fun w st1 v H1 as1 p po l r => ?_
  obtain ⟨x, hx, q⟩ := wp_ofO p
  rw [Option.bind_eq_some_iff] at hx
  obtain ⟨d, hd, hx⟩ := hx
  have pk := pk_of po.wld r hd
  cases d <;> simp only at hx <;> try (cases hx; done)
  · cases hx
    obtain ⟨a, us, rfl, s1, r1⟩ := pk.list
    exact ⟨a, us, rfl, .inl ⟨s1.sq, (ans_of po q).lst po.wld r1.rev⟩⟩
  · cases hx
    obtain ⟨a, us, rfl, s1, r1⟩ := pk.tup
    exact ⟨a, us, rfl, .inr ⟨s1.sq, (ans_of po q).tup po.wld r1.rev⟩⟩
end
end TB
set_option maxRecDepth 100000
/-! TBSnd4: readings of the forms of expressions. -/
namespace TB
open PySem PySem.Spec PyProof.Rows L2
theorem relW_int {K : PySem.W.Frag} {H : Hp} {Z : Addr → Prop} {as : As} {i : Int} {v : V} (h : RelW K H Z as (.d (.int i)) v) : v = .int i := by
  have h : Rel K H Z (.int i) v := h
  cases h; rfl
theorem relW_bool {K : PySem.W.Frag} {H : Hp} {Z : Addr → Prop} {as : As} {i : Bool} {v : V} (h : RelW K H Z as (.d (.bool i)) v) : v = .bl i := by
  have h : Rel K H Z (.bool i) v := h
  cases h; rfl
theorem wp_self {α : Type} {r : Res α} {P : α → Sto → Prop} (h : r.wp P) : r.wp fun a st => r = .ok a st ∧ P a st := by
  cases r with
  | ok a st => exact ⟨rfl, h⟩
  | exc _ _ _ => exact h.elim
  | bad => exact h.elim
theorem isTrue_whole {op : BoolOp} {xs : List Expr} {pos : Pos} {env : Env} (w w' : Sem Value) : isTrue (.BoolOp op xs pos) env w = isTrue (.BoolOp op xs pos) env w' := by rfl
theorem pw_of {X : Cx} {op : BoolOp} {xs : List Expr} {pos : Pos} {t : TT} (h : PT X (.BoolOp op xs pos) t) : PW X (.BoolOp op xs pos) t := ⟨fun wh pins s σ H Q I q => h.run pins s σ H Q I q⟩
theorem pt_ite {X : Cx} {c a b : Expr} {pos : Pos} {tc ta tb : TT} (hc : PT X c tc) (ha : PT X a ta) (hb : PT X b tb) : PT X (.IfExp c a b pos) (fun σ H Q => tc σ H fun k H1 => if k = true then ta σ H1 Q else tb σ H1 Q) := by
  refine ⟨fun pins s σ H Q I h => ?_⟩
  refine isTrue_IfExp (thn (hc.run pins s σ H _ I h) fun k s1 ⟨H1, I1, q⟩ => ?_)
  cases k with
  | true => exact ha.run pins s1 σ H1 Q I1 q
  | false => exact hb.run pins s1 σ H1 Q I1 q
theorem wp_mk {α : Type} {a : α} {st : Sto} {P : α → Sto → Prop} (h : P a st) : (Res.ok a st).wp P := h
theorem truthW_bool {k : Bool} {st : Sto} : truthW (.d (.bool k)) st = .ok k st := rfl
section
variable {K : PySem.W.Frag} {Φ : Nat → List W → Sto → Res W} {G : List D}
theorem lst_read {es : Es} {c : Cxt} {sc : Scope} {pys : List Expr} (hm : matchEs c es sc pys = true) (hn : pys.length ≤ 1000) (σV : L2.St) (H : Hp) (Q : VK) (h : tE K Φ G (.lst es) σV H Q) : tLst (tAD K Φ G es) σV H Q := by
  obtain ⟨R, σ, st, as, hl, hw, q⟩ := h
  rw [ev] at q
  unfold tLst tAD
  refine rd_step hl hw (wp_self (wp_bind q)) fun ds st1 vs H1 as1 p po l r => ⟨?_, fun a ha => (ans_of po p.2).lst po.wld r a ha⟩
  rw [← r.length, evD_len p.1 hm]
  exact lim_line (Nat.le_trans hn (by decide))
theorem dnew_read (σV : L2.St) (H : Hp) (Q : VK) (h : tE K Φ G .dnew σV H Q) : tDNewK σV H Q := by
  obtain ⟨R, σ, st, as, hl, hw, q⟩ := h
  rw [ev] at q
  intro p hp
  exact q _ _ _ (.alloc hw hp) (Rel.dK ⟨upd_same, hw.notZ hp⟩ .nil)
theorem neg_read {a : E} (σV : L2.St) (H : Hp) (Q : VK) (h : tE K Φ G (.neg a) σV H Q) : tUn (rU fun i => .int (-i)) (tE K Φ G a) σV H Q := by
  obtain ⟨R, σ, st, as, hl, hw, q⟩ := h
  rw [ev] at q
  refine rd_step hl hw (wp_bind q) fun w st1 v H1 as1 p po l r => ?_
  split at p
  · rename_i i
    obtain rfl := relW_int r
    exact ⟨i, rfl, p _ H1 as1 po (Rel.int _)⟩
  · exact p.elim
theorem not_read {a : E} (σV : L2.St) (H : Hp) (Q : VK) (h : tE K Φ G (.not a) σV H Q) : tNotT K (tE K Φ G a) σV H Q := by
  obtain ⟨R, σ, st, as, hl, hw, q⟩ := h
  rw [ev] at q
  refine rd_step hl hw (wp_bind q) fun w st1 v H1 as1 p po l r => ?_
  obtain ⟨k, hk, q⟩ := wp_ofO (wp_bind p)
  rw [Option.bind_eq_some_iff] at hk
  obtain ⟨d, hd, ht⟩ := hk
  exact ⟨k, tru_of (pk_of po.wld r hd) ht, q _ H1 as1 po (Rel.bl _)⟩
theorem notT_read {a : E} (σV : L2.St) (H : Hp) (Q : Bool → Hp → Prop) (h : tT K Φ G (.not a) σV H Q) : tNot (tT K Φ G a) σV H Q := by
  obtain ⟨R, σ, st, as, hl, hw, q⟩ := h
  unfold evT at q
  rw [ev] at q
  unfold tNot tT
  have q1 : (evT Φ G a σ st).wp fun k st1 => ∀ b H' as', Post K R H st as st1 H' as' → b = (!k) → Q b H' := by
    unfold evT
    cases e : ev Φ G a σ st with
    | ok w st1 =>
      rw [e, Res.bind_ok] at q
      rw [Res.bind_ok]
      cases e2 : truthW w st1 with
      | ok k st2 =>
        rw [e2, Res.bind_ok, Res.bind_ok, truthW_bool] at q
        exact q
      | exc _ _ _ => rw [e2] at q; exact q.elim
      | bad => rw [e2] at q; exact q.elim
    | exc _ _ _ => rw [e] at q; exact q.elim
    | bad => rw [e] at q; exact q.elim
  refine rd_step hl hw q1 fun k st1 v H1 as1 p po l r => ?_
  subst r
  exact p _ H1 as1 po rfl
theorem and_read {a b : E} (σV : L2.St) (H : Hp) (Q : VK) (h : tE K Φ G (.and a b) σV H Q) : tAndV (tE K Φ G a) (tE K Φ G b) σV H Q := by
  obtain ⟨R, σ, st, as, hl, hw, q⟩ := h
  rw [ev] at q
  refine rd_step hl hw (wp_bind q) fun w st1 v H1 as1 p po l r => ?_
  split at p
  · obtain rfl := relW_bool r
    refine ⟨true, rfl, ?_⟩
    rw [if_pos rfl]
    exact rd_step l po.wld p fun w st2 v H2 as2 p2 po2 l2 r2 => p2 v H2 as2 (po.trans po2) r2
  · obtain rfl := relW_bool r
    refine ⟨false, rfl, ?_⟩
    rw [if_neg Bool.false_ne_true]
    exact p _ H1 as1 po (Rel.bl _)
  · exact p.elim
theorem or_read {a b : E} (σV : L2.St) (H : Hp) (Q : VK) (h : tE K Φ G (.or a b) σV H Q) : tOrV (tE K Φ G a) (tE K Φ G b) σV H Q := by
  obtain ⟨R, σ, st, as, hl, hw, q⟩ := h
  rw [ev] at q
  refine rd_step hl hw (wp_bind q) fun w st1 v H1 as1 p po l r => ?_
  split at p
  · obtain rfl := relW_bool r
    refine ⟨false, rfl, ?_⟩
    rw [if_neg Bool.false_ne_true]
    exact rd_step l po.wld p fun w st2 v H2 as2 p2 po2 l2 r2 => p2 v H2 as2 (po.trans po2) r2
  · obtain rfl := relW_bool r
    refine ⟨true, rfl, ?_⟩
    rw [if_pos rfl]
    exact p _ H1 as1 po (Rel.bl _)
  · exact p.elim
theorem evT_ev {a : E} {σ : Ev} {st : Sto} {k : Bool} {st1 : Sto} (h : ev Φ G a σ st = .ok (.d (.bool k)) st1) : evT Φ G a σ st = .ok k st1 := by
  unfold evT
  rw [h, Res.bind_ok, truthW_bool]
theorem andT_read {a b : E} (σV : L2.St) (H : Hp) (Q : Bool → Hp → Prop) (h : tT K Φ G (.and a b) σV H Q) : tAnd (tT K Φ G a) (tT K Φ G b) σV H Q := by
  obtain ⟨R, σ, st, as, hl, hw, q⟩ := h
  unfold evT at q
  rw [ev] at q
  unfold tAnd tT
  have q1 : (evT Φ G a σ st).wp fun k st1 => if k = true then (evT Φ G b σ st1).wp (fun k2 st2 => ∀ b H' as', Post K R H st as st2 H' as' → b = k2 → Q b H') else (∀ b H' as', Post K R H st as st1 H' as' → b = false → Q b H') := by
    cases e : ev Φ G a σ st with
    | ok w st1 =>
      rw [e, Res.bind_ok] at q
      split at q
      · rw [evT_ev e]
        refine wp_mk ?_
        simp only [if_true]
        exact q
      · rw [evT_ev e]
        refine wp_mk ?_
        simp only [Bool.false_eq_true, if_false]
        exact q
      · exact q.elim
    | exc _ _ _ => rw [e] at q; exact q.elim
    | bad => rw [e] at q; exact q.elim
  refine rd_step hl hw q1 fun k st1 v H1 as1 p po l r => ?_
  subst r
  cases v with
  | true =>
    rw [if_pos rfl] at p ⊢
    exact rd_step l po.wld p fun w st2 v H2 as2 p2 po2 l2 r2 => p2 v H2 as2 (po.trans po2) r2
  | false =>
    rw [if_neg Bool.false_ne_true] at p ⊢
    exact p _ H1 as1 po rfl
theorem orT_read {a b : E} (σV : L2.St) (H : Hp) (Q : Bool → Hp → Prop) (h : tT K Φ G (.or a b) σV H Q) : tOr (tT K Φ G a) (tT K Φ G b) σV H Q := by
  obtain ⟨R, σ, st, as, hl, hw, q⟩ := h
  unfold evT at q
  rw [ev] at q
  unfold tOr tT
  have q1 : (evT Φ G a σ st).wp fun k st1 => if k = true then (∀ b H' as', Post K R H st as st1 H' as' → b = true → Q b H') else (evT Φ G b σ st1).wp (fun k2 st2 => ∀ b H' as', Post K R H st as st2 H' as' → b = k2 → Q b H') := by
    cases e : ev Φ G a σ st with
    | ok w st1 =>
      rw [e, Res.bind_ok] at q
      split at q
      · rw [evT_ev e]
        refine wp_mk ?_
        simp only [Bool.false_eq_true, if_false]
        exact q
      · rw [evT_ev e]
        refine wp_mk ?_
        simp only [if_true]
        exact q
      · exact q.elim
    | exc _ _ _ => rw [e] at q; exact q.elim
    | bad => rw [e] at q; exact q.elim
  refine rd_step hl hw q1 fun k st1 v H1 as1 p po l r => ?_
  subst r
  cases v with
  | false =>
    rw [if_neg Bool.false_ne_true] at p ⊢
    exact rd_step l po.wld p fun w st2 v H2 as2 p2 po2 l2 r2 => p2 v H2 as2 (po.trans po2) r2
  | true =>
    rw [if_pos rfl] at p ⊢
    exact p _ H1 as1 po rfl
/-- a test of what is a bool in any case -/
theorem test_read {e : E} (hb : ∀ σ st w st', ev Φ G e σ st = .ok w st' → ∃ k, w = .d (.bool k)) (σV : L2.St) (H : Hp) (Q : Bool → Hp → Prop) (h : tT K Φ G e σV H Q) : tTest (tE K Φ G e) σV H Q := by
  obtain ⟨R, σ, st, as, hl, hw, q⟩ := h
  unfold evT at q
  refine rd_step hl hw (wp_self (wp_bind q)) fun w st1 v H1 as1 p po l r => ?_
  obtain ⟨k, rfl⟩ := hb _ _ _ _ p.1
  obtain rfl := relW_bool r
  exact ⟨k, rfl, p.2 _ H1 as1 po rfl⟩
theorem tTest_imp {t t' : TE} (m : ∀ σ H Q, t' σ H Q → t σ H Q) (σV : L2.St) (H : Hp) (Q : Bool → Hp → Prop) (h : tTest t' σV H Q) : tTest t σV H Q := m _ _ _ h
theorem cmp_bool {op : CmpOp} {a b : E} {σ : Ev} {st : Sto} {w : W} {st' : Sto} (h : ev Φ G (.cmp op a b) σ st = .ok w st') : ∃ k, w = .d (.bool k) := by
  rw [ev] at h
  cases h1 : ev Φ G a σ st with
  | ok x st1 =>
    rw [h1, Res.bind_ok] at h
    cases h2 : ev Φ G b σ st1 with
    | ok y st2 =>
      rw [h2, Res.bind_ok] at h
      cases h3 : ((peek x st2).bind fun d => (peek y st2).bind fun e => (cmpD op d e).map fun k => W.d (.bool k)) with
      | none => rw [h3] at h; cases h
      | some w' =>
        rw [h3] at h
        cases h
        rw [Option.bind_eq_some_iff] at h3
        obtain ⟨d, _, h3⟩ := h3
        rw [Option.bind_eq_some_iff] at h3
        obtain ⟨e, _, h3⟩ := h3
        rw [Option.map_eq_some_iff] at h3
        obtain ⟨k, _, rfl⟩ := h3
        exact ⟨k, rfl⟩
    | exc _ _ _ => rw [h2] at h; cases h
    | bad => rw [h2] at h; cases h
  | exc _ _ _ => rw [h1] at h; cases h
  | bad => rw [h1] at h; cases h
theorem chain_bool {op op' : CmpOp} {a b c : E} {σ : Ev} {st : Sto} {w : W} {st' : Sto} (h : ev Φ G (.chain op op' a b c) σ st = .ok w st') : ∃ k, w = .d (.bool k) := by
  rw [ev] at h
  cases h1 : ev Φ G a σ st with
  | ok x st1 =>
    rw [h1, Res.bind_ok] at h
    cases h2 : ev Φ G b σ st1 with
    | ok y st2 =>
      rw [h2, Res.bind_ok] at h
      cases h3 : ((peek x st2).bind fun d => (peek y st2).bind fun e => cmpD op d e) with
      | none => rw [h3] at h; cases h
      | some k =>
        rw [h3, ofO_some, Res.bind_ok] at h
        cases k with
        | false =>
          rw [if_neg Bool.false_ne_true] at h
          cases h
          exact ⟨_, rfl⟩
        | true =>
          rw [if_pos rfl] at h
          cases h4 : ev Φ G c σ st2 with
          | ok z st4 =>
            rw [h4, Res.bind_ok] at h
            cases h5 : ((peek y st4).bind fun d => (peek z st4).bind fun e => (cmpD op' d e).map fun k => W.d (.bool k)) with
            | none => rw [h5] at h; cases h
            | some w' =>
              rw [h5] at h
              cases h
              rw [Option.bind_eq_some_iff] at h5
              obtain ⟨d, _, h5⟩ := h5
              rw [Option.bind_eq_some_iff] at h5
              obtain ⟨e, _, h5⟩ := h5
              rw [Option.map_eq_some_iff] at h5
              obtain ⟨k, _, rfl⟩ := h5
              exact ⟨k, rfl⟩
          | exc _ _ _ => rw [h4] at h; cases h
          | bad => rw [h4] at h; cases h
    | exc _ _ _ => rw [h2] at h; cases h
    | bad => rw [h2] at h; cases h
  | exc _ _ _ => rw [h1] at h; cases h
  | bad => rw [h1] at h; cases h
theorem cmp_read {op : CmpOp} {a b : E} (σV : L2.St) (H : Hp) (Q : VK) (h : tE K Φ G (.cmp op a b) σV H Q) : tOp (rD K fun x y => (cmpD op x y).map .bool) (tE K Φ G a) (tE K Φ G b) σV H Q := by
  refine op_read (e := .cmp op a b) (fun σ st => ?_) σV H Q h
  rw [ev]
  simp only [Option.map_map]
  rfl
theorem chain_read {op op' : CmpOp} {a b c : E} (σV : L2.St) (H : Hp) (Q : VK) (h : tE K Φ G (.chain op op' a b c) σV H Q) :
    tChain (rD K fun x y => (cmpD op x y).map .bool) (rD K fun x y => (cmpD op' x y).map .bool) (tE K Φ G a) (tE K Φ G b) (tE K Φ G c) σV H Q := by
  obtain ⟨R, σ, st, as, hl, hw, h⟩ := h
  rw [ev] at h
  refine rd_step hl hw (wp_bind h) fun x st1 v H1 as1 p po l r => ?_
  refine rd_step l po.wld (wp_bind p) fun y st2 u H2 as2 p2 po2 l2 r2 => ?_
  obtain ⟨k, hk, q⟩ := wp_ofO (wp_bind p2)
  rw [Option.bind_eq_some_iff] at hk
  obtain ⟨d, hd, hk⟩ := hk
  rw [Option.bind_eq_some_iff] at hk
  obtain ⟨e', he, hk⟩ := hk
  refine ⟨R, st2, as2, d, e', .bool k, po2.wld, pk_of po2.wld (r.grow po2.grow po2.ext) hd, pk_of po2.wld r2 he, by simp only [hk]; rfl, fun z H3 po3 rz => ?_⟩
  have rz : Rel K H3 _ (.bool k) z := rz
  cases rz
  refine ⟨k, rfl, ?_⟩
  cases k with
  | false =>
    rw [if_neg Bool.false_ne_true] at q ⊢
    exact q _ H3 as2 ((po.trans po2).trans po3) (Rel.bl _)
  | true =>
    rw [if_pos rfl] at q ⊢
    refine rd_step (l2.grow po3.grow po3.ext) po3.wld (wp_bind q) fun z st4 w H4 as4 p4 po4 l4 r4 => ?_
    obtain ⟨w2, hw2, q⟩ := wp_ofO p4
    rw [Option.bind_eq_some_iff] at hw2
    obtain ⟨d2, hd2, hw2⟩ := hw2
    rw [Option.bind_eq_some_iff] at hw2
    obtain ⟨e2, he2, hw2⟩ := hw2
    rw [Option.map_eq_some_iff] at hw2
    obtain ⟨k2, hk2, rfl⟩ := hw2
    have r2' := r2.grow (po3.grow.trans po4.grow) (Post.ext (po3.trans po4))
    exact ⟨R, st4, as4, d2, e2, .bool k2, po4.wld, pk_of po4.wld r2' hd2, pk_of po4.wld r4 he2, by simp only [hk2]; rfl, ans_of (((po.trans po2).trans po3).trans po4) q⟩
theorem ite_evT {c : E} {P : Bool → Sto → Prop} {σ : Ev} {st : Sto} {α : Type} {f : Bool → Sto → Res α} {Q : α → Sto → Prop} (h : ((ev Φ G c σ st).bind fun x st1 => (truthW x st1).bind f).wp Q) : (evT Φ G c σ st).wp fun k st1 => (f k st1).wp Q := by
  unfold evT
  cases e : ev Φ G c σ st with
  | ok w st1 =>
    rw [e, Res.bind_ok] at h
    rw [Res.bind_ok]
    exact wp_bind h
  | exc _ _ _ => rw [e] at h; exact h.elim
  | bad => rw [e] at h; exact h.elim
theorem ite_read {c a b : E} (σV : L2.St) (H : Hp) (Q : VK) (h : tE K Φ G (.ite c a b) σV H Q) : L2.tIf (tT K Φ G c) (tE K Φ G a) (tE K Φ G b) σV H Q := by
  obtain ⟨R, σ, st, as, hl, hw, h⟩ := h
  rw [ev] at h
  unfold L2.tIf tT
  refine rd_step hl hw (ite_evT (P := fun _ _ => True) h) fun k st1 v H1 as1 p po l r => ?_
  subst r
  cases v with
  | true =>
    rw [if_pos rfl] at p ⊢
    exact rd_step l po.wld p fun w st2 v H2 as2 p2 po2 l2 r2 => p2 v H2 as2 (po.trans po2) r2
  | false =>
    rw [if_neg Bool.false_ne_true] at p ⊢
    exact rd_step l po.wld p fun w st2 v H2 as2 p2 po2 l2 r2 => p2 v H2 as2 (po.trans po2) r2
theorem iteT_read {c a b : E} (σV : L2.St) (H : Hp) (Q : Bool → Hp → Prop) (h : tT K Φ G (.ite c a b) σV H Q) : tT K Φ G c σV H fun k H1 => if k = true then tT K Φ G a σV H1 Q else tT K Φ G b σV H1 Q := by
  obtain ⟨R, σ, st, as, hl, hw, h⟩ := h
  unfold evT at h
  rw [ev] at h
  have h' := ite_evT (P := fun _ _ => True) (wp_bind h)
  refine rd_step hl hw h' fun k st1 v H1 as1 p po l r => ?_
  subst r
  have key : ∀ (e : E), ((ev Φ G e σ st1).wp fun a_1 st_1 => (truthW a_1 st_1).wp fun a st' => ∀ (b : Bool) (H' : Hp) (as' : As), Post K R H st as st' H' as' → b = a → Q b H') → tT K Φ G e σV H1 Q := fun e p => by
    refine rd_step (f := evT Φ G e) l po.wld (P := fun a st' => ∀ (b : Bool) (H' : Hp) (as' : As), Post K R H st as st' H' as' → b = a → Q b H') ?_ fun w st2 v H2 as2 p2 po2 l2 r2 => p2 v H2 as2 (po.trans po2) r2
    unfold evT
    cases e' : ev Φ G e σ st1 with
    | ok w st2 => rw [e'] at p; exact p
    | exc _ _ _ => rw [e'] at p; exact p.elim
    | bad => rw [e'] at p; exact p.elim
  cases v with
  | true =>
    rw [if_pos rfl] at p ⊢
    exact key a p
  | false =>
    rw [if_neg Bool.false_ne_true] at p ⊢
    exact key b p
theorem call_read {f : Nat} {es : Es} (σV : L2.St) (H : Hp) (Q : VK) (h : tE K Φ G (.call f es) σV H Q) : tA K Φ G es σV H fun vs H1 => spF K (Φ f) vs H1 Q := by
  obtain ⟨R, σ, st, as, hl, hw, h⟩ := h
  rw [ev] at h
  refine rd_step hl hw (wp_bind h) fun ws st1 vs H1 as1 p po l r => ?_
  exact ⟨R, ws, st1, as1, r, po.wld, wp_mono p fun w st2 q v H2 as2 po2 r2 => q v H2 as2 (po.trans po2) r2⟩
theorem isin_read {a : E} {t : Ty} (σV : L2.St) (H : Hp) (Q : VK) (h : tE K Φ G (.isin a t) σV H Q) : tE K Φ G a σV H fun v H1 => rIsD K t [v, .ty (tyN t)] H1 Q := by
  obtain ⟨R, σ, st, as, hl, hw, h⟩ := h
  rw [ev] at h
  refine rd_step hl hw (wp_bind h) fun w st1 v H1 as1 p po l r => ?_
  obtain ⟨w', hk, q⟩ := wp_ofO p
  rw [Option.map_eq_some_iff] at hk
  obtain ⟨d, hd, rfl⟩ := hk
  exact ⟨R, st1, as1, d, v, rfl, po.wld, pk_of po.wld r hd, ans_of po q⟩
theorem idx_read {o i : E} (σV : L2.St) (H : Hp) (Q : VK) (h : tE K Φ G (.idx o i) σV H Q) : tOp (rD K getD) (tE K Φ G o) (tE K Φ G i) σV H Q := op_read (e := .idx o i) (fun σ st => by rw [ev]) σV H Q h
theorem bin_read {op : Operator} {a b : E} (σV : L2.St) (H : Hp) (Q : VK) (h : tE K Φ G (.bin op a b) σV H Q) : tOp (rD K (binD op)) (tE K Φ G a) (tE K Φ G b) σV H Q := op_read (e := .bin op a b) (fun σ st => by rw [ev]) σV H Q h
theorem slc_read {o : E} {a b : Oe} (σV : L2.St) (H : Hp) (Q : VK) (h : tE K Φ G (.slc o a b) σV H Q) : tSl (rSlD K) (tE K Φ G o) (tO K Φ G a) (tO K Φ G b) σV H Q := by
  obtain ⟨R, σ, st, as, hl, hw, h⟩ := h
  rw [ev] at h
  refine rd_step hl hw (wp_bind h) fun w st1 v H1 as1 p po l r => ?_
  refine rd_step l po.wld (wp_bind p) fun lo st2 lo' H2 as2 p2 po2 l2 r2 => ?_
  refine rd_step l2 po2.wld (wp_bind p2) fun hi st3 hi' H3 as3 p3 po3 l3 r3 => ?_
  subst r2 r3
  obtain ⟨w', hk, q⟩ := wp_ofO p3
  rw [Option.bind_eq_some_iff] at hk
  obtain ⟨d, hd, hk⟩ := hk
  rw [Option.map_eq_some_iff] at hk
  obtain ⟨d', hd', rfl⟩ := hk
  exact ⟨R, st3, as3, d, d', po3.wld, pk_of po3.wld (r.grow (po2.grow.trans po3.grow) (Post.ext (po2.trans po3))) hd, hd', ans_of ((po.trans po2).trans po3) q⟩
theorem rep_read {es : Es} {k : E} {c : Cxt} {sc : Scope} {pys : List Expr} (hm : matchEs c es sc pys = true) (hn : pys.length ≤ 1000) (σV : L2.St) (H : Hp) (Q : VK) (h : tE K Φ G (.rep es k) σV H Q) : tOp rRep (tLst (tAD K Φ G es)) (tE K Φ G k) σV H Q := by
  obtain ⟨R, σ, st, as, hl, hw, q⟩ := h
  rw [ev] at q
  unfold tOp tLst tAD
  refine rd_step (f := evD Φ G es) hl hw (wp_self (wp_bind q)) fun ds st1 vs H1 as1 p po l r => ⟨?_, fun a ha => ?_⟩
  · rw [← r.length, evD_len p.1 hm]
    exact lim_line (Nat.le_trans hn (by decide))
  · have po1 := po.trans (Post.alloc (o := .lst vs) po.wld ha)
    have l1 : Loc K (upd H1 a (.lst vs)) (Zof st1 as1 R) as1 σ σV := l.grow (grows_new ha) ⟨[], by simp⟩
    refine rd_step l1 po1.wld (wp_bind p.2) fun w st2 v H2 as2 p2 po2 l2 r2 => ?_
    split at p2
    · rename_i n
      obtain rfl := relW_int r2
      split at p2
      · rename_i hb
        have e1 := (po2.grow a (.lst vs) upd_same (po.wld.notZ ha)).1
        refine ⟨a, n, vs, rfl, rfl, e1, hb.2.1, hb.2.2, by rw [← r.length]; exact lim_line hb.1, ?_⟩
        exact (ans_of (po1.trans po2) p2).lst po2.wld ((r.grow ((grows_new ha).trans po2.grow)).rep n.toNat)
      · exact p2.elim
    · exact p2.elim
theorem oYes_read {e : E} (σV : L2.St) (H : Hp) (Q : Option Int → Hp → Prop) (h : tO K Φ G (.yes e) σV H Q) : tPart (tE K Φ G e) σV H Q := by
  obtain ⟨R, σ, st, as, hl, hw, q⟩ := h
  rw [evO] at q
  refine rd_step hl hw (wp_bind q) fun w st1 v H1 as1 p po l r => ?_
  split at p
  · rename_i i
    obtain rfl := relW_int r
    exact ⟨i, rfl, p _ H1 as1 po rfl⟩
  · exact p.elim
theorem oNo_read (σV : L2.St) (H : Hp) (Q : Option Int → Hp → Prop) (h : tO K Φ G .no σV H Q) : tNoPart σV H Q := by
  obtain ⟨R, σ, st, as, hl, hw, q⟩ := h
  rw [evO] at q
  exact q _ H as (.refl hw) rfl
theorem ifYes_read {e : E} (σV : L2.St) (H : Hp) (Q : Bool → Hp → Prop) (h : TB.tIf K Φ G (.yes e) σV H Q) : tT K Φ G e σV H Q := by
  obtain ⟨R, σ, st, as, hl, hw, q⟩ := h
  rw [evC] at q
  exact ⟨R, σ, st, as, hl, hw, q⟩
theorem ifNo_read (σV : L2.St) (H : Hp) (Q : Bool → Hp → Prop) (h : TB.tIf K Φ G .no σV H Q) : tYes σV H Q := by
  obtain ⟨R, σ, st, as, hl, hw, q⟩ := h
  rw [evC] at q
  exact q _ H as (.refl hw) rfl
/-! what is walked -/
theorem seq_read {e : E} (σV : L2.St) (H : Hp) (RR : It → Hp → Prop) (h : tI K Φ G (.e e) σV H RR) : iSeq K (fun σ H Q => tE K Φ G e σ H fun v H1 => Bnd K H1 v → Q v H1) σV H RR := by
  obtain ⟨R, σ, st, as, hl, hw, q⟩ := h
  rw [evI] at q
  refine rd_step hl hw (wp_bind q) fun w st1 v H1 as1 p po l r => fun hb => ?_
  obtain ⟨d, st2, p2, po2, r2⟩ := val_of po.wld r (wp_bind p)
  obtain ⟨xs, hx, q⟩ := wp_ofO p2
  cases d <;> simp only [seqD] at hx <;> try (cases hx; done)
  all_goals cases hx
  · cases r2 with
    | lst h1 h2 =>
      refine ⟨_, rfl, .inl ⟨⟨_, h1.sq.sq⟩, q _ H1 as1 (po.trans po2) (yl_list h1 h2 (hb _ _ rfl (.inl h1.sq.sq)))⟩⟩
  · cases r2 with
    | tup h1 h2 =>
      refine ⟨_, rfl, .inr ⟨⟨_, h1.sq⟩, q _ H1 as1 (po.trans po2) (yl_tup h1 h2 (hb _ _ rfl (.inr h1.sq)))⟩⟩
theorem small_of {i : Int} (h : smallB i = true) : -(2 ^ 62) ≤ i ∧ i < 2 ^ 62 := by
  simp only [smallB, Bool.and_eq_true, decide_eq_true_eq] at h
  omega
theorem sizeL : (10000000 : Nat) ≤ sizeLine := by rw [sizeLine_eq]; decide
theorem r1_read {a : E} (σV : L2.St) (H : Hp) (RR : It → Hp → Prop) (h : tI K Φ G (.r1 a) σV H RR) : tE K Φ G a σV H fun v H1 => ∃ j : Int, [v] = [V.int j] ∧ -(2 ^ 62) ≤ j ∧ j < 2 ^ 62 ∧ RR (Itr 0 j.toNat) H1 := by
  obtain ⟨R, σ, st, as, hl, hw, q⟩ := h
  rw [evI] at q
  refine rd_step hl hw (wp_bind q) fun w st1 v H1 as1 p po l r => ?_
  split at p
  · rename_i j
    obtain rfl := relW_int r
    split at p
    · rename_i hj
      have hs := small_of hj
      simp only [smallB, Bool.and_eq_true, decide_eq_true_eq] at hj
      exact ⟨j, rfl, hs.1, hs.2, p _ H1 as1 po (yl_range (Nat.le_trans (by omega) sizeL))⟩
    · exact p.elim
  · exact p.elim
theorem r2_read {a b : E} (σV : L2.St) (H : Hp) (RR : It → Hp → Prop) (h : tI K Φ G (.r2 a b) σV H RR) : tE K Φ G a σV H fun v H1 => tE K Φ G b σV H1 fun u H2 => ∃ i j : Int, [v, u] = [V.int i, V.int j] ∧ (-(2 ^ 62) ≤ i ∧ i < 2 ^ 62 ∧ -(2 ^ 62) ≤ j ∧ j < 2 ^ 62) ∧ RR (Itr i (j - i).toNat) H2 := by
  obtain ⟨R, σ, st, as, hl, hw, q⟩ := h
  rw [evI] at q
  refine rd_step hl hw (wp_bind q) fun w st1 v H1 as1 p po l r => ?_
  refine rd_step l po.wld (wp_bind p) fun w2 st2 v2 H2 as2 p2 po2 l2 r2 => ?_
  split at p2
  · rename_i i j
    obtain rfl := relW_int r
    obtain rfl := relW_int r2
    split at p2
    · rename_i hj
      rw [Bool.and_eq_true] at hj
      have hs := small_of hj.1
      have hs2 := small_of hj.2
      simp only [smallB, Bool.and_eq_true, decide_eq_true_eq] at hj
      exact ⟨i, j, rfl, ⟨hs.1, hs.2, hs2.1, hs2.2⟩, p2 _ H2 as2 (po.trans po2) (yl_range (Nat.le_trans (by omega) sizeL))⟩
    · exact p2.elim
  · exact p2.elim
theorem r3_read {a b c : E} (σV : L2.St) (H : Hp) (RR : It → Hp → Prop) (h : tI K Φ G (.r3 a b c) σV H RR) : tE K Φ G a σV H fun v H1 => tE K Φ G b σV H1 fun u H2 => tE K Φ G c σV H2 fun t H3 => ∃ (i j c : Int) (n : Nat), [v, u, t] = [V.int i, V.int j, V.int c] ∧ RgC i j c n ∧ RR (Itc i c n) H3 := by
  obtain ⟨R, σ, st, as, hl, hw, q⟩ := h
  rw [evI] at q
  refine rd_step hl hw (wp_bind q) fun w st1 v H1 as1 p po l r => ?_
  refine rd_step l po.wld (wp_bind p) fun w2 st2 v2 H2 as2 p2 po2 l2 r2 => ?_
  refine rd_step l2 po2.wld (wp_bind p2) fun w3 st3 v3 H3 as3 p3 po3 l3 r3 => ?_
  split at p3
  · rename_i i j k
    obtain rfl := relW_int r
    obtain rfl := relW_int r2
    obtain rfl := relW_int r3
    split at p3
    · rename_i hj
      rw [Bool.and_eq_true, Bool.and_eq_true, decide_eq_true_eq] at hj
      obtain ⟨⟨hi, hj⟩, rfl⟩ := hj
      have hs := small_of hi
      have hs2 := small_of hj
      simp only [smallB, Bool.and_eq_true, decide_eq_true_eq] at hi hj
      exact ⟨i, j, -1, _, rfl, .neg hs.1 hs.2 hs2.1 hs2.2, p3 _ H3 as3 ((po.trans po2).trans po3) (yl_rangeC (Nat.le_trans (by omega) sizeL))⟩
    · exact p3.elim
  · exact p3.elim
theorem en_read {a : E} (σV : L2.St) (H : Hp) (RR : It → Hp → Prop) (h : tI K Φ G (.en a) σV H RR) : tE K Φ G a σV H fun v H1 => Bnd K H1 v → ∃ p xs, [v] = [V.ref p] ∧ SqL K H1 p xs ∧ RR (Ite K p) H1 := by
  obtain ⟨R, σ, st, as, hl, hw, q⟩ := h
  rw [evI] at q
  refine rd_step hl hw (wp_bind q) fun w st1 v H1 as1 p po l r => fun hb => ?_
  obtain ⟨d, st2, p2, po2, r2⟩ := val_of po.wld r (wp_bind p)
  obtain ⟨xs, hx, q⟩ := wp_ofO p2
  cases d <;> simp only [listD] at hx <;> try (cases hx; done)
  cases hx
  cases r2 with
  | lst h1 h2 => exact ⟨_, _, rfl, h1.sq.sq, q _ H1 as1 (po.trans po2) (yl_enum h1 h2 (hb _ _ rfl (.inl h1.sq.sq)))⟩
theorem z2_read {a b : E} (σV : L2.St) (H : Hp) (RR : It → Hp → Prop) (h : tI K Φ G (.z2 a b) σV H RR) : tE K Φ G a σV H fun v H1 => Bnd K H1 v → tE K Φ G b σV H1 fun u H2 =>
    ∃ p p' xs ys, [v, u] = [V.ref p, V.ref p'] ∧ ((SqL K H2 p xs ∧ SqL K H2 p' ys ∧ RR (Itz K p p') H2) ∨ (SqT K H2 p xs ∧ SqT K H2 p' ys ∧ RR (RZ.ItzT K p p') H2)) := by
  obtain ⟨R, σ, st, as, hl, hw, q⟩ := h
  rw [evI] at q
  refine rd_step hl hw (wp_bind q) fun w st1 v H1 as1 p po l r => fun hb => ?_
  obtain ⟨d, st2, p2, po2, r2⟩ := val_of po.wld r (wp_bind p)
  refine rd_step (l.grow po2.grow po2.ext) po2.wld (wp_bind p2) fun w3 st3 v3 H3 as3 p3 po3 l3 r3 => ?_
  obtain ⟨e, st4, p4, po4, r4⟩ := val_of po3.wld r3 (wp_bind p3)
  obtain ⟨xs, hx, q⟩ := wp_ofO p4
  have pp := ((po.trans po2).trans po3).trans po4
  have r2' := r2.grow (po3.grow.trans po4.grow)
  cases d <;> cases e <;> simp only [zipD] at hx <;> try (cases hx; done)
  all_goals cases hx
  · cases r2 with
    | lst s1 s2 =>
      have hz := hb _ _ rfl (.inl s1.sq.sq)
      cases r4 with
      | lst h1' h2' =>
        have g := po3.grow.trans po4.grow
        exact ⟨_, _, _, _, rfl, .inl ⟨(s1.grow g).sq.sq, h1'.sq.sq, q _ H3 as3 pp (yl_zip (s1.grow g) (s2.grow g) h1' h2' hz)⟩⟩
  · cases r2 with
    | tup s1 s2 =>
      have hz := hb _ _ rfl (.inr s1.sq)
      cases r4 with
      | tup h1' h2' =>
        have g := po3.grow.trans po4.grow
        exact ⟨_, _, _, _, rfl, .inr ⟨(s1.grow g).sq, h1'.sq, q _ H3 as3 pp (yl_zipT (s1.grow g) (s2.grow g) h1' h2' hz)⟩⟩
end
end TB
set_option maxRecDepth 100000
set_option maxHeartbeats 4000000
/-! TBSnd3: every expression of mine. -/
namespace TB
open PySem PySem.Spec PyProof.Rows L2
theorem marks2 {op op' : CmpOp} {b d : Expr} (h : notSetD d = true) : lastMarks [op, op'] [b, d] = false := by
  show lastMarks [op'] [d] = false
  simp only [lastMarks]
  exact nomark_of h
theorem tp_of {c : Cxt} {it : I} {t : Tg} {sc : Scope} {tg : Expr} (hp : (!pairI it || isTp t) = true) (hm : matchT c sc t tg = true) : pairI it = true → ∃ es k pos, tg = .Tuple es k pos := by
  intro h
  rw [h] at hp
  cases t with
  | nm i => cases hp
  | tp is =>
    cases tg <;> simp only [matchT] at hm <;> try (cases hm; done)
    exact ⟨_, _, _, rfl⟩
theorem lookup_rel {f : Str × NameKind → Str × NameKind} (hf : ∀ p, (f p).1 = p.1) {x : Str} {k : NameKind} : ∀ {l : List (Str × NameKind)}, l.lookup x = some k → (l.map f).lookup x = some (f (x, k)).2
  | [], h => by cases h
  | (n, j) :: l, h => by
    rw [List.lookup_cons] at h
    rw [List.map_cons]
    have e : f (n, j) = (n, (f (n, j)).2) := Prod.ext (hf (n, j)) rfl
    rw [e, List.lookup_cons]
    split at h
    · rename_i hx
      have hx' : x = n := by simpa using hx
      subst hx'
      cases h
      rfl
    · exact lookup_rel hf h
theorem blk_fn {scope sc : Scope} {x : Str} (h : lcB scope x = true) (hx : (relS scope sc).names.lookup x = some .cell) : (scope.names.lookup x == some .cell) = true := by
  unfold lcB at h
  split at h
  · rename_i e
    have := lookup_rel (f := fun (n, k) => if (k == .free && sc.kind == .function && sc.names.lookup n == some .cell) then (n, .cell) else (n, k)) (fun p => by obtain ⟨n, k⟩ := p; show Prod.fst (if _ then _ else _) = n; split <;> rfl) e
    have hx : List.lookup x (scope.names.map fun (n, k) => if (k == .free && sc.kind == .function && sc.names.lookup n == some .cell) then (n, .cell) else (n, k)) = some .cell := hx
    rw [this] at hx
    cases hx
  · rename_i e
    rw [e]
    rfl
  · cases h
theorem both {X : Cx} {Φ : Nat → List W → Sto → Res W} {G : List D} {e : E} {py : Expr} (hE : PE X py (tE X.K Φ G e)) (he : ∀ whole, isTrue py X.env whole = (do let v ← whole; standAt py.pos; holding [v] (truthy v))) : PE X py (tE X.K Φ G e) ∧ PT X py (tT X.K Φ G e) := ⟨hE, pt_dflt hE he⟩
section
variable {c : Cxt} {Φ : Nat → List W → Sto → Res W} {G : List D}
mutual
theorem sndE : ∀ (e : E) (X : Cx), XOk X c Φ G → ∀ (py : Expr), matchE c e X.env.scope py = true → PE X py (tE X.K Φ G e) ∧ PT X py (tT X.K Φ G e)
  | .var i, X, ok, py, h => by
    simp only [matchE] at h
    split at h
    · rename_i x pos
      simp only [Bool.and_eq_true, nmIs, decide_eq_true_eq] at h
      obtain ⟨p1, p2⟩ := plain1 h.2
      have hE : PE X (.Name x pos) (tE X.K Φ G (.var i)) := PE.imp (pe_var (by rw [ok.N]; exact h.1.1) (vis_of h.1.2) p1 p2) fun σV H Q ⟨R, σ, st, as, hl, hw, q⟩ => by
        rw [ev] at q
        split at q
        · rename_i w e
          obtain ⟨v, h1, h2⟩ := hl.2 i w e
          exact ⟨v, h1, q v H as (.refl hw) h2⟩
        · exact q.elim
      exact ⟨hE, pt_dflt hE fun _ => rfl⟩
    · cases h
  | .cn d, X, ok, py, h => by
    simp only [matchE] at h
    split at h
    · rename_i k j pos
      have hE : PE X (.Constant k j pos) (tE X.K Φ G (.cn d)) := by
        have key : ∀ {v : V}, PE X (.Constant k j pos) (tC v) → (∀ H Z, Rel X.K H Z d v) → PE X (.Constant k j pos) (tE X.K Φ G (.cn d)) := fun {v} hp hr => PE.imp hp fun σV H Q ⟨R, σ, st, as, hl, hw, q⟩ => by
          rw [ev] at q
          exact q v H as (.refl hw) (hr _ _)
        unfold matchC at h
        split at h
        · exact key pe_non fun _ _ => .non
        · rw [beq_iff_eq] at h; subst h; exact key pe_bl fun _ _ => .bl _
        · rw [decide_eq_true_eq] at h; subst h; exact key pe_int fun _ _ => .int _
        · rw [decide_eq_true_eq] at h; subst h; exact key pe_str fun _ _ => .str _
        · cases h
      exact ⟨hE, pt_dflt hE fun _ => rfl⟩
    · cases h
  | .glob i, X, ok, py, h => by
    simp only [matchE] at h
    split at h
    · rename_i x pos
      simp only [Bool.and_eq_true, decide_eq_true_eq] at h
      obtain ⟨p1, p2⟩ := plain1 h.2
      obtain ⟨u, hm, hu⟩ := ok.glob i x h.1.1
      have hE : PE X (.Name x pos) (tE X.K Φ G (.glob i)) := by
        by_cases hg : ∃ n, G[i]? = some (.int n)
        · obtain ⟨n, hg⟩ := hg
          rw [hg] at hu
          obtain ⟨t, rfl⟩ := hu
          exact PE.imp (pe_glob (v := .int n) (gl_of h.1.2) hm ⟨t, rfl⟩ p1) fun σV H Q ⟨R, σ, st, as, hl, hw, q⟩ => by
            rw [ev, hg] at q
            exact q _ H as (.refl hw) (.int n)
        · exact ⟨fun pins s σ H Q I ⟨R, σ', st, as, hl, hw, q⟩ => by
            rw [ev] at q
            split at q
            · rename_i n e; exact absurd ⟨n, e⟩ hg
            · exact q.elim⟩
      exact ⟨hE, pt_dflt hE fun _ => rfl⟩
    · cases h
  | .tup es, X, ok, py, h => by
    simp only [matchE] at h
    split at h
    · rename_i xs k pos
      rw [Bool.and_eq_true, decide_eq_true_eq] at h
      have hE : PE X (.Tuple xs k pos) (tE X.K Φ G (.tup es)) := PE.imp (pe_tup (sndA es X ok xs h.1).2) fun σV H Q ⟨R, σ, st, as, hl, hw, q⟩ => by
        rw [ev] at q
        unfold tTup tAD
        refine rd_step hl hw (wp_self (wp_bind q)) fun ds st1 vs H1 as1 p po l r => ⟨?_, fun a ha => (ans_of po p.2).tup po.wld r a ha⟩
        rw [← r.length, evD_len p.1 h.1]
        exact lim_line (Nat.le_trans h.2 (by decide))
      exact ⟨hE, pt_dflt hE fun _ => rfl⟩
    · cases h
  | .lst es, X, ok, py, h => by
    simp only [matchE] at h
    split at h
    · rename_i xs pos
      rw [Bool.and_eq_true, decide_eq_true_eq] at h
      have hE : PE X (.List xs pos) (tE X.K Φ G (.lst es)) := PE.imp (pe_lst (sndA es X ok _ h.1).2) (lst_read h.1 h.2)
      exact ⟨hE, pt_dflt hE fun _ => rfl⟩
    · cases h
  | .dnew, X, ok, py, h => by
    simp only [matchE] at h
    split at h
    · exact both (PE.imp (X := X) pe_dnewK dnew_read) fun _ => rfl
    · cases h
  | .bin op a b, X, ok, py, h => by
    simp only [matchE] at h
    split at h
    · simp only [Bool.and_eq_true] at h
      obtain rfl := eqOp_eq h.1.1
      exact both (PE.imp (pe_op (op_binD op) (sndE a X ok _ h.1.2).1 (sndE b X ok _ h.2).1) bin_read) fun _ => rfl
    · cases h
  | .neg a, X, ok, py, h => by
    simp only [matchE] at h
    split at h
    · exact both (PE.imp (pe_un un_neg (sndE a X ok _ h).1) neg_read) fun _ => rfl
    · cases h
  | .not a, X, ok, py, h => by
    simp only [matchE] at h
    split at h
    · obtain ⟨h1, h2⟩ := sndE a X ok _ h
      exact ⟨PE.imp (pe_notT h1) not_read, PT.imp (pt_not h2) notT_read⟩
    · cases h
  | .and a b, X, ok, py, h => by
    simp only [matchE] at h
    split at h
    · rename_i x y r pos
      rw [Bool.and_eq_true] at h
      obtain ⟨h1, h2⟩ := sndE a X ok _ h.1
      have h3 := h.2
      split at h3
      · obtain ⟨h4, h5⟩ := sndE b X ok _ h3
        exact ⟨PE.imp (pe_and h1 (pe_one h4)) and_read, PT.imp (pw_and h2 (pw_and1 h5)).pt andT_read⟩
      · obtain ⟨h4, h5⟩ := sndE b X ok _ h3
        exact ⟨PE.imp (pe_and h1 h4) and_read, PT.imp (pw_and h2 (pw_of h5)).pt andT_read⟩
    · cases h
  | .or a b, X, ok, py, h => by
    simp only [matchE] at h
    split at h
    · rename_i x y r pos
      rw [Bool.and_eq_true] at h
      obtain ⟨h1, h2⟩ := sndE a X ok _ h.1
      have h3 := h.2
      split at h3
      · obtain ⟨h4, h5⟩ := sndE b X ok _ h3
        exact ⟨PE.imp (pe_or h1 (pe_one h4)) or_read, PT.imp (pw_or h2 (pw_or1 h5)).pt orT_read⟩
      · obtain ⟨h4, h5⟩ := sndE b X ok _ h3
        exact ⟨PE.imp (pe_or h1 h4) or_read, PT.imp (pw_or h2 (pw_of h5)).pt orT_read⟩
    · cases h
  | .cmp op a b, X, ok, py, h => by
    simp only [matchE] at h
    split at h
    · simp only [Bool.and_eq_true] at h
      obtain rfl := eqCmp_eq h.1.1.1
      have ho := op_cmpD (X := X) (Nat.lt_of_le_of_lt (by omega) ok.hu) op
      have h1 := (sndE a X ok _ h.1.1.2).1
      have h2 := (sndE b X ok _ h.1.2).1
      exact ⟨PE.imp (pe_cmpR ho h1 h2 (nomark_of h.2)) cmp_read, PT.imp (pt_cmpR ho h1 h2 (nomark_of h.2)) fun σ H Q q => tTest_imp cmp_read σ H Q (test_read (fun _ _ _ _ e => cmp_bool e) σ H Q q)⟩
    · cases h
  | .chain op op' a b d, X, ok, py, h => by
    simp only [matchE] at h
    split at h
    · simp only [Bool.and_eq_true] at h
      rename_i x o o' y z pos
      obtain rfl := eqCmp_eq h.1.1.1.1.1
      obtain rfl := eqCmp_eq h.1.1.1.1.2
      have hu := Nat.lt_of_le_of_lt (by omega : X.A.units + 65 ≤ X.A.units + 200) ok.hu
      have ho := op_cmpD (X := X) hu op
      have ho' := op_cmpD (X := X) hu op'
      have h1 := (sndE a X ok _ h.1.1.1.2).1
      have h2 := (sndE b X ok _ h.1.1.2).1
      have h3 := (sndE d X ok _ h.1.2).1
      have hm := marks2 (op := op) (op' := op') (b := y) h.2
      exact ⟨PE.imp (pe_chain ho ho' h1 h2 h3 hm) chain_read, PT.imp (pt_chain ho ho' h1 h2 h3 hm) fun σ H Q q => tTest_imp chain_read σ H Q (test_read (fun _ _ _ _ e => chain_bool e) σ H Q q)⟩
    · cases h
  | .ite d a b, X, ok, py, h => by
    simp only [matchE] at h
    split at h
    · simp only [Bool.and_eq_true] at h
      obtain ⟨_, h1⟩ := sndE d X ok _ h.1.1
      obtain ⟨h2, h2'⟩ := sndE a X ok _ h.1.2
      obtain ⟨h3, h3'⟩ := sndE b X ok _ h.2
      exact ⟨PE.imp (pe_ifExp h1 h2 h3) ite_read, PT.imp (pt_ite h1 h2' h3') iteT_read⟩
    · cases h
  | .call f es, X, ok, py, h => by
    simp only [matchE] at h
    split at h
    · rename_i x p xs pos
      simp only [Bool.and_eq_true, decide_eq_true_eq, Bool.not_eq_true'] at h
      cases xs with
      | nil => exact absurd h.2 (by simp)
      | cons y ys =>
        obtain ⟨s1, s2⟩ := stars (env := X.env) h.1.2
        have hE := PE.imp (pe_fn (p := p) (pos := pos) ok h.1.1.1.1 (gl_of h.1.1.1.2) (plain1 h.1.1.2).1 (sndA es X ok _ h.1.2).1 s1 s2) call_read
        exact ⟨hE, pt_dflt hE fun _ => rfl⟩
    · cases h
  | .bi b es, X, ok, py, h => by
    simp only [matchE] at h
    split at h
    · rename_i x p xs pos
      simp only [Bool.and_eq_true, decide_eq_true_eq] at h
      obtain ⟨⟨rfl, hg⟩, h⟩ := h
      have hE : PE X (.Call (.Name (biX b) p) xs [] pos) (tE X.K Φ G (.bi b es)) := by
        by_cases e1 : b = .sortedset
        · subst e1
          simp only at h
          split at h
          · rename_i y p' ys pos'
            simp only [Bool.and_eq_true, decide_eq_true_eq, Bool.not_eq_true'] at h
            obtain ⟨⟨⟨rfl, hg'⟩, h⟩, he⟩ := h
            cases ys with
            | nil => exact absurd he (by simp)
            | cons y ys =>
              obtain ⟨s1, s2⟩ := stars (env := X.env) h
              exact pe_sset ok (gl_of hg) (gl_of hg') (sndA es X ok _ h).1 s1 s2
          · cases h
        · by_cases e2 : b = .lenset
          · subst e2
            cases h
          · obtain ⟨h1, h2⟩ : matchEs c es X.env.scope xs = true ∧ xs.isEmpty = false := by
              cases b <;> first | exact absurd rfl e1 | exact absurd rfl e2 | (simp only [Bool.and_eq_true, Bool.not_eq_true'] at h; exact h)
            cases xs with
            | nil => exact absurd h2 (by simp)
            | cons y ys =>
              obtain ⟨s1, s2⟩ := stars (env := X.env) h1
              exact PE.imp (pe_biX ok e1 e2 (gl_of hg) (sndA es X ok _ h1).1 s1 s2) bi_read
      exact ⟨hE, pt_dflt hE fun _ => rfl⟩
    · cases h
  | .isin a t, X, ok, py, h => by
    simp only [matchE] at h
    split at h
    · rename_i x p y z p' pos
      simp only [Bool.and_eq_true, decide_eq_true_eq] at h
      obtain ⟨⟨⟨⟨⟨rfl, hg⟩, rfl⟩, hg'⟩, ha⟩, hs⟩ := h
      have h1 := (sndE a X ok _ ha).1
      exact both (PE.imp (pe_callB (pos := pos) (p := p) (call_isD t) (gl_of hg) (bt ok) (by decide +kernel) (pa_cons h1 (pa_cons (pe_tyN ok (p := p') (gl_of hg')) pa_nil) (star_cons hs)) (by decide) (by decide) (star_cons hs)) isin_read) fun _ => rfl
    · cases h
  | .idx o i, X, ok, py, h => by
    simp only [matchE] at h
    split at h
    · simp only [Bool.and_eq_true] at h
      exact both (PE.imp (pe_ix (ix_D (X := X) (Nat.lt_of_le_of_lt (by omega) ok.hu)) (sndE o X ok _ h.1.1).1 (sndE i X ok _ h.1.2).1 (plainIx_of h.2)) idx_read) fun _ => rfl
    · cases h
  | .slc o a b, X, ok, py, h => by
    simp only [matchE] at h
    split at h
    · simp only [Bool.and_eq_true] at h
      exact both (PE.imp (pe_slice sl_D (sndE o X ok _ h.1.1).1 (sndO a X ok _ h.1.2) (sndO b X ok _ h.2)) slc_read) fun _ => rfl
    · cases h
  | .back o, X, ok, py, h => by
    simp only [matchE] at h
    split at h
    · simp only [Bool.and_eq_true, decide_eq_true_eq] at h
      obtain ⟨h, rfl⟩ := h
      exact both (pe_back ok (sndE o X ok _ h).1) fun _ => rfl
    · cases h
  | .rep es k, X, ok, py, h => by
    simp only [matchE] at h
    split at h
    · simp only [Bool.and_eq_true, decide_eq_true_eq] at h
      exact both (PE.imp (pe_op op_rep (pe_lst (sndA es X ok _ h.1.1).2) (sndE k X ok _ h.2).1) (rep_read h.1.1 h.1.2)) fun _ => rfl
    · cases h
  | .inG neg a i, X, ok, py, h => by
    simp only [matchE] at h
    split at h
    · simp at h
    · cases h
  | .lof it, X, ok, py, h => by
    simp only [matchE] at h
    split at h
    · simp at h
    · cases h
  | .lc elt t it own d, X, ok, py, h => by
    simp only [matchE] at h
    split at h
    · rename_i y tg iter ifs k scope pos
      simp only [Bool.and_eq_true, decide_eq_true_eq] at h
      obtain ⟨⟨⟨⟨⟨⟨⟨⟨⟨rfl, hi⟩, hf⟩, hp⟩, hb⟩, hm⟩, hm'⟩, ht⟩, hd⟩, he⟩ := h
      have hown : (ownP c own).map (·.2) = own := by
        unfold ownP
        rw [List.map_map]
        exact (List.map_congr_left fun _ _ => rfl).trans (List.map_id _)
      have hE : PE X (.ListComp y [⟨tg, iter, ifs, 0⟩] scope pos) (tE X.K Φ G (.lc elt t it own d)) := by
        refine PE.imp (pe_lc (own := ownP c own) (wi := tI X.K Φ G it) (g := tG X.K t) (tt := TB.tIf X.K Φ G d) (te := tE X.K Φ G elt) ok.calm ok.nd (sndI it X ok _ hi tg (tp_of hp hm)) (blkOk_by (by rw [ok.N]; exact hb)) ?_ ?_ ?_ (folded_of hf)) fun σ H Q q => ?_
        · intro s H C cl fp
          exact pg_tg (ok.blk s H scope _ fp) (fun x hl hx => blk_fn (sc := X.env.scope) hl hx) hm hm'
        · intro s H C cl fp
          exact sndIf d _ (ok.blk s H scope _ fp) _ hd
        · intro s H C cl fp
          exact (sndE elt _ (ok.blk s H scope _ fp) _ he).1
        · rw [hown]
          exact lc_read ht σ H Q q
      exact ⟨hE, pt_dflt hE fun _ => rfl⟩
    · cases h
theorem sndA : ∀ (es : Es) (X : Cx), XOk X c Φ G → ∀ (pys : List Expr), matchEs c es X.env.scope pys = true → PA X pys (tA X.K Φ G es) ∧ PA X pys (tAD X.K Φ G es)
  | .nil, X, ok, pys, h => by
    simp only [matchEs] at h
    split at h
    · refine ⟨PA.imp pa_nil fun σV H Q ⟨R, σ, st, as, hl, hw, q⟩ => ?_, PA.imp pa_nil fun σV H Q ⟨R, σ, st, as, hl, hw, q⟩ => ?_⟩
      · rw [evs] at q
        exact q [] H as (.refl hw) True.intro
      · rw [evD] at q
        exact q [] H as (.refl hw) .nil
    · cases h
  | .cons e es, X, ok, pys, h => by
    simp only [matchEs] at h
    split at h
    · rename_i x xs
      rw [Bool.and_eq_true, Bool.and_eq_true] at h
      have h1 := (sndE e X ok x h.1.1).1
      obtain ⟨h2, h3⟩ := sndA es X ok xs h.2
      refine ⟨PA.imp (pa_cons h1 h2 (star_cons h.1.2)) fun σV H Q ⟨R, σ, st, as, hl, hw, q⟩ => ?_, PA.imp (pa_cons h1 h3 (star_cons h.1.2)) fun σV H Q ⟨R, σ, st, as, hl, hw, q⟩ => ?_⟩
      · rw [evs] at q
        refine rd_step hl hw (wp_bind q) fun w st1 v H1 as1 p po l r => ?_
        refine rd_step l po.wld (wp_bind p) fun ws st2 vs H2 as2 p2 po2 l2 r2 => ?_
        exact p2 (v :: vs) H2 as2 (po.trans po2) ⟨r.grow po2.grow po2.ext, r2⟩
      · rw [evD] at q
        refine rd_step hl hw (wp_bind q) fun w st1 v H1 as1 p po l r => ?_
        obtain ⟨d, st2, p2, po2, r2⟩ := val_of po.wld r (wp_bind p)
        refine rd_step (l.grow po2.grow po2.ext) po2.wld (wp_bind p2) fun ds st3 vs H3 as3 p3 po3 l3 r3 => ?_
        exact p3 (v :: vs) H3 as3 ((po.trans po2).trans po3) (.cons (r2.grow po3.grow) r3)
    · cases h
theorem sndO : ∀ (o : Oe) (X : Cx), XOk X c Φ G → ∀ (py : Option Expr), matchO c o X.env.scope py = true → PO X py (tO X.K Φ G o)
  | .no, X, ok, py, h => by
    simp only [matchO] at h
    split at h
    · exact PO.imp po_none oNo_read
    · cases h
  | .yes e, X, ok, py, h => by
    simp only [matchO] at h
    split at h
    · exact PO.imp (po_some (sndE e X ok _ h).1) oYes_read
    · cases h
theorem sndIf : ∀ (o : Oe) (X : Cx), XOk X c Φ G → ∀ (py : List Expr), matchIf c o X.env.scope py = true → PTs X py (TB.tIf X.K Φ G o)
  | .no, X, ok, py, h => by
    simp only [matchIf] at h
    split at h
    · exact PTs.imp pts_nil ifNo_read
    · cases h
  | .yes e, X, ok, py, h => by
    simp only [matchIf] at h
    split at h
    · exact PTs.imp (pts_one (sndE e X ok _ h).2) ifYes_read
    · cases h
theorem sndI : ∀ (it : I) (X : Cx), XOk X c Φ G → ∀ (py : Expr), matchI c it X.env.scope py = true → ∀ (tg : Expr), (pairI it = true → ∃ es k pos, tg = .Tuple es k pos) → PI X tg py (tI X.K Φ G it)
  | .e e, X, ok, py, h, tg, ht => by
    simp only [matchI] at h
    exact PI.imp (pi_seq (pe_bnd (sndE e X ok _ h).1)) seq_read
  | .r1 a, X, ok, py, h, tg, ht => by
    simp only [matchI] at h
    split at h
    · simp only [Bool.and_eq_true, decide_eq_true_eq] at h
      obtain ⟨⟨⟨rfl, hg⟩, ha⟩, hs⟩ := h
      exact PI.imp (pi_range1 (gl_of hg) (bt ok) (pa_cons (sndE a X ok _ ha).1 pa_nil (star_cons hs)) (star_cons hs)) r1_read
    · cases h
  | .r2 a b, X, ok, py, h, tg, ht => by
    simp only [matchI] at h
    split at h
    · simp only [Bool.and_eq_true, decide_eq_true_eq] at h
      obtain ⟨⟨⟨⟨⟨rfl, hg⟩, ha⟩, hs⟩, hb⟩, hs2⟩ := h
      exact PI.imp (pi_range2 (gl_of hg) (bt ok) (pa_cons (sndE a X ok _ ha).1 (pa_cons (sndE b X ok _ hb).1 pa_nil (star_cons hs2)) (star_cons hs)) (by rw [star_cons hs, star_cons hs2]; rfl) (star_cons hs2)) r2_read
    · cases h
  | .r3 a b d, X, ok, py, h, tg, ht => by
    simp only [matchI] at h
    split at h
    · simp only [Bool.and_eq_true, decide_eq_true_eq] at h
      obtain ⟨⟨⟨⟨⟨⟨⟨rfl, hg⟩, ha⟩, hs⟩, hb⟩, hs2⟩, hd⟩, hs3⟩ := h
      refine PI.imp (pi_range3 (gl_of hg) (bt ok) (pa_cons (sndE a X ok _ ha).1 (pa_cons (sndE b X ok _ hb).1 (pa_cons (sndE d X ok _ hd).1 pa_nil (star_cons hs3)) (star_cons hs2)) (star_cons hs)) (star_cons hs) (any_back ?_)) r3_read
      rw [star_cons hs2, star_cons hs3]
      rfl
    · cases h
  | .gl i, X, ok, py, h, tg, ht => by
    simp only [matchI] at h
    split at h
    · simp at h
    · cases h
  | .en a, X, ok, py, h, tg, ht => by
    simp only [matchI] at h
    obtain ⟨es, k, pos, rfl⟩ := ht rfl
    split at h
    · simp only [Bool.and_eq_true, decide_eq_true_eq] at h
      obtain ⟨⟨⟨rfl, hg⟩, ha⟩, hs⟩ := h
      exact PI.imp (pi_enum (gl_of hg) (bt ok) (pa_cons (pe_bnd (sndE a X ok _ ha).1) pa_nil (star_cons hs)) (star_cons hs)) en_read
    · cases h
  | .z2 a b, X, ok, py, h, tg, ht => by
    simp only [matchI] at h
    obtain ⟨es, k, pos, rfl⟩ := ht rfl
    split at h
    · simp only [Bool.and_eq_true, decide_eq_true_eq] at h
      obtain ⟨⟨⟨⟨⟨rfl, hg⟩, ha⟩, hs⟩, hb⟩, hs2⟩ := h
      exact PI.imp (RZ.pi_zipA (gl_of hg) (bt ok) (pa_cons (pe_bnd (sndE a X ok _ ha).1) (pa_cons (sndE b X ok _ hb).1 pa_nil (star_cons hs2)) (star_cons hs)) (star_cons hs) (any_back (by rw [star_cons hs2]; rfl))) z2_read
    · cases h
end
end
end TB
set_option maxRecDepth 100000
/-! TBStm: readings of statements. -/
namespace TB
open PySem PySem.Spec PyProof.Rows L2
/-- how a statement ends, by trees -/
def Fin (K : PySem.W.Frag) (R : Addr → Prop) (H : Hp) (st : Sto) (as : As) (D : Ends) (fl : Fl) (st' : Sto) : Prop :=
  match fl with
  | .nx σ' => ∀ σV' H' as', Post K R H st as st' H' as' → Loc K H' (Zof st' as' R) as' σ' σV' → D.nx σV' H'
  | .rt w => ∀ v H' as', Post K R H st as st' H' as' → RelW K H' (Zof st' as' R) as' w v → D.rt v H'
theorem Fin.trans {K : PySem.W.Frag} {R : Addr → Prop} {H H1 : Hp} {st st1 : Sto} {as as1 : As} {D : Ends} (po : Post K R H st as st1 H1 as1) : ∀ {fl : Fl} {st' : Sto}, Fin K R H st as D fl st' → Fin K R H1 st1 as1 D fl st'
  | .nx σ', st', h => fun σV' H' as' p l => h σV' H' as' (po.trans p) l
  | .rt w, st', h => fun v H' as' p r => h v H' as' (po.trans p) r
section
variable (K : PySem.W.Frag) (Φ : Nat → List W → Sto → Res W) (G : List D)
def rdS (f : Ev → Sto → Res Fl) : TS := fun D σV H => ∃ R σ st as, Loc K H (Zof st as R) as σ σV ∧ Wld K H R st as ∧ (f σ st).wp fun fl st' => Fin K R H st as D fl st'
def tS (s : S) : TS := rdS K (ex Φ G s)
def tSs (r : Ss) : TS := rdS K (exs Φ G r)
end
section
variable {K : PySem.W.Frag} {Φ : Nat → List W → Sto → Res W} {G : List D}
theorem nil_read (D : Ends) (σV : L2.St) (H : Hp) (h : tSs K Φ G .nil D σV H) : tNext D σV H := by
  obtain ⟨R, σ, st, as, hl, hw, h⟩ := h
  rw [exs] at h
  exact h σV H as (.refl hw) hl
theorem cons_read {s : S} {r : Ss} (D : Ends) (σV : L2.St) (H : Hp) (h : tSs K Φ G (.cons s r) D σV H) : tSeq (tS K Φ G s) (tSs K Φ G r) D σV H := by
  obtain ⟨R, σ, st, as, hl, hw, h⟩ := h
  rw [exs] at h
  refine ⟨R, σ, st, as, hl, hw, wp_mono (wp_bind h) fun fl st1 q => ?_⟩
  cases fl with
  | nx σ1 => exact fun σV' H' as' p l => ⟨R, σ1, st1, as', l, p.wld, wp_mono q fun _ _ z => Fin.trans p z⟩
  | rt w => exact q
theorem ret_read {e : E} (D : Ends) (σV : L2.St) (H : Hp) (h : tS K Φ G (.ret e) D σV H) : tRet (tE K Φ G e) D σV H := by
  obtain ⟨R, σ, st, as, hl, hw, h⟩ := h
  rw [ex] at h
  refine rd_step hl hw (wp_bind h) fun w st1 v H1 as1 p po l r => ?_
  obtain ⟨d, st2, p2, po2, r2⟩ := val_of po.wld r (wp_bind p)
  exact p2 v H1 as1 (po.trans po2) r2
theorem retM_read {i : Nat} (D : Ends) (σV : L2.St) (H : Hp) (h : tS K Φ G (.retM i) D σV H) : tRet (tE K Φ G (.var i)) D σV H := by
  obtain ⟨R, σ, st, as, hl, hw, h⟩ := h
  rw [ex] at h
  refine ⟨R, σ, st, as, hl, hw, ?_⟩
  rw [ev]
  split at h
  · exact h
  · exact h.elim
theorem if_read {c : E} {a b : Ss} (D : Ends) (σV : L2.St) (H : Hp) (h : tS K Φ G (.ife c a b) D σV H) : tIfS (tT K Φ G c) (tSs K Φ G a) (tSs K Φ G b) D σV H := by
  obtain ⟨R, σ, st, as, hl, hw, h⟩ := h
  rw [ex] at h
  unfold tIfS tT
  refine rd_step hl hw (wp_bind h) fun k st1 v H1 as1 p po l r => ?_
  subst r
  cases v with
  | true =>
    rw [if_pos rfl] at p ⊢
    exact ⟨R, σ, st1, as1, l, po.wld, wp_mono p fun _ _ z => Fin.trans po z⟩
  | false =>
    rw [if_neg Bool.false_ne_true] at p ⊢
    exact ⟨R, σ, st1, as1, l, po.wld, wp_mono p fun _ _ z => Fin.trans po z⟩
theorem expr_read {e : E} (D : Ends) (σV : L2.St) (H : Hp) (h : tS K Φ G (.expr e) D σV H) : tDrop (tE K Φ G e) D σV H := by
  obtain ⟨R, σ, st, as, hl, hw, h⟩ := h
  rw [ex] at h
  exact rd_step hl hw (wp_bind h) fun w st1 v H1 as1 p po l r => p σV H1 as1 po l
theorem pass_read (D : Ends) (σV : L2.St) (H : Hp) (h : tS K Φ G .pass D σV H) : tNext D σV H := by
  obtain ⟨R, σ, st, as, hl, hw, h⟩ := h
  rw [ex] at h
  exact h σV H as (.refl hw) hl
theorem rais_read {c : Nat} {es : Es} (D : Ends) (σV : L2.St) (H : Hp) (h : tS K Φ G (.rais c es) D σV H) : tNever D σV H := by
  obtain ⟨R, σ, st, as, hl, hw, h⟩ := h
  rw [ex] at h
  have h := wp_bind h
  cases e : evD Φ G es σ st with
  | ok _ _ => rw [e] at h; exact h
  | exc _ _ _ => rw [e] at h; exact h
  | bad => rw [e] at h; exact h
theorem asg_read {i : Nat} {e : E} (D : Ends) (σV : L2.St) (H : Hp) (h : tS K Φ G (.asg i e false) D σV H) : tAsg (tE K Φ G e) (gName i) D σV H := by
  obtain ⟨R, σ, st, as, hl, hw, h⟩ := h
  rw [ex] at h
  refine rd_step hl hw (wp_bind h) fun w st1 v H1 as1 p po l r => ?_
  rw [if_neg Bool.false_ne_true] at p
  obtain ⟨d, st2, p2, po2, r2⟩ := val_of po.wld r (wp_bind p)
  exact p2 _ H1 as1 (po.trans po2) ((l.grow po2.grow po2.ext).set (w := .d d) r2)
theorem asgT_read {is : List Nat} {e : E} (D : Ends) (σV : L2.St) (H : Hp) (h : tS K Φ G (.asgT is e) D σV H) : tAsg (tE K Φ G e) (tG K (.tp is)) D σV H := by
  obtain ⟨R, σ, st, as, hl, hw, h⟩ := h
  rw [ex] at h
  refine rd_step hl hw (wp_bind h) fun w st1 v H1 as1 p po l r => ?_
  split at p
  · rename_i xs
    obtain ⟨fl, hf, q⟩ := wp_ofO p
    rw [Option.map_eq_some_iff] at hf
    obtain ⟨σ1, hσ, rfl⟩ := hf
    exact tG_of (t := .tp is) (d := .tuple xs) hσ r l fun σV1 l1 _ => q σV1 H1 as1 po l1
  · exact p.elim
theorem asgP_read {is : List Nat} {es : Es} {c : Cxt} {sc : Scope} {pys : List Expr} (hm : matchEs c es sc pys = true) (hn : pys.length ≤ 1000) (D : Ends) (σV : L2.St) (H : Hp) (h : tS K Φ G (.asgP is es) D σV H) : tAsg (tTup (tAD K Φ G es)) (tG K (.tp is)) D σV H := by
  obtain ⟨R, σ, st, as, hl, hw, h⟩ := h
  rw [ex] at h
  unfold tAsg tTup tAD
  refine rd_step hl hw (wp_self (wp_bind h)) fun ds st1 vs H1 as1 p po l r => ⟨?_, fun a ha => ?_⟩
  · rw [← r.length, evD_len p.1 hm]
    exact lim_line (Nat.le_trans hn (by decide))
  · obtain ⟨fl, hf, q⟩ := wp_ofO p.2
    rw [Option.map_eq_some_iff] at hf
    obtain ⟨σ1, hσ, rfl⟩ := hf
    have po1 := po.trans (Post.alloc (o := .tup vs) po.wld ha)
    have g := grows_new (Z := Zof st1 as1 R) (o := .tup vs) ha
    exact tG_of (t := .tp is) (d := .tuple ds) hσ (.tup ⟨upd_same, po.wld.notZ ha⟩ (r.grow g)) (l.grow g ⟨[], by simp⟩) fun σV1 l1 _ => q σV1 _ as1 po1 l1
theorem par_read {i j : Nat} {es : Es} (hij : i ≠ j) (D : Ends) (σV : L2.St) (H : Hp) (h : tS K Φ G (.asgP [i, j] es) D σV H) : tPar i j (tAD K Φ G es) D σV H := by
  obtain ⟨R, σ, st, as, hl, hw, h⟩ := h
  rw [ex] at h
  first | unfold tPar tAD | unfold tPar3 tAD
  refine rd_step hl hw (wp_bind h) fun ds st1 vs H1 as1 p po l r => ?_
  obtain ⟨fl, hf, q⟩ := wp_ofO p
  rw [Option.map_eq_some_iff] at hf
  obtain ⟨σ1, hσ, rfl⟩ := hf
  have hlen := storeT_len hσ
  match ds, vs, r, hlen, hσ with
  | [d, e], _, .cons r1 (.cons r2 .nil), _, hσ =>
    cases hσ
    exact ⟨_, _, rfl, q _ H1 as1 po ((l.set (w := .d d) r1).set (w := .d e) r2)⟩
theorem par3_read {i j k : Nat} {es : Es} (D : Ends) (σV : L2.St) (H : Hp) (h : tS K Φ G (.asgP [i, j, k] es) D σV H) : tPar3 i j k (tAD K Φ G es) D σV H := by
  obtain ⟨R, σ, st, as, hl, hw, h⟩ := h
  rw [ex] at h
  first | unfold tPar tAD | unfold tPar3 tAD
  refine rd_step hl hw (wp_bind h) fun ds st1 vs H1 as1 p po l r => ?_
  obtain ⟨fl, hf, q⟩ := wp_ofO p
  rw [Option.map_eq_some_iff] at hf
  obtain ⟨σ1, hσ, rfl⟩ := hf
  have hlen := storeT_len hσ
  match ds, vs, r, hlen, hσ with
  | [d, e, f], _, .cons r1 (.cons r2 (.cons r3 .nil)), _, hσ =>
    cases hσ
    exact ⟨_, _, _, rfl, q _ H1 as1 po (((l.set (w := .d d) r1).set (w := .d e) r2).set (w := .d f) r3)⟩
/-- the new object comes into the store -/
theorem PostF.push {R : Addr → Prop} {H : Hp} {st : Sto} {as : As} {p : Addr} {st' : Sto} {H' : Hp} {as' : As} (h : PostF K R H st as p st' H' as') {ob : Ob} (l : ob.live = true) (s : Slot K H' (Zof st' as' fun q => R q ∨ q = p) ob p []) :
    Post K R H st as (st' ++ [ob]) H' (as' ++ [(p, [])]) ∧ Zof (st' ++ [ob]) (as' ++ [(p, [])]) R = Zof st' as' (fun q => R q ∨ q = p) := by
  obtain ⟨w, e⟩ := h.wld.push h.np l s
  refine ⟨⟨w, by rw [e]; exact h.grow, ?_, h.res⟩, e⟩
  obtain ⟨m, e⟩ := h.ext
  exact ⟨m ++ [(p, [])], by rw [e, List.append_assoc]⟩
theorem newOb_live {d : D} {ob : Ob} (h : newOb d = some ob) : ob.live = true := by
  cases d <;> simp only [newOb] at h <;> try (cases h; done)
  all_goals cases h; rfl
theorem asgM_read {i : Nat} {e : E} (D : Ends) (σV : L2.St) (H : Hp) (h : tS K Φ G (.asg i e true) D σV H) : tAsg (tEF K Φ G e) (gName i) D σV H := by
  obtain ⟨R, σ, st, as, hl, hw, h⟩ := h
  rw [ex] at h
  refine ⟨R, σ, st, as, hl, hw, wp_mono (wp_bind h) fun w st' q => ?_⟩
  rw [if_pos rfl] at q
  cases w with
  | d d =>
    intro p ob H' as' hob po sl
    simp only at q
    split at q
    · rw [hob] at q
      obtain ⟨pp, ez⟩ := po.push (newOb_live hob) sl
      refine q _ H' _ pp ?_
      rw [ez]
      have hl' : Loc K H' (Zof st' as' fun q => R q ∨ q = p) (as' ++ [(p, [])]) σ σV := by
        obtain ⟨m, em⟩ := po.ext
        exact hl.grow po.grow ⟨m ++ [(p, [])], by rw [em, List.append_assoc]⟩
      refine hl'.set (w := .r st'.length) ⟨p, [], ?_, rfl⟩
      rw [po.wld.len]
      simp
    · exact q.elim
  | r a =>
    exact fun v H' as' po r => q _ H' as' po ((hl.grow po.grow po.ext).set r)
theorem retN_read {e : E} (D : Ends) (σV : L2.St) (H : Hp) (h : tS K Φ G (.retN e) D σV H) : tRet (tEF K Φ G e) D σV H := by
  obtain ⟨R, σ, st, as, hl, hw, h⟩ := h
  rw [ex] at h
  refine ⟨R, σ, st, as, hl, hw, wp_mono (wp_bind h) fun w st' q => ?_⟩
  cases w with
  | d d =>
    intro p ob H' as' hob po sl
    simp only at q
    split at q
    · rw [hob] at q
      obtain ⟨pp, ez⟩ := po.push (newOb_live hob) sl
      refine q _ H' _ pp ⟨p, [], ?_, rfl⟩
      rw [po.wld.len]
      simp
    · exact q.elim
  | r a => exact fun v H' as' po r => q v H' as' po r
theorem lst_readF {es : Es} {c : Cxt} {sc : Scope} {pys : List Expr} (hm : matchEs c es sc pys = true) (hn : pys.length ≤ 1000) (σV : L2.St) (H : Hp) (Q : VK) (h : tEF K Φ G (.lst es) σV H Q) : tLst (tAD K Φ G es) σV H Q := by
  obtain ⟨R, σ, st, as, hl, hw, q⟩ := h
  rw [ev] at q
  unfold tLst tAD
  refine rd_step hl hw (wp_self (wp_bind q)) fun ds st1 vs H1 as1 p po l r => ⟨?_, fun a ha => ?_⟩
  · rw [← r.length, evD_len p.1 hm]
    exact lim_line (Nat.le_trans hn (by decide))
  · have pf := PostF.fresh (o := .lst vs) po ha
    exact AnsL.ofF p.2 a vs _ as1 pf upd_same (r.grow (grows_keep ha fun q z => by
      rcases z with z | z | z
      · exact .inl (.inl z)
      · exact .inl (.inr z)
      · exact .inr z))
theorem dnew_readF (σV : L2.St) (H : Hp) (Q : VK) (h : tEF K Φ G .dnew σV H Q) : tDNewK σV H Q := by
  obtain ⟨R, σ, st, as, hl, hw, q⟩ := h
  rw [ev] at q
  intro p hp
  exact q p (.dct []) _ as rfl (.fresh (.refl hw) hp) (.dK upd_same .nil)
theorem rep_readF {es : Es} {k : E} {c : Cxt} {sc : Scope} {pys : List Expr} (hm : matchEs c es sc pys = true) (hn : pys.length ≤ 1000) (σV : L2.St) (H : Hp) (Q : VK) (h : tEF K Φ G (.rep es k) σV H Q) : tOp rRep (tLst (tAD K Φ G es)) (tE K Φ G k) σV H Q := by
  obtain ⟨R, σ, st, as, hl, hw, q⟩ := h
  rw [ev] at q
  unfold tOp tLst tAD
  refine rd_step (f := evD Φ G es) hl hw (wp_self (wp_bind q)) fun ds st1 vs H1 as1 p po l r => ⟨?_, fun a ha => ?_⟩
  · rw [← r.length, evD_len p.1 hm]
    exact lim_line (Nat.le_trans hn (by decide))
  · have po1 := po.trans (Post.alloc (o := .lst vs) po.wld ha)
    have l1 : Loc K (upd H1 a (.lst vs)) (Zof st1 as1 R) as1 σ σV := l.grow (grows_new ha) ⟨[], by simp⟩
    refine rd_step l1 po1.wld (wp_bind p.2) fun w st2 v H2 as2 p2 po2 l2 r2 => ?_
    split at p2
    · rename_i n
      obtain rfl := relW_int r2
      split at p2
      · rename_i hb
        have e1 := (po2.grow a (.lst vs) upd_same (po.wld.notZ ha)).1
        refine ⟨a, n, vs, rfl, rfl, e1, hb.2.1, hb.2.2, by rw [← r.length]; exact lim_line hb.1, fun b hb' => ?_⟩
        have pf := PostF.fresh (o := .lst (List.replicate n.toNat vs).flatten) (po1.trans po2) hb'
        exact AnsL.ofF p2 b _ _ as2 pf upd_same ((r.grow (((grows_new ha).trans po2.grow).trans (grows_keep hb' fun q z => by
          rcases z with z | z | z
          · exact .inl (.inl z)
          · exact .inl (.inr z)
          · exact .inr z))).rep n.toNat)
      · exact p2.elim
    · exact p2.elim
theorem call_ref {f : Nat} {es : Es} (σV : L2.St) (H : Hp) (D : Ends) {i : Nat} (h : tS K Φ G (.asg i (.call f es) true) D σV H) : tAsg (tE K Φ G (.call f es)) (gName i) D σV H := by
  obtain ⟨R, σ, st, as, hl, hw, h⟩ := h
  rw [ex] at h
  refine rd_step hl hw (wp_bind h) fun w st1 v H1 as1 p po l r => ?_
  rw [if_pos rfl] at p
  cases w with
  | d d => exact p.elim
  | r a => exact p _ H1 as1 po (l.set r)
/-! loops -/
theorem for_read {t : Tg} {it : I} {b : Ss} (D : Ends) (σV : L2.St) (H : Hp) (h : tS K Φ G (.fori t it b) D σV H) : tFor (tI K Φ G it) (tG K t) (tSs K Φ G b) D σV H := by
  obtain ⟨R, σ, st, as, hl, hw, h⟩ := h
  rw [ex] at h
  refine ⟨R, σ, st, as, hl, hw, wp_mono (wp_bind h) fun xs st1 h1 J H1 as1 po yl => ?_⟩
  refine ⟨fun i m σV' Hc => m = xs.length - i ∧ i ≤ xs.length ∧ ∃ σ2 st2 as2, Loc K Hc (Zof st2 as2 R) as2 σ2 σV' ∧ Post K R H st as st2 Hc as2 ∧ Grows H1 (Zof st1 as1 R) Hc (Zof st2 as2 R) ∧ (forL _ (xs.drop i) σ2 st2).wp (fun fl st' => Fin K R H st as D fl st'),
    ⟨xs.length, by simp, Nat.zero_le _, σ, st1, as1, hl.grow po.grow po.ext, po, .refl, h1⟩, ?_⟩
  rintro i m σV' Hc ⟨rfl, hi, σ2, st2, as2, hl2, po2, g2, c2⟩
  by_cases hlt : i < xs.length
  · refine .inr ⟨yl.go Hc _ g2 i hlt, fun σV' Hn => ∃ m', m' < xs.length - i ∧ (m' = xs.length - (i + 1) ∧ i + 1 ≤ xs.length ∧ ∃ σ2 st2 as2, Loc K Hn (Zof st2 as2 R) as2 σ2 σV' ∧ Post K R H st as st2 Hn as2 ∧ Grows H1 (Zof st1 as1 R) Hn (Zof st2 as2 R) ∧ (forL _ (xs.drop (i + 1)) σ2 st2).wp (fun fl st' => Fin K R H st as D fl st')), fun _ _ z => z, fun x H3 hy => ?_⟩
    obtain ⟨hH, dd, hd, rd⟩ := yl.yld Hc _ g2 (fun p hp => po2.wld.zof hp) i x H3 hlt hy
    have dr : xs.drop i = dd :: xs.drop (i + 1) := by
      rw [List.drop_eq_getElem_cons hlt]
      rw [List.getElem?_eq_getElem hlt] at hd
      rw [Option.some.inj hd]
    rw [dr, forL] at c2
    have po3 : Post K R Hc st2 as2 st2 H3 as2 := by
      rcases hH with rfl | ⟨T, o, hT, rfl⟩
      · exact .refl po2.wld
      · exact .alloc po2.wld hT
    have c3 := wp_bind c2
    obtain ⟨σ1, hσ1, c5⟩ := wp_ofO (wp_bind c3)
    refine tG_of hσ1 rd (hl2.grow po3.grow po3.ext) fun σV1 hl1 _ => ⟨R, σ1, st2, as2, hl1, po3.wld, wp_mono c5 fun fl st4 q => ?_⟩
    cases fl with
    | nx σ4 =>
      intro σV4 H4 as4 po4 hl4
      have pp := (po2.trans po3).trans po4
      exact ⟨xs.length - (i + 1), by omega, rfl, by omega, σ4, st4, as4, hl4, pp, g2.trans (po3.grow.trans po4.grow), q⟩
    | rt w => exact fun v H' as' po4 r => q v H' as' ((po2.trans po3).trans po4) r
  · have e : i = xs.length := by omega
    subst e
    rw [List.drop_length] at c2
    exact .inl ⟨yl.stop Hc _ g2, c2 σV' Hc as2 po2 hl2⟩
theorem while_read {c : E} {b : Ss} (D : Ends) (σV : L2.St) (H : Hp) (h : tS K Φ G (.whil c b) D σV H) : tWhile (tT K Φ G c) (tSs K Φ G b) D σV H := by
  obtain ⟨R, σ, st, as, hl, hw, h⟩ := h
  rw [ex] at h
  refine ⟨fun m σV' Hc => ∃ σ2 st2 as2, Loc K Hc (Zof st2 as2 R) as2 σ2 σV' ∧ Post K R H st as st2 Hc as2 ∧ (whileL _ _ m σ2 st2).wp (fun fl st' => Fin K R H st as D fl st'), ⟨FUEL, σ, st, as, hl, .refl hw, h⟩, ?_⟩
  rintro m σV' Hc ⟨σ2, st2, as2, hl2, po2, c2⟩
  cases m with
  | zero => exact c2.elim
  | succ n =>
    rw [whileL] at c2
    refine rd_step hl2 po2.wld (wp_bind c2) fun k st3 v H3 as3 p3 po3 l3 r3 => ?_
    subst r3
    cases v with
    | false =>
      rw [if_neg Bool.false_ne_true] at p3 ⊢
      exact p3 σV' H3 as3 (po2.trans po3) l3
    | true =>
      rw [if_pos rfl] at p3 ⊢
      refine ⟨fun σV' Hn => ∃ m', m' < n + 1 ∧ ∃ σ2 st2 as2, Loc K Hn (Zof st2 as2 R) as2 σ2 σV' ∧ Post K R H st as st2 Hn as2 ∧ (whileL _ _ m' σ2 st2).wp (fun fl st' => Fin K R H st as D fl st'), fun _ _ z => z, R, σ2, st3, as3, l3, po3.wld, wp_mono (wp_bind p3) fun fl st4 q => ?_⟩
      cases fl with
      | nx σ4 => exact fun σV4 H4 as4 po4 hl4 => ⟨n, Nat.lt_succ_self n, σ4, st4, as4, hl4, (po2.trans po3).trans po4, q⟩
      | rt w => exact fun v H' as' po4 r => q v H' as' ((po2.trans po3).trans po4) r
end
end TB
set_option maxRecDepth 100000
/-! TBStm2: statements that change an object. -/
namespace TB
open PySem PySem.Spec PyProof.Rows L2
section
variable {K : PySem.W.Frag} {R : Addr → Prop} {st : Sto} {as : As} {H : Hp} {Z : Addr → Prop}
theorem post_write (w : Wld K H R st as) {i : Nat} {ob ob' : Ob} {a : Addr} {qs : List Addr} {o : HO} (h1 : st[i]? = some ob) (h2 : as[i]? = some (a, qs)) (l : ob.live = true) (l' : ob'.live = true)
    (new : Slot K (upd H a o) (Zof st as R) ob' a qs) : Post K R H st as (st.set i ob') (upd H a o) as := by
  obtain ⟨w', g⟩ := w.write h1 h2 l l' new
  refine ⟨w', g, ⟨[], by simp⟩, fun q hq => upd_ne fun z => ?_⟩
  subst z
  exact (w.res _ hq).2 ⟨i, ob, _, qs, h1, l, h2, .inl rfl⟩
theorem atVar_of {σ : Ev} {i a : Nat} (h : atVar σ i = some a) : σ[i]? = some (some (.r a)) := by
  unfold atVar at h
  split at h
  · rename_i b e
    cases h
    exact e
  · cases h
theorem lstAt_of {σ : Ev} {i a : Nat} {st : Sto} (h : lstAt σ i st = some a) : σ[i]? = some (some (.r a)) ∧ ∃ xs, st[a]? = some (.lst xs) := by
  unfold lstAt at h
  rw [Option.bind_eq_some_iff] at h
  obtain ⟨b, hb, h⟩ := h
  split at h
  · rename_i xs e
    cases h
    exact ⟨atVar_of hb, xs, e⟩
  · cases h
theorem any_put {α : Type} (p : α → Bool) : True := trivial
theorem RelK.put {k : Key} {d : D} {v : V} (h : Rel K H Z d v) {es : List (D × D)} {kvs : List (Key × V)} (r : RelK K H Z es kvs) : RelK K H Z (putD es (kD k) d) (putK kvs k v) := by
  have hany : ∀ {es : List (D × D)} {kvs : List (Key × V)}, RelK K H Z es kvs → (es.any fun p => PyData.eqv p.1 (kD k)) = (kvs.any fun kv => decide (kv.1 = k)) := by
    intro es kvs r
    induction kvs generalizing es with
    | nil => cases r; rfl
    | cons q kvs ih =>
      cases r with
      | cons h1 h2 => rw [List.any_cons, List.any_cons, ih h2]; rw [eqv_kD]
  have hmap : ∀ {es : List (D × D)} {kvs : List (Key × V)}, RelK K H Z es kvs → RelK K H Z (es.map fun p => if PyData.eqv p.1 (kD k) then (p.1, d) else p) (kvs.map fun kv => if kv.1 = k then (kv.1, v) else kv) := by
    intro es kvs r
    induction kvs generalizing es with
    | nil => cases r; exact .nil
    | cons q kvs ih =>
      cases r with
      | @cons k' d' es v' _ h1 h2 =>
        rw [List.map_cons, List.map_cons]
        by_cases e : k' = k
        · simp only [eqv_kD, e, decide_true, if_true]
          exact .cons h (ih h2)
        · simp only [eqv_kD, e, decide_false, Bool.false_eq_true, if_false]
          exact .cons h1 (ih h2)
  have happ : ∀ {es : List (D × D)} {kvs : List (Key × V)}, RelK K H Z es kvs → RelK K H Z (es ++ [(kD k, d)]) (kvs ++ [(k, v)]) := by
    intro es kvs r
    induction kvs generalizing es with
    | nil => cases r; exact .cons h .nil
    | cons q kvs ih =>
      cases r with
      | cons h1 h2 => exact .cons h1 (ih h2)
  unfold putD putK
  rw [hany r]
  split
  · exact hmap r
  · exact happ r
theorem RelT.put {k : List Key} {d : D} {v : V} (h : Rel K H Z d v) {es : List (D × D)} {kvs : List (List Key × V)} (r : RelT K H Z es kvs) : RelT K H Z (putD es (.tuple (k.map kD)) d) (putK kvs k v) := by
  have hany : ∀ {es : List (D × D)} {kvs : List (List Key × V)}, RelT K H Z es kvs → (es.any fun p => PyData.eqv p.1 (.tuple (k.map kD))) = (kvs.any fun kv => decide (kv.1 = k)) := by
    intro es kvs r
    induction kvs generalizing es with
    | nil => cases r; rfl
    | cons q kvs ih =>
      cases r with
      | cons h1 h2 => rw [List.any_cons, List.any_cons, ih h2]; rw [eqv_kT]
  have hmap : ∀ {es : List (D × D)} {kvs : List (List Key × V)}, RelT K H Z es kvs → RelT K H Z (es.map fun p => if PyData.eqv p.1 (.tuple (k.map kD)) then (p.1, d) else p) (kvs.map fun kv => if kv.1 = k then (kv.1, v) else kv) := by
    intro es kvs r
    induction kvs generalizing es with
    | nil => cases r; exact .nil
    | cons q kvs ih =>
      cases r with
      | @cons k' d' es v' _ h1 h2 =>
        rw [List.map_cons, List.map_cons]
        by_cases e : k' = k
        · simp only [eqv_kT, e, decide_true, if_true]
          exact .cons h (ih h2)
        · simp only [eqv_kT, e, decide_false, Bool.false_eq_true, if_false]
          exact .cons h1 (ih h2)
  have happ : ∀ {es : List (D × D)} {kvs : List (List Key × V)}, RelT K H Z es kvs → RelT K H Z (es ++ [(.tuple (k.map kD), d)]) (kvs ++ [(k, v)]) := by
    intro es kvs r
    induction kvs generalizing es with
    | nil => cases r; exact .cons h .nil
    | cons q kvs ih =>
      cases r with
      | cons h1 h2 => exact .cons h1 (ih h2)
  unfold putD putK
  rw [hany r]
  split
  · exact hmap r
  · exact happ r
end
section
variable {X : Cx}
def rExtX (K : PySem.W.Frag) : V → List V → Hp → VK → Prop := fun x vs H Q => ∃ l b xs zs, x = .ref l ∧ vs = [.ref b] ∧ H l = some (.lst xs) ∧ LsX K H b zs ∧ xs.length + zs.length ≤ sizeLine ∧ Q .non (upd H l (.lst (xs ++ zs)))
theorem mt_extX : MtM X "list.extend" (rExtX X.K) := by
  intro pins s σ H x vs v us Q I rx rv h
  obtain ⟨l, b, xs, zs, rfl, rfl, hH, hB, hz, q⟩ := h
  cases rx
  obtain ⟨u, rfl, ru⟩ := rv.one
  cases ru
  obtain ⟨z, its, n, r, hl, e⟩ := I.lstM hH
  obtain ⟨its2, n2, r2, e2, z2⟩ := hB.at I
  have hl2 := r2.length
  have hsz : its.toArray.size + its2.toArray.size ≤ sizeLine := by rw [List.size_toArray, List.size_toArray]; omega
  have hlong : ¬ (!its.toArray.isEmpty && Builtin.List.listTooLong (its.toArray.size + its2.toArray.size)) = true := by
    rw [notLongL hsz, Bool.and_false]
    exact Bool.false_ne_true
  refine call_meets PySem.F.slot_list_extend ⟨_, e, rfl⟩ PySem.F.entry_list_extend (PySem.F.args_list_extend_2 _ _)
    (AutoSeq1.list_extend_list_list_0 l its.toArray n b its2.toArray n2 hlong (by rw [List.size_toArray]; omega) (by omega)) ⟨e, e2, ?_⟩
  refine ⟨.non, _, I.lset (its' := its ++ its2) hH e (by simp) (r.append r2) ?_, rfl, q⟩
  rw [List.length_append]
  omega
/-- o[y] = v, by trees -/
def rSetX (K : PySem.W.Frag) : TSet := fun o y v H Q => ∃ R st as a p qs ob ob' e d, Wld K H R st as ∧ st[a]? = some ob ∧ as[a]? = some (p, qs) ∧ o = .ref p ∧ Rel K H (Zof st as R) e y ∧ Rel K H (Zof st as R) d v ∧ setSlot ob e d = some ob' ∧ ∀ H', Post K R H st as (st.set a ob') H' as → Q H'
theorem set_X (hu : X.A.units + 1 < cLine) : PSet X (rSetX X.K) := by
  intro pins s σ H o y v ov iv u Q I ro ri rv ⟨R, st, as, a, p, qs, ob, ob', e, d, w, h1, h2, eo, re, rd, hs, q⟩
  subst eo
  have sl := w.slot a ob p qs h1 h2
  cases ob with
  | lst xs =>
    cases e <;> simp only [setSlot] at hs <;> try (cases hs; done)
    rename_i i
    cases re
    rw [Option.map_eq_some_iff] at hs
    obtain ⟨j, hj, rfl⟩ := hs
    cases sl with
    | lst e1 r =>
      have po := post_write (o := .lst _) w h1 h2 rfl (ob' := .lst (xs.set j d)) rfl (.lst upd_same ((r.set rd j).grow (grows_mut (.inl ⟨a, _, p, _, h1, rfl, h2, .inl rfl⟩))))
      exact set_list pins s σ H _ _ v ov iv u Q I ro ri rv ⟨p, _, i, j, rfl, rfl, e1, by rw [← r.length]; exact hj, q _ po⟩
  | dct es =>
    simp only [setSlot] at hs
    split at hs
    · rename_i hk
      cases hs
      rw [Bool.and_eq_true, decide_eq_true_eq] at hk
      obtain ⟨ok, hlen⟩ := hk
      cases (show ov = Value.ref p from ro)
      have hzp : Zof st as R p := .inl ⟨a, _, p, _, h1, rfl, h2, .inl rfl⟩
      simp only [keysOk, Bool.or_eq_true, Bool.and_eq_true] at ok
      have fin : ∀ {H' : Hp}, Post X.K R H st as (st.set a (.dct (putD es e d))) H' as → ∀ s', Inv X pins σ H' s' → ∃ H', Inv X pins σ H' s' ∧ Q H' := fun po s' I' => ⟨_, I', q _ po⟩
      rcases ok with ⟨o1, o2⟩ | ⟨o1, o2⟩
      · obtain ⟨k, rfl⟩ := flat_key o2
        obtain rfl := re.key
        have key : ∀ {kvs : List (Key × V)}, RelK X.K H (Zof st as R) es kvs → Post X.K R H st as (st.set a (.dct (putD es (kD k) d))) (upd H p (.dK (putK kvs k v))) as := fun {kvs} r => by
          refine post_write w h1 h2 rfl rfl ?_
          cases sl <;> exact .dK upd_same ((r.put rd).grow (grows_mut hzp))
        cases sl with
        | @dK _ kvs _ e1 r =>
          exact d_setItem hu I (.inl ⟨kvs, k, e1, rfl, by rw [← r.length]; exact Nat.lt_of_lt_of_le hlen (lim_line (Nat.le_refl _)), rfl⟩) ri rv (fin (key r))
        | @dT _ kvs _ e1 r =>
          by_cases hn : es = []
          · subst hn
            cases r
            refine d_setItem hu (empty_TK I e1) (.inl ⟨[], k, upd_same, rfl, by rw [List.length_nil]; exact Nat.lt_of_lt_of_le (by decide) sizeL, rfl⟩) ri rv ?_
            rw [upd_upd]
            exact fin (key .nil)
          · rw [r.tups hn] at o1; cases o1
      · obtain ⟨ks, rfl⟩ := tup_key o2
        cases re with
        | @tup b xs _ h4 h5 =>
          obtain rfl := h5.keys
          have key : ∀ {kvs : List (List Key × V)}, RelT X.K H (Zof st as R) es kvs → Post X.K R H st as (st.set a (.dct (putD es (.tuple (ks.map kD)) d))) (upd H p (.dT (putK kvs ks v))) as := fun {kvs} r => by
            refine post_write w h1 h2 rfl rfl ?_
            cases sl <;> exact .dT upd_same ((r.put rd).grow (grows_mut hzp))
          cases sl with
          | @dT _ kvs _ e1 r =>
            exact d_setItem hu I (.inr ⟨kvs, ks, b, e1, rfl, h4.1, by rw [← r.length]; exact Nat.lt_of_lt_of_le hlen (lim_line (Nat.le_refl _)), rfl⟩) ri rv (fin (key r))
          | @dK _ kvs _ e1 r =>
            by_cases hn : es = []
            · subst hn
              cases r
              refine d_setItem hu (empty_KT I e1) (.inr ⟨[], ks, b, upd_same, rfl, ?_, by rw [List.length_nil]; exact Nat.lt_of_lt_of_le (by decide) sizeL, rfl⟩) ri rv ?_
              · rw [upd_ne (ne_of h4.1 e1 (by intro z; cases z))]; exact h4.1
              · rw [upd_upd]
                exact fin (key .nil)
            · rw [r.flat hn] at o1; cases o1
    · cases hs
  | dl _ => cases e <;> cases hs
  | frz _ => cases e <;> cases hs
end
section
variable {K : PySem.W.Frag} {Φ : Nat → List W → Sto → Res W} {G : List D}
theorem change_of {σ : Ev} {i : Nat} {f : Ob → Option Ob} {st st' : Sto} {a : Nat} (h : change σ i f st = some st') (ha : σ[i]? = some (some (.r a))) : ∃ ob ob', st[a]? = some ob ∧ f ob = some ob' ∧ st' = st.set a ob' := by
  unfold change at h
  rw [Option.bind_eq_some_iff] at h
  obtain ⟨b, hb, h⟩ := h
  rw [Option.bind_eq_some_iff] at h
  obtain ⟨ob, ho, h⟩ := h
  rw [Option.map_eq_some_iff] at h
  obtain ⟨ob', h1, h2⟩ := h
  have e := atVar_of hb
  rw [ha] at e
  cases e
  exact ⟨ob, ob', ho, h1, h2.symm⟩
theorem app_read {i : Nat} {e : E} (D : Ends) (σV : L2.St) (H : Hp) (h : tS K Φ G (.app i e) D σV H) : tDrop (tBM K "list" rAppend (tE K Φ G (.var i)) (tCons (tE K Φ G e) tNil)) D σV H := by
  obtain ⟨R, σ, st, as, hl, hw, h⟩ := h
  rw [ex] at h
  obtain ⟨a, ha, h⟩ := wp_ofO (wp_bind h)
  obtain ⟨e1, xs, e2⟩ := lstAt_of ha
  refine ⟨R, σ, st, as, hl, hw, ?_⟩
  rw [ev, e1]
  rintro x H1 as1 po ⟨p, qs, ep, rfl⟩
  have sl := po.wld.slot a _ p qs e2 ep
  cases sl with
  | @lst _ vs _ e3 r3 =>
    refine ⟨.inl ⟨rfl, vs, (LsX.sq (.inl (.inl e3)))⟩, ?_⟩
    refine rd_step (hl.grow po.grow po.ext) po.wld (wp_bind h) fun w st2 y H2 as2 p2 po2 l2 r2 => ?_
    obtain ⟨d, st3, p3, po3, r3'⟩ := val_of po2.wld r2 (wp_bind p2)
    obtain ⟨st4, hc, q⟩ := wp_ofO (wp_bind p3)
    obtain ⟨ob, ob', ho, hf, rfl⟩ := change_of hc e1
    have ep3 : as2[a]? = some (p, []) := by
      obtain ⟨m, em⟩ := po2.ext
      rw [em, List.getElem?_append_left (List.getElem?_eq_some_iff.mp ep).1]; exact ep
    have sl := po3.wld.slot a _ p [] ho ep3
    cases ob <;> simp only [appSlot] at hf <;> try (cases hf; done)
    split at hf
    · rename_i hz
      cases hf
      cases sl with
      | lst e4 r4 =>
        have po4 := post_write (o := .lst _) po3.wld ho ep3 rfl (ob' := .lst _) rfl (.lst upd_same ((r4.app (.cons r3' .nil)).grow (grows_mut (.inl ⟨a, _, p, _, ho, rfl, ep3, .inl rfl⟩))))
        have pp := ((po.trans po2).trans po3).trans po4
        exact ⟨p, _, y, rfl, rfl, e4, by rw [← r4.length]; exact Nat.lt_of_lt_of_le hz (lim_line (Nat.le_refl _)), q σV _ as2 pp (hl.grow pp.grow pp.ext)⟩
    · cases hf
theorem ext_read {i : Nat} {e : E} (D : Ends) (σV : L2.St) (H : Hp) (h : tS K Φ G (.ext i e) D σV H) : tDrop (tBM K "list" (rExtX K) (tE K Φ G (.var i)) (tCons (tE K Φ G e) tNil)) D σV H := by
  obtain ⟨R, σ, st, as, hl, hw, h⟩ := h
  rw [ex] at h
  obtain ⟨a, ha, h⟩ := wp_ofO (wp_bind h)
  obtain ⟨e1, xs, e2⟩ := lstAt_of ha
  refine ⟨R, σ, st, as, hl, hw, ?_⟩
  rw [ev, e1]
  rintro x H1 as1 po ⟨p, qs, ep, rfl⟩
  have sl := po.wld.slot a _ p qs e2 ep
  cases sl with
  | @lst _ vs _ e3 r3 =>
    refine ⟨.inl ⟨rfl, vs, (LsX.sq (.inl (.inl e3)))⟩, ?_⟩
    refine rd_step (hl.grow po.grow po.ext) po.wld (wp_bind h) fun w st2 y H2 as2 p2 po2 l2 r2 => ?_
    obtain ⟨d, st3, p3, po3, r3'⟩ := val_of po2.wld r2 (wp_bind p2)
    obtain ⟨st4, hc, q⟩ := wp_ofO (wp_bind p3)
    obtain ⟨ob, ob', ho, hf, rfl⟩ := change_of hc e1
    have ep3 : as2[a]? = some (p, []) := by
      obtain ⟨m, em⟩ := po2.ext
      rw [em, List.getElem?_append_left (List.getElem?_eq_some_iff.mp ep).1]; exact ep
    have sl := po3.wld.slot a _ p [] ho ep3
    cases ob <;> cases d <;> simp only [extSlot] at hf <;> try (cases hf; done)
    split at hf
    · rename_i hz
      cases hf
      cases sl with
      | lst e4 r4 =>
        cases r3' with
        | lst h5 h6 =>
          have po4 := post_write (o := .lst _) po3.wld ho ep3 rfl (ob' := .lst _) rfl (.lst upd_same ((r4.app h6).grow (grows_mut (.inl ⟨a, _, p, _, ho, rfl, ep3, .inl rfl⟩))))
          have pp := ((po.trans po2).trans po3).trans po4
          exact ⟨p, _, _, _, rfl, rfl, e4, h5.sq, by rw [← r4.length, ← h6.length]; exact Nat.le_of_lt (Nat.lt_of_lt_of_le hz (lim_line (Nat.le_refl _))), q σV _ as2 pp (hl.grow pp.grow pp.ext)⟩
    · cases hf
theorem seti_read {i : Nat} {k v : E} (D : Ends) (σV : L2.St) (H : Hp) (h : tS K Φ G (.seti i k v) D σV H) : tAsg (tE K Φ G v) (gSub (tE K Φ G (.var i)) (tE K Φ G k) (rSetX K)) D σV H := by
  obtain ⟨R, σ, st, as, hl, hw, h⟩ := h
  rw [ex] at h
  obtain ⟨a, ha, h⟩ := wp_ofO (wp_bind h)
  have e1 := atVar_of ha
  refine rd_step hl hw (wp_bind h) fun w st1 y H1 as1 p1 po1 l1 r1 => ?_
  obtain ⟨d, st2, p2, po2, r2⟩ := val_of po1.wld r1 (wp_bind p1)
  refine ⟨R, σ, st2, as1, l1.grow po2.grow po2.ext, po2.wld, ?_⟩
  rw [ev, e1]
  rintro x H3 as3 po3 ⟨p, qs, ep, rfl⟩
  refine rd_step ((l1.grow po2.grow po2.ext).grow po3.grow po3.ext) po3.wld (wp_bind p2) fun w st4 z H4 as4 p4 po4 l4 r4 => ?_
  obtain ⟨e, st5, p5, po5, r5⟩ := val_of po4.wld r4 (wp_bind p4)
  obtain ⟨st6, hc, q⟩ := wp_ofO (wp_bind p5)
  obtain ⟨ob, ob', ho, hf, rfl⟩ := change_of hc e1
  have ep3 : as4[a]? = some (p, qs) := by
    obtain ⟨m, em⟩ := po4.ext
    rw [em, List.getElem?_append_left (List.getElem?_eq_some_iff.mp ep).1]; exact ep
  refine ⟨R, st5, as4, a, p, qs, ob, ob', e, d, po5.wld, ho, ep3, rfl, r5, r2.grow (po3.grow.trans (po4.grow.trans po5.grow)), hf, fun H' po6 => ?_⟩
  have pp := ((((po1.trans po2).trans po3).trans po4).trans po5).trans po6
  exact q σV _ as4 pp (hl.grow pp.grow pp.ext)
end
end TB
set_option maxRecDepth 100000
set_option maxHeartbeats 4000000
/-! TBStm3: a statement of mine stands for a statement of the machine's. -/
namespace TB
open PySem PySem.Spec PyProof.Rows L2
def notComp : Expr → Bool
  | .ListComp _ _ _ _ => false
  | .SetComp _ _ _ _ => false
  | .DictComp _ _ _ _ _ => false
  | _ => true
def notTup : Expr → Bool
  | .Tuple _ _ _ => false
  | _ => true
/-- a comprehension that is stored into a name -/
def compOk (sc : Scope) (x : Str) (p : Pos) (v : Expr) : Bool := match v with
  | .ListComp _ _ scope vp => !locB sc x || ((p.line == vp.line) && !(scope.names.any fun (n, k) => n == x && (k == .local || k == .cell)))
  | _ => false
/-- names that are stored from the right -/
def swB (sc : Scope) (ts vs : List Expr) : Option (Option (List Str)) :=
  if !(ts.length == 2 || ts.length == 3) || vs.length != ts.length then some none else
  if (vs.any fun | .Starred .. => true | _ => false) then some none else
  let line := (ts.head?.map (·.pos.line)).getD 0
  let names := ts.filterMap fun
    | .Name id pos => if sc.names.lookup id == some .local && pos.line == line then some id else none
    | _ => none
  if names.length != ts.length || names.eraseDups.length != names.length then some none else
  if vs.all (foldedForSure 8) then some none else
  if vs.all (constantsAlone 8) then none else some (some names)
theorem swB_of {env : Env} {ts vs : List Expr} {o : Option (List Str)} {k k2 : Nat} {p p2 : Pos} (hk : env.scope.kind = .function) (h : swB env.scope ts vs = some o) : swappedStores [.Tuple ts k p] (.Tuple vs k2 p2) env = pure o := by
  have hb : env.blockKind = .function := by unfold Env.blockKind; rw [hk]; rfl
  have hne : (env.blockKind != .function) = false := by rw [hb]; rfl
  unfold swB at h
  unfold swappedStores
  simp only [hne, Bool.or_false]
  split at h
  · rename_i e
    cases h
    exact (if_pos e).trans rfl
  · rename_i e
    refine (if_neg e).trans ?_
    split at h
    · rename_i e2
      cases h
      exact (if_pos e2).trans rfl
    · rename_i e2
      refine (if_neg e2).trans ?_
      dsimp only at h
      split at h
      · rename_i e3
        cases h
        exact (if_pos e3).trans rfl
      · rename_i e3
        refine (if_neg e3).trans ?_
        split at h
        · rename_i e4
          cases h
          exact (if_pos e4).trans rfl
        · rename_i e4
          refine (if_neg e4).trans ?_
          split at h
          · cases h
          · rename_i e5
            cases h
            exact (if_neg e5).trans rfl
section
variable (c : Cxt)
mutual
def matchS : S → Scope → Stmt → Bool
  | .asg i e m, sc, py => match py with
    | .Assign [.Name x p] v _ => nmIs c i x && lcB sc x && matchE c e sc v && (notComp v || compOk sc x p v) && (!m || freshE e || (match e with | .call _ _ => true | _ => false))
    | _ => false
  | .asgT is e, sc, py => match py with
    | .Assign [tg] v _ => matchT c sc (.tp is) tg && matchE c e sc v && notComp v && notTup v
    | _ => false
  | .asgP is es, sc, py => match py with
    | .Assign [.Tuple ts _ _] (.Tuple vs _ _) _ => matchNms c sc is ts && matchEs c es sc vs && decide (ts.length ≤ 1000) && decide (vs.length ≤ 1000) && (match swB sc ts vs with
      | some none => true
      | some (some nms) => (match is, ts, vs with
        | [i, j], [.Name x _, .Name y _], [_, _] => decide (nms = [x, y]) && decide (i ≠ j) && locB sc x && locB sc y
        | [i, j, k], [.Name x _, .Name y _, .Name z _], [_, _, _] => decide (nms = [x, y, z]) && decide (i ≠ j) && decide (i ≠ k) && decide (j ≠ k) && locB sc x && locB sc y && locB sc z
        | _, _, _ => false)
      | none => false)
    | _ => false
  | .ret e, sc, py => match py with
    | .Return (some v) _ => matchE c e sc v
    | _ => false
  | .retM i, sc, py => match py with
    | .Return (some v) _ => matchE c (.var i) sc v
    | _ => false
  | .retN e, sc, py => match py with
    | .Return (some v) _ => matchE c e sc v && freshE e
    | _ => false
  | .ife e a b, sc, py => match py with
    | .If t x y _ => matchE c e sc t && matchSs a sc x && matchSs b sc y
    | _ => false
  | .fori t it b, sc, py => match py with
    | .For tg iter body [] _ => matchI c it sc iter && notSetD iter && (!pairI it || isTp t) && matchT c sc t tg && matchSs b sc body
    | _ => false
  | .whil e b, sc, py => match py with
    | .While t body [] _ => matchE c e sc t && matchSs b sc body
    | _ => false
  | .expr e, sc, py => match py with
    | .Expr v _ => matchE c e sc v && notComp v
    | _ => false
  | .app i e, sc, py => match py with
    | .Expr (.Call (.Attribute (.Name x p) m ap) [v] [] cp) _ => matchE c (.var i) sc (.Name x p) && decide (m = ("append" : Str)) && matchE c e sc v && notStar v && (ap.endLine == cp.line)
    | _ => false
  | .ext i e, sc, py => match py with
    | .Expr (.Call (.Attribute (.Name x p) m ap) [v] [] cp) _ => matchE c (.var i) sc (.Name x p) && decide (m = ("extend" : Str)) && matchE c e sc v && notStar v && (ap.endLine == cp.line)
    | _ => false
  | .seti i k e, sc, py => match py with
    | .Assign [.Subscript (.Name x p) y _] v _ => matchE c (.var i) sc (.Name x p) && matchE c k sc y && notSlice y && matchE c e sc v && notComp v
    | _ => false
  | .rais _ _, _, py => match py with
    | .Raise _ _ _ => true
    | _ => false
  | .pass, _, py => match py with
    | .Pass _ => true
    | .Expr (.Constant (.str _) _ _) _ => true
    | _ => false
def matchSs : Ss → Scope → List Stmt → Bool
  | .nil, _, py => match py with
    | [] => true
    | _ => false
  | .cons s r, sc, py => match py with
    | x :: xs => matchS s sc x && matchSs r sc xs
    | _ => false
end
end
structure SOk (X : Cx) (c : Cxt) (Φ : Nat → List W → Sto → Res W) (G : List D) : Prop where
  x : XOk X c Φ G
  kind : X.env.scope.kind = .function
  fn : ∀ x, X.env.scope.names.lookup x = some .cell → X.fn x = true
  hp : PassesOwn (model X.prog X.w) X.A X.env X.xe
theorem sw_no {v : Expr} {t : Option Expr} {l : Nat} {env : Env} (h : notComp v = true) : swapsWith v t l env = pure false := by
  cases v <;> first | rfl | cases h
theorem sws_no {v t : Expr} {l : Nat} {env : Env} (h : notComp v = true) : swapsWithSole [t] v l env = pure false := sw_no h
theorem locB_of {sc : Scope} {x : Str} (h : locB sc x = true) : sc.names.lookup x = some .local := by
  unfold locB at h
  split at h
  · rename_i e; exact e
  · cases h
theorem sw_cell {elt : Expr} {gs : List Comprehension} {scope : Scope} {pos py : Pos} {y : Str} {l : Nat} {env : Env} (hy : locB env.scope y = false) : swapsWith (.ListComp elt gs scope pos) (some (.Name y py)) l env = pure false := by
  have ky : (env.kindOf y == some NameKind.local) = false := by
    unfold locB at hy
    unfold Env.kindOf
    split at hy
    · cases hy
    · rename_i h
      cases e : env.scope.names.lookup y with
      | none => rfl
      | some k => cases k <;> first | rfl | exact absurd e h
  unfold swapsWith
  simp only [ky, Bool.and_false, Bool.false_and]
theorem swp_no {tg v : Expr} {env : Env} (h : notTup v = true) : swappedStores [tg] v env = pure none := by
  cases v <;> first | (cases tg <;> rfl) | cases h
theorem PS.imp {X : Cx} {s : Stmt} {t t' : TS} (h : PS X s t) (m : ∀ D σ H, t' D σ H → t D σ H) : PS X s t' := ⟨fun pins s σ H D I q => h.run pins s σ H D I (m D σ H q)⟩
theorem PSs.imp {X : Cx} {s : List Stmt} {t t' : TS} (h : PSs X s t) (m : ∀ D σ H, t' D σ H → t D σ H) : PSs X s t' := ⟨fun pins s σ H D I q => h.run pins s σ H D I (m D σ H q)⟩
theorem tAsg_imp {t t' : TE} {g : TG} (m : ∀ σ H Q, t' σ H Q → t σ H Q) (D : Ends) (σV : L2.St) (H : Hp) (h : tAsg t' g D σV H) : tAsg t g D σV H := m _ _ _ h
section
variable {X : Cx} {c : Cxt} {Φ : Nat → List W → Sto → Res W} {G : List D}
/-- a new object's expression -/
theorem sndF (ok : XOk X c Φ G) {e : E} {py : Expr} (hf : freshE e = true) (h : matchE c e X.env.scope py = true) : PE X py (tEF X.K Φ G e) := by
  cases e with
  | lst es =>
    simp only [matchE] at h
    split at h
    · rename_i xs pos
      rw [Bool.and_eq_true, decide_eq_true_eq] at h
      exact PE.imp (pe_lst (sndA es X ok _ h.1).2) (lst_readF h.1 h.2)
    · cases h
  | dnew =>
    simp only [matchE] at h
    split at h
    · exact PE.imp pe_dnewK dnew_readF
    · cases h
  | rep es k =>
    simp only [matchE] at h
    split at h
    · simp only [Bool.and_eq_true, decide_eq_true_eq] at h
      exact PE.imp (pe_op op_rep (pe_lst (sndA es X ok _ h.1.1).2) (sndE k X ok _ h.2).1) (rep_readF h.1.1 h.1.2)
    · cases h
  | lc elt t it own d =>
    simp only [matchE] at h
    split at h
    · rename_i y tg iter ifs k scope pos
      simp only [Bool.and_eq_true, decide_eq_true_eq] at h
      obtain ⟨⟨⟨⟨⟨⟨⟨⟨⟨rfl, hi⟩, hf⟩, hp⟩, hb⟩, hm⟩, hm'⟩, ht⟩, hd⟩, he⟩ := h
      have hown : (ownP c own).map (·.2) = own := by
        unfold ownP
        rw [List.map_map]
        exact (List.map_congr_left fun _ _ => rfl).trans (List.map_id _)
      refine PE.imp (pe_lc (own := ownP c own) (wi := tI X.K Φ G it) (g := tG X.K t) (tt := TB.tIf X.K Φ G d) (te := tE X.K Φ G elt) ok.calm ok.nd (sndI it X ok _ hi tg (tp_of hp hm)) (blkOk_by (by rw [ok.N]; exact hb)) ?_ ?_ ?_ (folded_of hf)) fun σ H Q q => ?_
      · intro s H C cl fp
        exact pg_tg (ok.blk s H scope _ fp) (fun x hl hx => blk_fn (sc := X.env.scope) hl hx) hm hm'
      · intro s H C cl fp
        exact sndIf d _ (ok.blk s H scope _ fp) _ hd
      · intro s H C cl fp
        exact (sndE elt _ (ok.blk s H scope _ fp) _ he).1
      · rw [hown]
        exact lc_readF ht σ H Q q
    · cases h
  | _ => cases hf
/-- a comprehension stored into a local name -/
theorem ps_lc (ok : SOk X c Φ G) {elt : E} {t : Tg} {it : I} {own : List Nat} {d : Oe} {i : Nat} {x : Str} {p pos : Pos} {v : Expr} (hn : nmIs c i x = true) (hx : locB X.env.scope x = true) (hc : compOk X.env.scope x p v = true)
    (h : matchE c (.lc elt t it own d) X.env.scope v = true) : PS X (.Assign [.Name x p] v pos) (tAsg (tLc (tI X.K Φ G it) (tG X.K t) (TB.tIf X.K Φ G d) (tE X.K Φ G elt) own) (gName i)) ∧ tgB t own = true := by
  simp only [matchE] at h
  split at h
  · rename_i y tg iter ifs k scope vp
    simp only [Bool.and_eq_true, decide_eq_true_eq] at h
    obtain ⟨⟨⟨⟨⟨⟨⟨⟨⟨rfl, hi⟩, hf⟩, hp⟩, hb⟩, hm⟩, hm'⟩, ht⟩, hd⟩, he⟩ := h
    have hown : (ownP c own).map (·.2) = own := by
      unfold ownP
      rw [List.map_map]
      exact (List.map_congr_left fun _ _ => rfl).trans (List.map_id _)
    have hl : X.env.scope.names.lookup x = some .local := by
      unfold locB at hx
      split at hx
      · rename_i e; exact e
      · cases hx
    simp only [compOk, hx, Bool.not_true, Bool.false_or, Bool.and_eq_true, Bool.not_eq_true'] at hc
    simp only [nmIs, decide_eq_true_eq] at hn
    refine ⟨?_, ht⟩
    have := ps_setLc (i := i) (y := x) (py := p) (spos := pos) (own := ownP c own) (wi := tI X.K Φ G it) (g := tG X.K t) (tt := TB.tIf X.K Φ G d) (te := tE X.K Φ G elt) (pos := vp) (elt := y) (tg := tg) (iter := iter) (ifs := ifs) (scope := scope)
      ok.x.calm ok.x.nd (by rw [ok.x.N]; exact hn) hl (sw_true ok.kind hl hc.1 hc.2) (sndI it X ok.x _ hi tg (tp_of hp hm)) (blkOk_by (by rw [ok.x.N]; exact hb))
      (fun s H C cl fp => pg_tg (ok.x.blk s H scope _ fp) (fun x hl hx => blk_fn (sc := X.env.scope) hl hx) hm hm') (fun s H C cl fp => sndIf d _ (ok.x.blk s H scope _ fp) _ hd) (fun s H C cl fp => (sndE elt _ (ok.x.blk s H scope _ fp) _ he).1) (folded_of hf)
    rw [hown] at this
    exact this
  · cases h
theorem lc_comp {elt : E} {t : Tg} {it : I} {own : List Nat} {d : Oe} {e : E} {sc : Scope} {v : Expr} (h : matchE c e sc v = true) (hv : notComp v = false) : (∃ elt t it own d, e = .lc elt t it own d) ∧ ∃ y gs scope p, v = .ListComp y gs scope p := by
  cases v <;> first | cases hv | skip
  · cases e <;> simp only [matchE] at h <;> first | (cases h; done) | exact ⟨⟨_, _, _, _, _, rfl⟩, _, _, _, _, rfl⟩
  · cases e <;> simp only [matchE] at h <;> (cases h; done)
  · cases e <;> simp only [matchE] at h <;> (cases h; done)
/-- any value into a name -/
theorem ps_any (ok : SOk X c Φ G) {e : E} {te : TE} {i : Nat} {x : Str} {p pos : Pos} {v : Expr} (hn : nmIs c i x = true) (hx : lcB X.env.scope x = true) (he : PE X v te) (hs : swapsWith v (some (.Name x p)) pos.line X.env = pure false) : PS X (.Assign [.Name x p] v pos) (tAsg te (gName i)) := by
  simp only [nmIs, decide_eq_true_eq] at hn
  have hl := loc_of hx
  refine ps_set ok.x.nd (by rw [ok.x.N]; exact hn) hl he hs ?_
  rcases hl with e | e
  · exact .inr e
  · exact .inl (ok.fn x e)
mutual
theorem sndS : ∀ (s : S), SOk X c Φ G → ∀ (py : Stmt), matchS c s X.env.scope py = true → PS X py (tS X.K Φ G s)
  | .asg i e m, ok, py, h => by
    simp only [matchS] at h
    split at h
    · rename_i x p v pos
      simp only [Bool.and_eq_true] at h
      obtain ⟨⟨⟨⟨hn, hx⟩, he⟩, hv⟩, hm⟩ := h
      have hE := (sndE e X ok.x _ he).1
      have main : ∀ te, PE X v te → (∀ D σ H, tS X.K Φ G (.asg i e m) D σ H → tAsg te (gName i) D σ H) → (∀ elt t it own d, e = .lc elt t it own d → tgB t own = true → ∀ D σ H, tS X.K Φ G (.asg i e m) D σ H → tAsg (tLc (tI X.K Φ G it) (tG X.K t) (TB.tIf X.K Φ G d) (tE X.K Φ G elt) own) (gName i) D σ H) → PS X (.Assign [.Name x p] v pos) (tS X.K Φ G (.asg i e m)) := by
        intro te hE r1 r2
        cases hc : notComp v with
        | true => exact PS.imp (ps_any (e := e) ok hn hx hE (sw_no hc)) r1
        | false =>
          rw [hc, Bool.false_or] at hv
          cases hloc : locB X.env.scope x with
          | true =>
            obtain ⟨⟨elt, t, it, own, d, rfl⟩, _⟩ := lc_comp (elt := e) (t := .nm 0) (it := .e e) (own := []) (d := .no) he hc
            obtain ⟨h1, h2⟩ := ps_lc (pos := pos) ok hn hloc hv he
            exact PS.imp h1 (r2 _ _ _ _ _ rfl h2)
          | false =>
            obtain ⟨_, y, gs, scope, vp, rfl⟩ := lc_comp (elt := e) (t := .nm 0) (it := .e e) (own := []) (d := .no) he hc
            exact PS.imp (ps_any (e := e) ok hn hx hE (sw_cell hloc)) r1
      cases m with
      | false =>
        refine main _ hE asg_read fun elt t it own d e1 ht D σ H q => ?_
        subst e1
        exact tAsg_imp (lc_read ht) D σ H (asg_read D σ H q)
      | true =>
        cases hf : freshE e with
        | true =>
          refine main _ (sndF ok.x hf he) asgM_read fun elt t it own d e1 ht D σ H q => ?_
          subst e1
          exact tAsg_imp (lc_readF ht) D σ H (asgM_read D σ H q)
        | false =>
          rw [hf] at hm
          cases e <;> simp only [Bool.not_true, Bool.false_or] at hm <;> try (cases hm; done)
          refine main _ hE (fun D σ H q => call_ref σ H D q) fun elt t it own d e1 ht D σ H q => by cases e1
    · cases h
  | .asgT is e, ok, py, h => by
    simp only [matchS] at h
    split at h
    · rename_i tg v pos
      simp only [Bool.and_eq_true] at h
      obtain ⟨⟨⟨ht, he⟩, hc⟩, hv⟩ := h
      refine PS.imp (ps_asg (sndE e X ok.x _ he).1 (pg_tg (sc' := X.env.scope) ok.x (fun x _ hx => ok.fn x hx) ht ht) (sw_no hc) (swp_no hv) ?_) asgT_read
      cases tg <;> first | rfl | (simp only [matchT] at ht; cases ht)
    · cases h
  | .asgP is es, ok, py, h => by
    simp only [matchS] at h
    split at h
    · rename_i ts k p vs k2 p2 pos
      simp only [Bool.and_eq_true, decide_eq_true_eq] at h
      obtain ⟨⟨⟨⟨ht, he⟩, hl⟩, hl2⟩, h⟩ := h
      have hA := (sndA es X ok.x _ he).2
      split at h
      · rename_i hs
        have hT : matchT c X.env.scope (.tp is) (.Tuple ts k p) = true := by
          simp only [matchT, Bool.and_eq_true, decide_eq_true_eq]
          refine ⟨ht, ?_⟩
          have := (nms_each (env := X.env) ht).1
          rw [← this]
          have hlen : ∀ es : List Expr, (assignEach es X.env).length = es.length := by
            intro es
            induction es with
            | nil => rfl
            | cons e es ih => cases e <;> simp only [assignEach, List.length_cons, ih]
          rw [hlen]; exact hl
        exact PS.imp (ps_asg (pe_tup hA) (pg_tg (sc' := X.env.scope) ok.x (fun x _ hx => ok.fn x hx) hT hT) (sws_no rfl) (swB_of ok.kind hs) rfl) (asgP_read he hl2)
      · rename_i nms hs
        split at h
        · rename_i i j x px y py' e1 e2
          simp only [Bool.and_eq_true, decide_eq_true_eq] at h
          obtain ⟨⟨⟨rfl, hij⟩, hx⟩, hy⟩ := h
          simp only [matchNms, matchNm, nmIs, Bool.and_eq_true, decide_eq_true_eq] at ht
          have hw := swB_of (k := k) (p := p) (k2 := k2) (p2 := p2) ok.kind hs
          exact PS.imp (ps_par ok.x.calm ok.x.nd (by rw [ok.x.N]; exact ht.1.1.1) (by rw [ok.x.N]; exact ht.2.1.1.1) hij (locB_of hx) (locB_of hy) hA hw (sws_no rfl)) (par_read hij)
        · rename_i i j l x px y py' z pz e1 e2 e3
          simp only [Bool.and_eq_true, decide_eq_true_eq] at h
          obtain ⟨⟨⟨⟨⟨⟨rfl, hij⟩, hil⟩, hjl⟩, hx⟩, hy⟩, hz⟩ := h
          simp only [matchNms, matchNm, nmIs, Bool.and_eq_true, decide_eq_true_eq] at ht
          have hw := swB_of (k := k) (p := p) (k2 := k2) (p2 := p2) ok.kind hs
          exact PS.imp (ps_par3 ok.x.calm ok.x.nd (by rw [ok.x.N]; exact ht.1.1.1) (by rw [ok.x.N]; exact ht.2.1.1.1) (by rw [ok.x.N]; exact ht.2.2.1.1.1) hij hil hjl (locB_of hx) (locB_of hy) (locB_of hz) hA hw (sws_no rfl)) par3_read
        · cases h
      · cases h
    · cases h
  | .ret e, ok, py, h => by
    simp only [matchS] at h
    split at h
    · exact PS.imp (ps_ret (sndE e X ok.x _ h).1) ret_read
    · cases h
  | .retM i, ok, py, h => by
    simp only [matchS] at h
    split at h
    · exact PS.imp (ps_ret (sndE (.var i) X ok.x _ h).1) retM_read
    · cases h
  | .retN e, ok, py, h => by
    simp only [matchS] at h
    split at h
    · rw [Bool.and_eq_true] at h
      exact PS.imp (ps_ret (sndF ok.x h.2 h.1)) retN_read
    · cases h
  | .ife e a b, ok, py, h => by
    simp only [matchS] at h
    split at h
    · simp only [Bool.and_eq_true] at h
      exact PS.imp (ps_if (sndE e X ok.x _ h.1.1).2 (sndSs a ok _ h.1.2) (sndSs b ok _ h.2)) if_read
    · cases h
  | .fori t it b, ok, py, h => by
    simp only [matchS] at h
    split at h
    · simp only [Bool.and_eq_true] at h
      obtain ⟨⟨⟨⟨hi, hf⟩, hp⟩, hm⟩, hb⟩ := h
      exact PS.imp (ps_for ok.hp ok.x.calm (sndI it X ok.x _ hi _ (tp_of hp hm)) (pg_tg (sc' := X.env.scope) ok.x (fun x _ hx => ok.fn x hx) hm hm) (sndSs b ok _ hb) (folded_of hf)) for_read
    · cases h
  | .whil e b, ok, py, h => by
    simp only [matchS] at h
    split at h
    · simp only [Bool.and_eq_true] at h
      exact PS.imp (ps_while ok.hp (sndE e X ok.x _ h.1).2 (sndSs b ok _ h.2)) while_read
    · cases h
  | .expr e, ok, py, h => by
    simp only [matchS] at h
    split at h
    · simp only [Bool.and_eq_true] at h
      exact PS.imp (ps_expr (sndE e X ok.x _ h.1).1 (sw_no h.2)) expr_read
    · cases h
  | .app i e, ok, py, h => by
    simp only [matchS] at h
    split at h
    · rename_i x p m ap v cp pos
      simp only [Bool.and_eq_true, decide_eq_true_eq] at h
      obtain ⟨⟨⟨⟨ho, rfl⟩, he⟩, hs⟩, hl⟩ := h
      exact PS.imp (ps_expr (pe_bm PySem.F.plainAttrs_list PySem.F.slot_list_append PySem.F.type_list_append mt_append (sndE (.var i) X ok.x _ ho).1 (pa_cons (sndE e X ok.x _ he).1 pa_nil (star_cons hs)) rfl (by rw [star_cons hs]; rfl) hl (star_cons hs))) app_read
    · cases h
  | .ext i e, ok, py, h => by
    simp only [matchS] at h
    split at h
    · rename_i x p m ap v cp pos
      simp only [Bool.and_eq_true, decide_eq_true_eq] at h
      obtain ⟨⟨⟨⟨ho, rfl⟩, he⟩, hs⟩, hl⟩ := h
      exact PS.imp (ps_expr (pe_bm PySem.F.plainAttrs_list PySem.F.slot_list_extend PySem.F.type_list_extend mt_extX (sndE (.var i) X ok.x _ ho).1 (pa_cons (sndE e X ok.x _ he).1 pa_nil (star_cons hs)) rfl (by rw [star_cons hs]; rfl) hl (star_cons hs))) ext_read
    · cases h
  | .seti i k e, ok, py, h => by
    simp only [matchS] at h
    split at h
    · rename_i x p y sp v pos
      simp only [Bool.and_eq_true] at h
      obtain ⟨⟨⟨⟨ho, hk⟩, hsl⟩, he⟩, hc⟩ := h
      refine PS.imp (ps_asg (sndE e X ok.x _ he).1 (pg_sub (sndE (.var i) X ok.x _ ho).1 (sndE k X ok.x _ hk).1 (set_X (Nat.lt_of_le_of_lt (by omega) ok.x.hu)) ?_) (sws_no hc) ?_ rfl) seti_read
      · intro v
        cases y <;> first | rfl | cases hsl
      · cases v <;> rfl
    · cases h
  | .rais n es, ok, py, h => PS.imp ps_never rais_read
  | .pass, ok, py, h => by
    simp only [matchS] at h
    split at h
    · exact PS.imp ps_pass pass_read
    · exact PS.imp ps_doc pass_read
    · cases h
theorem sndSs : ∀ (r : Ss), SOk X c Φ G → ∀ (py : List Stmt), matchSs c r X.env.scope py = true → PSs X py (tSs X.K Φ G r)
  | .nil, ok, py, h => by
    simp only [matchSs] at h
    split at h
    · exact PSs.imp pss_nil nil_read
    · cases h
  | .cons s r, ok, py, h => by
    simp only [matchSs] at h
    split at h
    · rw [Bool.and_eq_true] at h
      exact PSs.imp (pss_cons (sndS s ok _ h.1) (sndSs r ok _ h.2)) cons_read
    · cases h
end
end
end TB
set_option maxRecDepth 100000
/-! TBFn: the functions of a text. -/
namespace TB
open PySem PySem.Spec PyProof.Rows L2
section
variable {K : PySem.W.Frag} {R : Addr → Prop} {st : Sto} {as : As} {H : Hp}
/-- some of the objects -/
theorem Wld.sub (w : Wld K H R st as) {st2 : Sto} {as2 : As} (hl : st2.length = as2.length) (f : Nat → Nat) (inj : ∀ i j, i < st2.length → j < st2.length → f i = f j → i = j) (hs : ∀ i ob, st2[i]? = some ob → st[f i]? = some ob) (ha : ∀ i x, as2[i]? = some x → as[f i]? = some x) :
    Wld K H R st2 as2 ∧ ∀ p, Zof st2 as2 R p → Zof st as R p := by
  have hm : ∀ p, Mof st2 as2 p → Mof st as p := fun p ⟨i, ob, a, qs, e1, e2, e3, e4⟩ => ⟨f i, ob, a, qs, hs i ob e1, e2, ha i _ e3, e4⟩
  have hz : ∀ p, Zof st2 as2 R p → Zof st as R p := fun p z => z.imp (hm p) id
  refine ⟨⟨hl, fun i ob a qs e1 e2 => (w.slot (f i) ob a qs (hs i ob e1) (ha i _ e2)).grow (grows_less hz) fun _ _ _ _ e => e, fun i j ob ob' a qs a' qs' p e1 e2 l1 l2 f1 f2 p1 p2 => ?_, fun p hp => ⟨(w.res p hp).1, fun z => (w.res p hp).2 (hm p z)⟩⟩, hz⟩
  exact inj i j (List.getElem?_eq_some_iff.mp e1).1 (List.getElem?_eq_some_iff.mp e2).1 (w.inj (f i) (f j) ob ob' a qs a' qs' p (hs i ob e1) (hs j ob' e2) l1 l2 (ha i _ f1) (ha j _ f2) p1 p2)
end
section
variable {K : PySem.W.Frag} {R : Addr → Prop} {st : Sto} {as : As} {H : Hp}
/-- the callee's objects are let go -/
theorem Post.cut (hw : Wld K H R st as) {st' : Sto} {H' : Hp} {as' : As} (po : Post K R H st as st' H' as') (hlen : st.length ≤ st'.length) :
    Post K R H st as (st'.take st.length) H' (as'.take st.length) ∧ ∀ p, Zof (st'.take st.length) (as'.take st.length) R p → Zof st' as' R p := by
  have e1 := po.wld.len
  obtain ⟨w, z⟩ := po.wld.sub (st2 := st'.take st.length) (as2 := as'.take st.length) (by rw [List.length_take, List.length_take, e1]) id (fun _ _ _ _ e => e)
    (fun i ob e => by
      have hi := (List.getElem?_eq_some_iff.mp e).1
      rw [List.length_take] at hi
      rw [List.getElem?_take_of_lt (by omega)] at e
      exact e)
    (fun i x e => by
      have hi := (List.getElem?_eq_some_iff.mp e).1
      rw [List.length_take] at hi
      rw [List.getElem?_take_of_lt (by omega)] at e
      exact e)
  refine ⟨⟨w, po.grow.trans (grows_less z), ⟨[], ?_⟩, po.res⟩, z⟩
  obtain ⟨m, em⟩ := po.ext
  rw [em, List.append_nil, hw.len, List.take_left]
theorem Post.cutKeep (hw : Wld K H R st as) {st' : Sto} {H' : Hp} {as' : As} (po : Post K R H st as st' H' as') (hlen : st.length ≤ st'.length) {a : Nat} {ob : Ob} {x : Addr × List Addr} (ha : st.length ≤ a) (e1 : st'[a]? = some ob) (e2 : as'[a]? = some x) :
    Post K R H st as (st'.take st.length ++ [ob]) H' (as'.take st.length ++ [x]) := by
  have e0 := po.wld.len
  have l1 : (st'.take st.length).length = st.length := by rw [List.length_take]; omega
  have l2 : (as'.take st.length).length = st.length := by rw [List.length_take, ← e0]; omega
  obtain ⟨w, z⟩ := po.wld.sub (st2 := st'.take st.length ++ [ob]) (as2 := as'.take st.length ++ [x]) (by simp [l1, l2]) (fun i => if i < st.length then i else a)
    (fun i j hi hj e => by
      rw [List.length_append, l1, List.length_singleton] at hi hj
      split at e <;> split at e <;> omega)
    (fun i ob' e => by
      by_cases hi : i < st.length
      · rw [if_pos hi]
        rw [List.getElem?_append_left (by omega), List.getElem?_take_of_lt hi] at e
        exact e
      · rw [if_neg hi]
        rw [List.getElem?_append_right (by omega), l1] at e
        have h0 : i - st.length = 0 := by
          rcases Nat.eq_zero_or_pos (i - st.length) with z | z
          · exact z
          · rw [List.getElem?_eq_none (Nat.succ_le_of_lt z)] at e; cases e
        rw [h0] at e
        cases e
        exact e1)
    (fun i y e => by
      by_cases hi : i < st.length
      · rw [if_pos hi]
        rw [List.getElem?_append_left (by omega), List.getElem?_take_of_lt hi] at e
        exact e
      · rw [if_neg hi]
        rw [List.getElem?_append_right (by omega), l2] at e
        have h0 : i - st.length = 0 := by
          rcases Nat.eq_zero_or_pos (i - st.length) with z | z
          · exact z
          · rw [List.getElem?_eq_none (Nat.succ_le_of_lt z)] at e; cases e
        rw [h0] at e
        cases e
        exact e2)
  refine ⟨w, po.grow.trans (grows_less z), ⟨[x], ?_⟩, po.res⟩
  obtain ⟨m, em⟩ := po.ext
  rw [em, hw.len, List.take_left]
theorem RelWs.length {as : As} {Z : Addr → Prop} : ∀ {ws : List W} {vs : List V}, RelWs K H Z as ws vs → ws.length = vs.length
  | [], [], _ => rfl
  | _ :: ws, _ :: vs, h => by rw [List.length_cons, List.length_cons, RelWs.length h.2]
  | [], _ :: _, h => h.elim
  | _ :: _, [], h => h.elim
theorem RelWs.get {as : As} {Z : Addr → Prop} : ∀ {ws : List W} {vs : List V} {i : Nat} {w : W}, RelWs K H Z as ws vs → ws[i]? = some w → ∃ v, vs[i]? = some v ∧ RelW K H Z as w v
  | w :: ws, v :: vs, 0, _, h, e => by cases e; exact ⟨v, rfl, h.1⟩
  | w :: ws, v :: vs, i + 1, _, h, e => by
    rw [List.getElem?_cons_succ] at e ⊢
    exact RelWs.get h.2 e
  | [], [], _, _, _, e => by simp at e
  | [], _ :: _, _, _, h, _ => h.elim
  | _ :: _, [], _, _, h, _ => h.elim
theorem start_loc {as : As} {Z : Addr → Prop} {ws : List W} {vs : List V} (h : RelWs K H Z as ws vs) (N : List Str) : Loc K H Z as (startE N.length ws) (L2.start N vs) := by
  have hl := h.length
  refine ⟨by simp [startE, L2.start, hl], fun i w e => ?_⟩
  unfold startE at e
  by_cases hi : i < ws.length
  · rw [List.getElem?_append_left (by simpa using hi), List.getElem?_map] at e
    cases e2 : ws[i]? with
    | none => rw [e2] at e; cases e
    | some x =>
      rw [e2] at e
      cases e
      obtain ⟨v, h1, h2⟩ := h.get e2
      refine ⟨v, ?_, h2⟩
      unfold L2.start
      rw [List.getElem?_append_left (by rw [List.length_map, ← hl]; exact hi), List.getElem?_map, h1]
      rfl
  · rw [List.getElem?_append_right (by simpa using hi), List.getElem?_replicate] at e
    split at e <;> cases e
/-- the body's end is the call's -/
theorem body_end {Q : VK} {fl : Fl} {st' : Sto} (hw : Wld K H R st as) (h : (finish st.length fl st').wp fun w st'' => ∀ v H' as', Post K R H st as st'' H' as' → RelW K H' (Zof st'' as' R) as' w v → Q v H') :
    Fin K R H st as { nx := fun _ H' => Q .non H', rt := Q } fl st' := by
  have hlen : ∀ {H' : Hp} {as' : As}, Post K R H st as st' H' as' → st.length ≤ st'.length := fun {H' as'} po => by
    obtain ⟨m, em⟩ := po.ext
    have := po.wld.len
    rw [em, List.length_append, ← hw.len] at this
    omega
  cases fl with
  | nx σ' =>
    intro σV' H' as' po l
    exact h .non H' _ (po.cut hw (hlen po)).1 .non
  | rt w =>
    intro v H' as' po r
    cases w with
    | d x =>
      obtain ⟨p2, z⟩ := po.cut hw (hlen po)
      exact h v H' _ p2 (Rel.grow (grows_less z) r)
    | r a =>
      obtain ⟨b, qs, e, rfl⟩ := r
      simp only [finish] at h
      split at h
      · rename_i ha
        obtain ⟨p2, z⟩ := po.cut hw (hlen po)
        exact h _ H' _ p2 ⟨b, qs, by rw [List.getElem?_take_of_lt ha]; exact e, rfl⟩
      · rename_i ha
        split at h
        · rename_i ob eo
          have p2 := po.cutKeep hw (hlen po) (by omega) eo e
          refine h _ H' _ p2 ⟨b, qs, ?_, rfl⟩
          have l2 : (as'.take st.length).length = st.length := by
            have := po.wld.len
            have := hlen po
            rw [List.length_take]; omega
          rw [List.getElem?_append_right (by omega), l2]
          simp
        · exact h.elim
end
/-- a function of the text, and mine -/
structure FnT (K : PySem.W.Frag) (mg : Str → Option Value) (names gl : List Str) (fn : Fn) (x : Str) : Prop where
  ex : ∃ (params : Arguments) (body : List Stmt) (scope : Scope) (N ps : List Str) (f : Addr) (fd : FuncData), FunD K x x params body scope [] [] f fd ∧ mg x = some (.ref f) ∧ (∀ (s : Shared) (us : List Value), us.length = ps.length → BindsTo s fd ⟨us, []⟩ (ps.zip us)) ∧ FnScope N ps scope ∧ fn.np = ps.length ∧ fn.nn = N.length ∧ matchSs ⟨N, names, gl⟩ fn.body scope body = true
structure Tab (K : PySem.W.Frag) (mg : Str → Option Value) (fs : List Fn) (G : List D) (names gl : List Str) : Prop where
  fns : ∀ (i : Nat) x, names[i]? = some x → ∃ fn, fs[i]? = some fn ∧ FnT K mg names gl fn x
  blt : ∀ x ∈ bNames, mg x = none
  glob : ∀ (i : Nat) x, gl[i]? = some x → ∃ u, mg x = some u ∧ GlobOk G[i]? u
section
variable {P : Program} {w : World} {K : PySem.W.Frag} {mg : Str → Option Value} {fs : List Fn} {G : List D} {names gl : List Str}
def spN (K : PySem.W.Frag) (F : List W → Sto → Res W) : Sp := fun vs H Q _ => spF K F vs H Q
theorem fn_zero {f : Addr} {fd : FuncData} {ps : List Str} {base : Heap} {i : Nat} : FnOk P w K mg base CX0 0 f fd ps (spN K (callF fs G 0 i)) := by
  have no : ∀ {vs H Q E}, spN K (callF fs G 0 i) vs H Q E → False := fun {vs H Q E} ⟨R, ws, st, as, _, _, h⟩ => by
    rw [callF] at h; exact h
  exact ⟨fun vs H Q E h => (no h).elim, fun A outer s H args us vs Q E _ _ _ _ h => (no h).elim⟩
theorem all_fns (T : Tab K mg fs G names gl) : ∀ n : Nat, ∀ (i : Nat) x, names[i]? = some x → ∀ {params : Arguments} {body : List Stmt} {scope : Scope} {N ps : List Str} {f : Addr} {fd : FuncData} {fn : Fn}, fs[i]? = some fn → FunD K x x params body scope [] [] f fd → mg x = some (.ref f) → FnScope N ps scope → fn.np = ps.length → fn.nn = N.length → matchSs ⟨N, names, gl⟩ fn.body scope body = true →
    ∀ base : Heap, FnOk P w K mg base CX0 n f fd ps (spN K (callF fs G n i)) := by
  intro n
  induction n with
  | zero => intros; exact fn_zero
  | succ n ih =>
    intro i x hx params body scope N ps f fd fn hfn F hm S np nn mt base
    have un : ∀ {vs H Q E}, spN K (callF fs G (n + 1) i) vs H Q E → vs.length = ps.length ∧ ∃ R ws st as, RelWs K H (Zof st as R) as ws vs ∧ Wld K H R st as ∧ ((exs (callF fs G n) G fn.body (startE fn.nn ws) st).bind (finish st.length)).wp fun w st' => ∀ v H' as', Post K R H st as st' H' as' → RelW K H' (Zof st' as' R) as' w v → Q v H' := by
      rintro vs H Q E ⟨R, ws, st, as, r, hw, h⟩
      rw [callF, hfn] at h
      simp only at h
      split at h
      · rename_i hl
        exact ⟨by rw [← r.length, hl, np], R, ws, st, as, r, hw, h⟩
      · exact h.elim
    refine F.ok S (fun vs H Q E h => (un h).1) fun cdv A outer s H vs Q E hr h => ⟨tSs K (callF fs G n) G fn.body, ?_, ?_⟩
    · refine sndSs fn.body (c := ⟨N, names, gl⟩) ⟨⟨rfl, rfl, S.nd, ?_, T.blt, T.glob, fun j y hy => ?_⟩, S.kind, fun _ _ => rfl, passes_of rfl⟩ body mt
      · have := hr.un
        show (A.deeper _).units + 200 < cLine
        omega
      · obtain ⟨fn', hfn', FT⟩ := T.fns j y hy
        obtain ⟨params', body', scope', N', ps', f', fd', F', hm', hb', S', np', nn', mt'⟩ := FT.ex
        refine ⟨f', hm', F'.kp, fun outer' s' H' us' vs' Q' e0 hv hsp => ?_⟩
        have FO := ih j y hy hfn' F' hm' S' np' nn' mt' base
        have hl : us'.length = ps'.length := by rw [← hv.length]; exact FO.len vs' H' Q' E0 hsp
        exact FO.run _ outer' s' H' ⟨us', []⟩ us' vs' Q' E0 hr e0 (hb' s' us' hl) hv hsp
    · obtain ⟨_, R, ws, st, as, r, hw, h⟩ := un h
      have hloc := start_loc r N
      rw [← nn] at hloc
      exact ⟨R, _, st, as, hloc, hw, wp_mono (wp_bind h) fun fl st' q => body_end hw q⟩
end
end TB
set_option maxRecDepth 100000
/-! TBEnd: a law from what the evaluator says. -/
namespace TB
open PySem PySem.Spec PyProof.Rows L2
/-- what the evaluator has to say of a law -/
def Says (fs : List Fn) (G : List D) (k i n : Nat) : Prop := ∀ ns : List Int, ns.length ≤ n → ∃ st, callF fs G k i [.d (.list (ns.map .int))] [] = .ok (.d (.bool true)) st
theorem walk_mine {l : PySem.W.OpenLaw} {n k : Nat} {q : Program} {loose : List Str} {XP : (Str → Option Value) → Heap → Prop} {YP : World → Heap → Prop} {d : DefRec}
    (hn : l.most = some n) (hn2 : n ≤ sizeLine) (hdf : d.params.defaults = []) (hr : Room k callerA)
    (F : ∀ (w : World) (mg : Str → Option Value) (h : Heap), YP w h → h.Ns mainGlobals mg → ∃ (K : PySem.W.Frag) (fs : List Fn) (G : List D) (names gl : List Str) (i : Nat), K.In h ∧ Tab K mg fs G names gl ∧ names[i]? = some d.name ∧ Says fs G k i n) :
    PySem.W.WalkO q loose XP YP l.row.toRowW d [] (fun f vs => PySem.call f vs) := by
  refine Att.attach_call hn hdf fun w s₀ s₁ mg mb fa o pm cd doc a vs ns Gd Y ho hd hcd hmg hobj hints hlen hg => ?_
  obtain ⟨K, fs, G, names, gl, i, KX, T, hx, says⟩ := F w mg _ Y Gd.T.g
  obtain ⟨fn, hfn, FT⟩ := T.fns i _ hx
  obtain ⟨params, body, scope, N, ps, f, fd, FD, hm, hb, S, np, nn, mt⟩ := FT.ex
  have ef : fa = f := by
    have e := hmg.symm.trans hm
    cases e
    rfl
  subst ef
  have one : ps.length = 1 := by
    obtain ⟨st, e⟩ := says [] (Nat.zero_le _)
    cases k with
    | zero => rw [callF] at e; cases e
    | succ k =>
      rw [callF, hfn] at e
      simp only at e
      split at e
      · rename_i hl
        rw [← np, ← hl]
        rfl
      · cases e
  match ps, one with
  | [x], _ =>
    refine law_call (sp := spN K (callF fs G k i)) KX Gd.T.g Gd.T.b Gd.T.builtins Gd.T.nolimit hg hobj hints (Nat.le_trans hlen hn2) hr (fun base hK hG => all_fns T k i _ hx hfn FD hm S np nn mt base) (fun s u => hb s [u] rfl) (fun H hO hS => ?_) fun H e s' z => z
    obtain ⟨st, e⟩ := says ns hlen
    have hL : StL K H (Zof [] [] fun _ => False) a (ns.map V.int) := by
      rcases hS with h | ⟨o2, its, m, h1, h2, h3, h4, h5, h6⟩
      · refine .inl ⟨h, fun z => ?_⟩
        rcases z with ⟨j, _, _, _, z, _⟩ | z
        · simp at z
        · exact z
      · have e2 := KX a _ h1
        rw [hobj] at e2
        cases e2
        cases h4
        exact .inr ⟨_, _, h1, h5, h6⟩
    refine ⟨fun _ => False, [.d (.list (ns.map .int))], [], [], ⟨.lst hL (RelAll.ofInts ns), True.intro⟩, ⟨rfl, fun j ob b qs z => by simp at z, fun j j' ob ob' b qs b' qs' p z => by simp at z, fun p z => z.elim⟩, ?_⟩
    rw [e]
    exact fun v H' as' po r => relW_bool r
/-! ### the text's facts -/
def psOf (d : He.DefD) : List Str := d.params.args.map (·.arg)
def mkD : Stmt → He.DefD
  | .FunctionDef n a b _ _ _ sc _ _ _ => ⟨(n, none), n, n, a, b, sc, [], []⟩
  | _ => ⟨("", none), "", "", ⟨[], [], none, [], [], none, []⟩, [], ⟨.function, [], false, false, []⟩, [], []⟩
theorem mkD_at (s : Stmt) : (mkD s).at_ = ((mkD s).name, none) ∧ (mkD s).qual = (mkD s).name ∧ (mkD s).dfl = [] ∧ (mkD s).kwd = [] := by
  cases s <;> exact ⟨rfl, rfl, rfl, rfl⟩
def faOf (names : List Str) (gi : List (Str × Int)) : List He.Fa := bNames.map .free ++ (names.map .glo ++ gi.map fun p => .int p.1 p.2)
def chkB (names gl : List Str) : List He.DefD → List Fn → List (List Str) → Bool
  | [], [], [] => true
  | d :: ds, fn :: fs, N :: Ns => C8.scC N (psOf d) d.scope && decide (fn.np = (psOf d).length) && decide (fn.nn = N.length) && matchSs ⟨N, names, gl⟩ fn.body d.scope d.body && chkB names gl ds fs Ns
  | _, _, _ => false
def BindD (d : He.DefD) : Prop := ∀ (kV doc pm : Value) (an : Option Addr) (cdv ct : Value) (us : List Value), us.length = (psOf d).length → bindArgs (PySem.W.fnOf d.name d.qual d.params d.body d.scope .none kV doc pm an cdv ct) ⟨us, []⟩ = pure ((psOf d).zip us)
def BindAll : List He.DefD → Prop
  | [] => True
  | d :: ds => BindD d ∧ BindAll ds
theorem BindAll.get : ∀ {ds : List He.DefD} {i : Nat} {d : He.DefD}, BindAll ds → ds[i]? = some d → BindD d
  | _ :: _, 0, _, h, e => by cases e; exact h.1
  | _ :: ds, i + 1, d, h, e => BindAll.get h.2 (by simpa using e)
  | [], i, d, _, e => by simp at e
theorem chkB_get {names gl : List Str} : ∀ {ds : List He.DefD} {fs : List Fn} {Ns : List (List Str)} {i : Nat} {d : He.DefD}, chkB names gl ds fs Ns = true → ds[i]? = some d → ∃ fn N, fs[i]? = some fn ∧ FnScope N (psOf d) d.scope ∧ fn.np = (psOf d).length ∧ fn.nn = N.length ∧ matchSs ⟨N, names, gl⟩ fn.body d.scope d.body = true
  | d :: ds, fn :: fs, N :: Ns, 0, _, h, e => by
    cases e
    simp only [chkB, Bool.and_eq_true, decide_eq_true_eq] at h
    exact ⟨fn, N, rfl, C8.fnScope_by h.1.1.1.1, h.1.1.1.2, h.1.1.2, h.1.2⟩
  | d :: ds, fn :: fs, N :: Ns, i + 1, d', h, e => by
    simp only [chkB, Bool.and_eq_true] at h
    obtain ⟨fn', N', h1, h2⟩ := chkB_get (i := i) h.2 (by simpa using e)
    exact ⟨fn', N', by simpa using h1, h2⟩
  | [], _, _, i, _, _, e => by simp at e
  | _ :: _, [], _, _, _, h, _ => by cases h
  | _ :: _, _ :: _, [], _, _, h, _ => by cases h
theorem tab_of {K : PySem.W.Frag} {h : Heap} {mg : Str → Option Value} {sts : List Stmt} {fs : List Fn} {Ns : List (List Str)} {gi : List (Str × Int)} (X : K.In h) (G : h.Ns mainGlobals mg)
    (c : He.SaysD (faOf (sts.map fun s => (mkD s).name) gi) (sts.map mkD) K) (hc : chkB (sts.map fun s => (mkD s).name) (gi.map (·.1)) (sts.map mkD) fs Ns = true) (hb : BindAll (sts.map mkD)) :
    Tab K mg fs (gi.map fun p => .int p.2) (sts.map fun s => (mkD s).name) (gi.map (·.1)) := by
  have fact : ∀ f ∈ faOf (sts.map fun s => (mkD s).name) gi, f.ok K = true := fun f hf => by
    obtain ⟨i, hi⟩ := List.mem_iff_getElem?.mp hf
    exact c.fact i hi
  refine ⟨fun i x hx => ?_, fun x hx => ?_, fun i x hx => ?_⟩
  · rw [List.getElem?_map, Option.map_eq_some_iff] at hx
    obtain ⟨s, hs, rfl⟩ := hx
    have hd : (sts.map mkD)[i]? = some (mkD s) := by rw [List.getElem?_map, hs]; rfl
    obtain ⟨fd, FD⟩ := c.def_ i hd
    obtain ⟨e1, e2, e3, e4⟩ := mkD_at s
    have d1 : (mkD s).dvs K = [] := by unfold He.DefD.dvs; rw [e3]; rfl
    have d2 : (mkD s).kws K = [] := by unfold He.DefD.kws; rw [e4]; rfl
    have hg := He.glo_ok X G (x := (mkD s).name) (fact _ (List.mem_append_right _ (List.mem_append_left _ (List.mem_map.mpr ⟨_, List.mem_map.mpr ⟨s, List.mem_of_getElem? hs, rfl⟩, rfl⟩))))
    have d3 : He.fAd K (mkD s).at_ = He.ga K (mkD s).name := by rw [e1]; rfl
    rw [d1, d2, d3, e2] at FD
    obtain ⟨fn, N, h1, h2, h3, h4, h5⟩ := chkB_get hc hd
    have bd := hb.get hd
    unfold BindD at bd
    rw [e2] at bd
    exact ⟨fn, h1, ⟨_, _, _, N, psOf (mkD s), _, fd, FD, hg, fun s' us hl => FD.bindsA bd s' us hl, h2, h3, h4, h5⟩⟩
  · exact He.free_ok X G (fact _ (List.mem_append_left _ (List.mem_map.mpr ⟨x, hx, rfl⟩)))
  · rw [List.getElem?_map, Option.map_eq_some_iff] at hx
    obtain ⟨p, hp, rfl⟩ := hx
    obtain ⟨t, ht⟩ := He.int_ok X G (x := p.1) (i := p.2) (fact _ (List.mem_append_right _ (List.mem_append_right _ (List.mem_map.mpr ⟨p, List.mem_of_getElem? hp, rfl⟩))))
    refine ⟨_, ht, ?_⟩
    rw [List.getElem?_map, hp]
    exact ⟨t, rfl⟩
end TB
set_option maxRecDepth 100000
/-! TBRun: running the evaluator. -/
namespace TB
open PySem
section
variable {Φ : Nat → List W → Sto → Res W} {G : List D} {σ : Ev} {st st1 st2 : Sto}
@[simp] theorem ev_var (i : Nat) : ev Φ G (.var i) σ st = match σ[i]? with
    | some (some w) => .ok w st
    | _ => .bad := by first | (rw [ev]; done) | (rw [ev] <;> rfl)
@[simp] theorem ev_cn (d : D) : ev Φ G (.cn d) σ st = .ok (.d d) st := by first | (rw [ev]; done) | (rw [ev] <;> rfl)
@[simp] theorem ev_glob (i : Nat) : ev Φ G (.glob i) σ st = match G[i]? with
    | some (.int n) => .ok (.d (.int n)) st
    | _ => .bad := by first | (rw [ev]; done) | (rw [ev] <;> rfl)
@[simp] theorem ev_tup (es : Es) : ev Φ G (.tup es) σ st = (evD Φ G es σ st).bind fun xs st1 => .ok (.d (.tuple xs)) st1 := by first | (rw [ev]; done) | (rw [ev] <;> rfl)
@[simp] theorem ev_lst (es : Es) : ev Φ G (.lst es) σ st = (evD Φ G es σ st).bind fun xs st1 => .ok (.d (.list xs)) st1 := by first | (rw [ev]; done) | (rw [ev] <;> rfl)
@[simp] theorem ev_dnew : ev Φ G .dnew σ st = .ok (.d (.dict [])) st := by first | (rw [ev]; done) | (rw [ev] <;> rfl)
@[simp] theorem ev_bin (op : Operator) (a b : E) : ev Φ G (.bin op a b) σ st = (ev Φ G a σ st).bind fun x st1 => (ev Φ G b σ st1).bind fun y st2 => ofO ((peek x st2).bind fun d => (peek y st2).bind fun e => (binD op d e).map .d) st2 := by first | (rw [ev]; done) | (rw [ev] <;> rfl)
@[simp] theorem ev_neg (a : E) : ev Φ G (.neg a) σ st = (ev Φ G a σ st).bind fun x st1 => match x with
    | .d (.int i) => .ok (.d (.int (-i))) st1
    | _ => .bad := by first | (rw [ev]; done) | (rw [ev] <;> rfl)
@[simp] theorem ev_not (a : E) : ev Φ G (.not a) σ st = (ev Φ G a σ st).bind fun x st1 => (truthW x st1).bind fun k st2 => .ok (.d (.bool (!k))) st2 := by first | (rw [ev]; done) | (rw [ev] <;> rfl)
@[simp] theorem ev_and (a b : E) : ev Φ G (.and a b) σ st = (ev Φ G a σ st).bind fun x st1 => match x with
    | .d (.bool true) => ev Φ G b σ st1
    | .d (.bool false) => .ok (.d (.bool false)) st1
    | _ => .bad := by first | (rw [ev]; done) | (rw [ev] <;> rfl)
@[simp] theorem ev_or (a b : E) : ev Φ G (.or a b) σ st = (ev Φ G a σ st).bind fun x st1 => match x with
    | .d (.bool false) => ev Φ G b σ st1
    | .d (.bool true) => .ok (.d (.bool true)) st1
    | _ => .bad := by first | (rw [ev]; done) | (rw [ev] <;> rfl)
@[simp] theorem ev_cmp (op : CmpOp) (a b : E) : ev Φ G (.cmp op a b) σ st = (ev Φ G a σ st).bind fun x st1 => (ev Φ G b σ st1).bind fun y st2 => ofO ((peek x st2).bind fun d => (peek y st2).bind fun e => (cmpD op d e).map fun k => .d (.bool k)) st2 := by first | (rw [ev]; done) | (rw [ev] <;> rfl)
@[simp] theorem ev_chain (op op' : CmpOp) (a b c : E) : ev Φ G (.chain op op' a b c) σ st = (ev Φ G a σ st).bind fun x st1 => (ev Φ G b σ st1).bind fun y st2 =>
    (ofO ((peek x st2).bind fun d => (peek y st2).bind fun e => cmpD op d e) st2).bind fun k st3 => if k = true then
      (ev Φ G c σ st3).bind fun z st4 => ofO ((peek y st4).bind fun d => (peek z st4).bind fun e => (cmpD op' d e).map fun k => .d (.bool k)) st4
    else .ok (.d (.bool false)) st3 := by first | (rw [ev]; done) | (rw [ev] <;> rfl)
@[simp] theorem ev_ite (c a b : E) : ev Φ G (.ite c a b) σ st = (ev Φ G c σ st).bind fun x st1 => (truthW x st1).bind fun k st1 => if k = true then ev Φ G a σ st1 else ev Φ G b σ st1 := by first | (rw [ev]; done) | (rw [ev] <;> rfl)
@[simp] theorem ev_call (f : Nat) (es : Es) : ev Φ G (.call f es) σ st = (evs Φ G es σ st).bind fun ws st1 => Φ f ws st1 := by first | (rw [ev]; done) | (rw [ev] <;> rfl)
@[simp] theorem ev_bi (b : Bi) (es : Es) : ev Φ G (.bi b es) σ st = (evs Φ G es σ st).bind fun ws st1 => ofO ((ws.mapM fun w => peek w st1).bind fun vs => (biD b vs).map .d) st1 := by first | (rw [ev]; done) | (rw [ev] <;> rfl)
@[simp] theorem ev_isin (a : E) (t : Ty) : ev Φ G (.isin a t) σ st = (ev Φ G a σ st).bind fun x st1 => ofO ((peek x st1).map fun d => .d (.bool (isTy t d))) st1 := by first | (rw [ev]; done) | (rw [ev] <;> rfl)
@[simp] theorem ev_idx (o i : E) : ev Φ G (.idx o i) σ st = (ev Φ G o σ st).bind fun x st1 => (ev Φ G i σ st1).bind fun y st2 => ofO ((peek x st2).bind fun d => (peek y st2).bind fun e => (getD d e).map .d) st2 := by first | (rw [ev]; done) | (rw [ev] <;> rfl)
@[simp] theorem ev_slc (o : E) (a b : Oe) : ev Φ G (.slc o a b) σ st = (ev Φ G o σ st).bind fun x st1 => (evO Φ G a σ st1).bind fun lo st2 => (evO Φ G b σ st2).bind fun hi st3 => ofO ((peek x st3).bind fun d => (sliceD d lo hi).map .d) st3 := by first | (rw [ev]; done) | (rw [ev] <;> rfl)
@[simp] theorem ev_back (o : E) : ev Φ G (.back o) σ st = (ev Φ G o σ st).bind fun x st1 => ofO ((peek x st1).bind fun d => match d with
    | .list xs => some (.d (.list xs.reverse))
    | .tuple xs => some (.d (.tuple xs.reverse))
    | _ => none) st1 := by first | (rw [ev]; done) | (rw [ev] <;> rfl)
@[simp] theorem evs_nil : evs Φ G .nil σ st = .ok [] st := by first | (rw [evs]; done) | (rw [evs] <;> rfl)
@[simp] theorem evs_cons (e : E) (es : Es) : evs Φ G (.cons e es) σ st = (ev Φ G e σ st).bind fun x st1 => (evs Φ G es σ st1).bind fun xs st2 => .ok (x :: xs) st2 := by first | (rw [evs]; done) | (rw [evs] <;> rfl)
@[simp] theorem evD_nil : evD Φ G .nil σ st = .ok [] st := by first | (rw [evD]; done) | (rw [evD] <;> rfl)
@[simp] theorem evD_cons (e : E) (es : Es) : evD Φ G (.cons e es) σ st = (ev Φ G e σ st).bind fun x st1 => (val x st1).bind fun d st2 => (evD Φ G es σ st2).bind fun xs st3 => .ok (d :: xs) st3 := by first | (rw [evD]; done) | (rw [evD] <;> rfl)
@[simp] theorem evO_no : evO Φ G .no σ st = .ok none st := by first | (rw [evO]; done) | (rw [evO] <;> rfl)
@[simp] theorem evO_yes (e : E) : evO Φ G (.yes e) σ st = (ev Φ G e σ st).bind fun x st1 => match x with
    | .d (.int i) => .ok (some i) st1
    | _ => .bad := by first | (rw [evO]; done) | (rw [evO] <;> rfl)
@[simp] theorem evC_no : evC Φ G .no σ st = .ok true st := by first | (rw [evC]; done) | (rw [evC] <;> rfl)
@[simp] theorem evC_yes (e : E) : evC Φ G (.yes e) σ st = (ev Φ G e σ st).bind fun x st1 => truthW x st1 := by first | (rw [evC]; done) | (rw [evC] <;> rfl)
@[simp] theorem evI_e (e : E) : evI Φ G (.e e) σ st = (ev Φ G e σ st).bind fun x st1 => (val x st1).bind fun d st2 => ofO (seqD d) st2 := by first | (rw [evI]; done) | (rw [evI] <;> rfl)
@[simp] theorem evI_r1 (a : E) : evI Φ G (.r1 a) σ st = (ev Φ G a σ st).bind fun x st1 => match x with
    | .d (.int j) => if smallB j then .ok (rangeL 0 1 j.toNat) st1 else .bad
    | _ => .bad := by first | (rw [evI]; done) | (rw [evI] <;> rfl)
@[simp] theorem evI_z2 (a b : E) : evI Φ G (.z2 a b) σ st = (ev Φ G a σ st).bind fun x st1 => (val x st1).bind fun d st2 => (ev Φ G b σ st2).bind fun y st3 => (val y st3).bind fun e st4 => ofO (zipD d e) st4 := by first | (rw [evI]; done) | (rw [evI] <;> rfl)
@[simp] theorem exs_nil : exs Φ G .nil σ st = .ok (.nx σ) st := by first | (rw [exs]; done) | (rw [exs] <;> rfl)
@[simp] theorem exs_cons (s : S) (r : Ss) : exs Φ G (.cons s r) σ st = (ex Φ G s σ st).bind fun f st1 => match f with
    | .nx σ1 => exs Φ G r σ1 st1
    | .rt w => .ok (.rt w) st1 := by first | (rw [exs]; done) | (rw [exs] <;> rfl)
@[simp] theorem ex_asg (i : Nat) (e : E) : ex Φ G (.asg i e false) σ st = (ev Φ G e σ st).bind fun x st1 => (val x st1).bind fun d st2 => .ok (.nx (σ.set i (some (.d d)))) st2 := by
  rw [ex]; simp
@[simp] theorem ex_asgT (is : List Nat) (e : E) : ex Φ G (.asgT is e) σ st = (ev Φ G e σ st).bind fun x st1 => match x with
    | .d (.tuple xs) => ofO ((storeT is xs σ).map .nx) st1
    | _ => .bad := by first | (rw [ex]; done) | (rw [ex] <;> rfl)
@[simp] theorem ex_asgP (is : List Nat) (es : Es) : ex Φ G (.asgP is es) σ st = (evD Φ G es σ st).bind fun xs st1 => ofO ((storeT is xs σ).map .nx) st1 := by first | (rw [ex]; done) | (rw [ex] <;> rfl)
@[simp] theorem ex_ret (e : E) : ex Φ G (.ret e) σ st = (ev Φ G e σ st).bind fun x st1 => (val x st1).bind fun d st2 => .ok (.rt (.d d)) st2 := by first | (rw [ex]; done) | (rw [ex] <;> rfl)
@[simp] theorem ex_ife (c : E) (a b : Ss) : ex Φ G (.ife c a b) σ st = (evT Φ G c σ st).bind fun k st1 => if k = true then exs Φ G a σ st1 else exs Φ G b σ st1 := by first | (rw [ex]; done) | (rw [ex] <;> rfl)
@[simp] theorem ex_seti (i : Nat) (k v : E) : ex Φ G (.seti i k v) σ st = (ofO (atVar σ i) st).bind fun _ st => (ev Φ G v σ st).bind fun x st1 => (val x st1).bind fun d st2 => (ev Φ G k σ st2).bind fun y st3 => (val y st3).bind fun e st4 => (ofO (change σ i (fun ob => setSlot ob e d) st4) st4).bind fun st5 _ => .ok (.nx σ) st5 := by first | (rw [ex]; done) | (rw [ex] <;> rfl)
@[simp] theorem bi_len_list (xs : List D) : biD .len [.list xs] = some (.int xs.length) := rfl
@[simp] theorem bi_len_tup (xs : List D) : biD .len [.tuple xs] = some (.int xs.length) := rfl
@[simp] theorem bi_tuple_list (xs : List D) : biD .tuple [.list xs] = some (.tuple xs) := rfl
@[simp] theorem bi_tuple_tup (xs : List D) : biD .tuple [.tuple xs] = some (.tuple xs) := rfl
@[simp] theorem bi_list_list (xs : List D) : biD .list [.list xs] = some (.list xs) := rfl
@[simp] theorem bi_list_tup (xs : List D) : biD .list [.tuple xs] = some (.list xs) := rfl
@[simp] theorem bi_max2 (i j : Int) : biD .max [.int i, .int j] = some (.int (if j > i then j else i)) := rfl
@[simp] theorem bi_min2 (i j : Int) : biD .min [.int i, .int j] = some (.int (if j < i then j else i)) := rfl
@[simp] theorem bi_int_bool (b : Bool) : biD .int [.bool b] = some (.int (if b then 1 else 0)) := rfl
@[simp] theorem bi_int_int (b : Int) : biD .int [.int b] = some (.int b) := rfl
@[simp] theorem bi_divmod (i j : Int) : biD .divmod [.int i, .int j] = if 0 < j ∧ j < 1073741824 then some (.tuple [.int (i / j), .int (i % j)]) else none := rfl
@[simp] theorem bi_sset (xs : List D) : biD .sortedset [.tuple xs] = (intsD xs).bind fun ns => if ns.length < 64 then some (.list ((setSort ns).map .int)) else none := rfl
theorem shaped_int (i : Int) : shapedB (.int i) = true := rfl
@[simp] theorem cmp_eq_int (i j : Int) : cmpD .Eq (.int i) (.int j) = some (decide (i = j)) := by
  unfold cmpD
  simp only [shaped_int, Bool.and_self, if_true]
  first | (congr 1; done) | (congr 1; by_cases h : i = j <;> simp [h, PyData.eqv])
@[simp] theorem cmp_lt_int (i j : Int) : cmpD .Lt (.int i) (.int j) = some (decide (i < j)) := rfl
@[simp] theorem cmp_gt_int (i j : Int) : cmpD .Gt (.int i) (.int j) = some (decide (j < i)) := rfl
@[simp] theorem cmp_le_int (i j : Int) : cmpD .LtE (.int i) (.int j) = some (decide (i ≤ j)) := rfl
@[simp] theorem cmp_ge_int (i j : Int) : cmpD .GtE (.int i) (.int j) = some (decide (j ≤ i)) := rfl
@[simp] theorem cmp_ne_bool (i j : Bool) : cmpD .NotEq (.bool i) (.bool j) = some (i != j) := by
  cases i <;> cases j <;> rfl
@[simp] theorem cmp_eq_bool (i j : Bool) : cmpD .Eq (.bool i) (.bool j) = some (i == j) := by
  cases i <;> cases j <;> rfl
@[simp] theorem cmp_isnot_bool (i j : Bool) : cmpD .IsNot (.bool i) (.bool j) = some (i != j) := by
  cases i <;> cases j <;> rfl
@[simp] theorem cmp_is_bool (i j : Bool) : cmpD .Is (.bool i) (.bool j) = some (i == j) := by
  cases i <;> cases j <;> rfl
@[simp] theorem add_int (i j : Int) : binD .Add (.int i) (.int j) = some (.int (i + j)) := rfl
@[simp] theorem sub_int (i j : Int) : binD .Sub (.int i) (.int j) = some (.int (i - j)) := rfl
@[simp] theorem mul_int (i j : Int) : binD .Mult (.int i) (.int j) = if mulOk i j then some (.int (i * j)) else none := rfl
@[simp] theorem mod_int (i j : Int) : binD .Mod (.int i) (.int j) = if 0 < j then some (.int (i % j)) else none := by
  show (if 0 < j then some (i % j) else none).map PyData.int = _
  split <;> rfl
@[simp] theorem fdiv_int (i j : Int) : binD .FloorDiv (.int i) (.int j) = if 0 < j ∧ j < 1073741824 then some (.int (i / j)) else none := by
  show (if 0 < j ∧ j < 1073741824 then some (i / j) else none).map PyData.int = _
  split <;> rfl
@[simp] theorem and_int (i j : Int) : binD .BitAnd (.int i) (.int j) = some (.int (Builtin.bitAnd i j)) := rfl
@[simp] theorem shr_int (i j : Int) : binD .RShift (.int i) (.int j) = if 0 ≤ j then some (.int (i / 2 ^ j.toNat)) else none := by
  show (if 0 ≤ j then some (i / 2 ^ j.toNat) else none).map PyData.int = _
  split <;> rfl
@[simp] theorem pow_int (i j : Int) : binD .Pow (.int i) (.int j) = if powOk i j then some (.int (i ^ j.toNat)) else none := by
  show (if powOk i j then some (i ^ j.toNat) else none).map PyData.int = _
  split <;> rfl
@[simp] theorem add_tup (xs ys : List D) : binD .Add (.tuple xs) (.tuple ys) = if xs.length + ys.length ≤ LIM then some (.tuple (xs ++ ys)) else none := rfl
@[simp] theorem add_list (xs ys : List D) : binD .Add (.list xs) (.list ys) = if xs.length + ys.length ≤ LIM then some (.list (xs ++ ys)) else none := rfl
@[simp] theorem get_list (xs : List D) (i : Int) : TB.getD (.list xs) (.int i) = (placeOf xs.length i).bind fun j => xs[j]? := rfl
@[simp] theorem get_tup (xs : List D) (i : Int) : TB.getD (.tuple xs) (.int i) = (placeOf xs.length i).bind fun j => xs[j]? := rfl
@[simp] theorem slice_tup (xs : List D) (a b : Option Int) : sliceD (.tuple xs) a b = some (.tuple (cutD xs a b)) := rfl
@[simp] theorem slice_list (xs : List D) (a b : Option Int) : sliceD (.list xs) a b = some (.list (cutD xs a b)) := rfl
theorem ev_all {Φ : Nat → List W → Sto → Res W} {G : List D} {σ : Ev} {st st1 : Sto} {α : Type} {c : E} {f : α → Bool} {xs : List α} (h : ev Φ G c σ st = .ok (.d (.list (xs.map fun x => .bool (f x)))) st1) : ev Φ G (.bi .all (.cons c .nil)) σ st = .ok (.d (.bool (xs.all f))) st1 := by
  have hb : boolsD (xs.map fun x => PyData.bool (f x)) = some (xs.map f) := by
    clear h
    induction xs with
    | nil => rfl
    | cons x xs ih => rw [List.map_cons, boolsD, ih]; rfl
  simp [h, biD, hb, List.all_map]
/-- a comprehension -/
def lcStep (Φ : Nat → List W → Sto → Res W) (G : List D) (elt : E) (t : Tg) (own : List Nat) (c : Oe) (σ : Ev) (x : D) (st : Sto) : Res (Option D) :=
  (ofO (bindT t x (wipeE σ own)) st).bind fun σ1 st => (evC Φ G c σ1 st).bind fun k st => if k = true then (ev Φ G elt σ1 st).bind fun w st => (val w st).bind fun d st => .ok (some d) st else .ok none st
theorem ev_lc {elt : E} {t : Tg} {it : I} {own : List Nat} {c : Oe} {xs ys : List D} (h : evI Φ G it σ st = .ok xs st1) (h2 : compL (lcStep Φ G elt t own c σ) xs st1 = .ok ys st2) : ev Φ G (.lc elt t it own c) σ st = .ok (.d (.list ys)) st2 := by
  rw [ev, h, Res.bind_ok]
  have e : compL (fun x st => (ofO (bindT t x (wipeE σ own)) st).bind fun σ1 st => (evC Φ G c σ1 st).bind fun k st => if k = true then (ev Φ G elt σ1 st).bind fun w st => (val w st).bind fun d st => .ok (some d) st else .ok none st) xs st1 = .ok ys st2 := h2
  rw [e]
  rfl
def forStep (Φ : Nat → List W → Sto → Res W) (G : List D) (t : Tg) (b : Ss) (x : D) (σ : Ev) (st : Sto) : Res Fl := (ofO (bindT t x σ) st).bind fun σ1 st => exs Φ G b σ1 st
theorem ex_for {t : Tg} {it : I} {b : Ss} {xs : List D} (h : evI Φ G it σ st = .ok xs st1) : ex Φ G (.fori t it b) σ st = forL (forStep Φ G t b) xs σ st1 := by
  rw [ex, h, Res.bind_ok]
  rfl
@[simp] theorem truthW_b (k : Bool) : truthW (.d (.bool k)) st = .ok k st := rfl
theorem evT_def (e : E) : evT Φ G e σ st = (ev Φ G e σ st).bind fun x st1 => truthW x st1 := rfl
end
@[simp] theorem fin_d (st : Sto) (x : D) : finish st.length (.rt (.d x)) st = .ok (.d x) st := by
  simp [finish]
@[simp] theorem fin_set (st : Sto) (x : D) (a : Nat) (ob : Ob) : finish st.length (.rt (.d x)) (st.set a ob) = .ok (.d x) (st.set a ob) := by
  simp [finish, List.take_of_length_le]
theorem callF_of {fs : List Fn} {G : List D} {n f : Nat} {ws : List W} {st : Sto} {fn : Fn} (h : fs[f]? = some fn) (hl : ws.length = fn.np) :
    callF fs G (n + 1) f ws st = (exs (callF fs G n) G fn.body (startE fn.nn ws) st).bind (finish st.length) := by
  rw [callF, h]
  simp only
  rw [if_pos hl]
theorem compL_map {step : D → Sto → Res (Option D)} {g : D → Option D} {st : Sto} : ∀ {xs : List D}, (∀ x ∈ xs, step x st = .ok (g x) st) → compL step xs st = .ok (xs.filterMap g) st
  | [], _ => rfl
  | x :: xs, h => by
    rw [compL, h x (List.mem_cons_self ..), Res.bind_ok, compL_map fun y hy => h y (List.mem_cons_of_mem _ hy), Res.bind_ok, List.filterMap_cons]
    cases g x <;> rfl
theorem compL_of {α : Type} {step : D → Sto → Res (Option D)} {h : α → D} {g : α → D} {st : Sto} : ∀ {xs : List α}, (∀ x ∈ xs, step (h x) st = .ok (some (g x)) st) → compL step (xs.map h) st = .ok (xs.map g) st
  | [], _ => rfl
  | x :: xs, k => by
    rw [List.map_cons, compL, k x (List.mem_cons_self ..), Res.bind_ok, compL_of fun y hy => k y (List.mem_cons_of_mem _ hy)]
    rfl
theorem compL_all {step : D → Sto → Res (Option D)} {g : D → D} {st : Sto} {xs : List D} (h : ∀ x ∈ xs, step x st = .ok (some (g x)) st) : compL step xs st = .ok (xs.map g) st := by
  have := compL_of (h := id) (g := g) (xs := xs) h
  rwa [List.map_id] at this
theorem forL_inv {step : D → Ev → Sto → Res Fl} (I : Ev → Sto → Prop) : ∀ {xs : List D}, (∀ x ∈ xs, ∀ σ st, I σ st → ∃ σ' st', step x σ st = .ok (.nx σ') st' ∧ I σ' st') → ∀ {σ : Ev} {st : Sto}, I σ st → ∃ σ' st', forL step xs σ st = .ok (.nx σ') st' ∧ I σ' st'
  | [], _, σ, st, h => ⟨σ, st, rfl, h⟩
  | x :: xs, k, σ, st, h => by
    obtain ⟨σ1, st1, e1, h1⟩ := k x (List.mem_cons_self ..) σ st h
    obtain ⟨σ2, st2, e2, h2⟩ := forL_inv I (fun y hy => k y (List.mem_cons_of_mem _ hy)) h1
    exact ⟨σ2, st2, by rw [forL, e1, Res.bind_ok]; exact e2, h2⟩
theorem bools_map {α : Type} (f : α → Bool) : ∀ xs : List α, boolsD (xs.map fun x => .bool (f x)) = some (xs.map f)
  | [] => rfl
  | x :: xs => by rw [List.map_cons, boolsD, bools_map f xs]; rfl
theorem all_map {α : Type} (f : α → Bool) (xs : List α) : biD .all [.list (xs.map fun x => .bool (f x))] = some (.bool (xs.all f)) := by
  simp [biD, bools_map, List.all_map]
theorem ints_map : ∀ xs : List Int, intsD (xs.map .int) = some xs
  | [] => rfl
  | x :: xs => by rw [List.map_cons, intsD, ints_map xs]; rfl
theorem rangeL_map (lo c : Int) : ∀ n : Nat, rangeL lo c n = (List.range n).map fun k : Nat => PyData.int (lo + (k : Int) * c) := by
  intro n
  induction n generalizing lo with
  | zero => rfl
  | succ n ih =>
    rw [rangeL, ih, List.range_succ_eq_map, List.map_cons, List.map_map]
    congr 1
    · simp
    · apply List.map_congr_left
      intro k _
      simp only [Function.comp]
      congr 1
      push_cast
      rw [Int.add_mul]
      omega
def wholeB (d : D) : Bool := isTy .int d && !isTy .bool d
theorem wholeB_of {d : D} (h : wholeB d = true) : ∃ i, d = .int i := by
  cases d <;> simp [wholeB, isTy] at h
  exact ⟨_, rfl⟩
def fromB (lo hi : Int) : D → Bool
  | .int i => decide (lo ≤ i) && decide (i ≤ hi)
  | _ => false
/-- rising -/
def riseB : List Int → Bool
  | [] => true
  | [_] => true
  | a :: b :: r => decide (a < b) && riseB (b :: r)
def pairsI : List Int → List (Int × Int)
  | a :: b :: r => (a, b) :: pairsI (b :: r)
  | _ => []
theorem pairs_rise : ∀ ns : List Int, ((pairsI ns).all fun p => decide (p.1 < p.2)) = riseB ns
  | [] => rfl
  | [_] => rfl
  | a :: b :: r => by rw [pairsI, List.all_cons, pairs_rise (b :: r), riseB]
theorem zip_pairs : ∀ ns : List Int, zipL (ns.map PyData.int) ((ns.map PyData.int).drop 1) = (pairsI ns).map fun p => PyData.tuple [.int p.1, .int p.2]
  | [] => rfl
  | [_] => rfl
  | a :: b :: r => by
    have ih := zip_pairs (b :: r)
    rw [pairsI, List.map_cons (l := pairsI (b :: r)), ← ih]
    rfl
theorem cut_tail (xs : List D) : cutD xs (some 1) none = xs.drop 1 := by
  unfold cutD clipD
  simp only
  rw [if_neg (by omega), Int.toNat_one]
  cases xs with
  | nil => rfl
  | cons x xs =>
    rw [show min 1 (x :: xs).length = 1 by simp]
    simp
theorem rise_ix : ∀ ns : List Int, ((List.range (ns.length - 1)).all fun k => decide (ns.getD k 0 < ns.getD (k + 1) 0)) = riseB ns
  | [] => rfl
  | [_] => rfl
  | a :: b :: r => by
    have ih := rise_ix (b :: r)
    rw [riseB, ← ih]
    show ((List.range (r.length + 1)).all _) = _
    rw [List.range_succ_eq_map, List.all_cons, List.all_map]
    rfl
def faceB : D → Bool
  | .tuple xs => decide (1 ≤ xs.length) && decide (xs.length ≤ 5) && xs.all (fromB 0 9) && (match intsD xs with | some ns => riseB ns | none => false)
  | _ => false
theorem from_ints {lo hi : Int} : ∀ {xs : List D}, xs.all (fromB lo hi) = true → ∃ ns : List Int, xs = ns.map .int ∧ ∀ k ∈ ns, lo ≤ k ∧ k ≤ hi
  | [], _ => ⟨[], rfl, by simp⟩
  | x :: xs, h => by
    rw [List.all_cons, Bool.and_eq_true] at h
    obtain ⟨ns, rfl, h2⟩ := from_ints h.2
    have h1 := h.1
    cases x <;> simp [fromB] at h1
    rename_i k
    refine ⟨k :: ns, rfl, fun j hj => ?_⟩
    rcases List.mem_cons.mp hj with rfl | hj
    · exact h1
    · exact h2 j hj
theorem all_from {lo hi : Int} {ns : List Int} (h : ∀ k ∈ ns, lo ≤ k ∧ k ≤ hi) : (ns.map PyData.int).all (fromB lo hi) = true := by
  rw [List.all_map, List.all_eq_true]
  intro k hk
  simp [fromB, h k hk]
theorem whole_ints : ∀ {xs : List D}, xs.all wholeB = true → ∃ ns : List Int, xs = ns.map .int
  | [], _ => ⟨[], rfl⟩
  | x :: xs, h => by
    rw [List.all_cons, Bool.and_eq_true] at h
    obtain ⟨ns, rfl⟩ := whole_ints h.2
    obtain ⟨k, rfl⟩ := wholeB_of h.1
    exact ⟨k :: ns, rfl⟩
end TB
set_option maxRecDepth 100000
/-! TBShape: expressions of which only the shape of the answer is wanted. -/
namespace TB
open PySem
section
variable (Φ : Nat → List W → Sto → Res W) (G : List D)
def AnyE (e : E) (σ : Ev) (st : Sto) : Prop := ∃ d, ev Φ G e σ st = .ok (.d d) st
def TupE (m : Nat) (e : E) (σ : Ev) (st : Sto) : Prop := ∃ xs, ev Φ G e σ st = .ok (.d (.tuple xs)) st ∧ xs.length ≤ m
def LstE (m : Nat) (e : E) (σ : Ev) (st : Sto) : Prop := ∃ xs, ev Φ G e σ st = .ok (.d (.list xs)) st ∧ xs.length ≤ m
def IntE (e : E) (σ : Ev) (st : Sto) : Prop := ∃ i, ev Φ G e σ st = .ok (.d (.int i)) st
def IntO (o : Oe) (σ : Ev) (st : Sto) : Prop := ∃ i, evO Φ G o σ st = .ok i st
def AnyEs : Es → Ev → Sto → Prop
  | .nil, _, _ => True
  | .cons e es, σ, st => AnyE Φ G e σ st ∧ AnyEs es σ st
def Es.len : Es → Nat
  | .nil => 0
  | .cons _ es => es.len + 1
end
section
variable {Φ : Nat → List W → Sto → Res W} {G : List D} {σ : Ev} {st : Sto} {m k : Nat} {e a b o : E}
theorem TupE.any (h : TupE Φ G m e σ st) : AnyE Φ G e σ st := let ⟨xs, h, _⟩ := h; ⟨_, h⟩
theorem LstE.any (h : LstE Φ G m e σ st) : AnyE Φ G e σ st := let ⟨xs, h, _⟩ := h; ⟨_, h⟩
theorem IntE.any (h : IntE Φ G e σ st) : AnyE Φ G e σ st := let ⟨_, h⟩ := h; ⟨_, h⟩
theorem any_cn (d : D) : AnyE Φ G (.cn d) σ st := ⟨d, by simp⟩
theorem any_dnew : AnyE Φ G .dnew σ st := ⟨_, ev_dnew⟩
theorem int_cn (i : Int) : IntE Φ G (.cn (.int i)) σ st := ⟨i, by simp⟩
theorem int_var {i : Nat} {j : Int} (h : σ[i]? = some (some (.d (.int j)))) : IntE Φ G (.var i) σ st := ⟨j, by simp [h]⟩
theorem any_var {i : Nat} {d : D} (h : σ[i]? = some (some (.d d))) : AnyE Φ G (.var i) σ st := ⟨d, by simp [h]⟩
theorem int_add (h1 : IntE Φ G a σ st) (h2 : IntE Φ G b σ st) : IntE Φ G (.bin .Add a b) σ st := by
  obtain ⟨i, h1⟩ := h1
  obtain ⟨j, h2⟩ := h2
  exact ⟨i + j, by simp [h1, h2]⟩
theorem int_neg (h1 : IntE Φ G a σ st) : IntE Φ G (.neg a) σ st := by
  obtain ⟨i, h1⟩ := h1
  exact ⟨-i, by simp [h1]⟩
theorem int_pow {i j : Int} (h : powOk i j = true) : IntE Φ G (.bin .Pow (.cn (.int i)) (.cn (.int j))) σ st := ⟨i ^ j.toNat, by simp [h]⟩
theorem intO_no : IntO Φ G .no σ st := ⟨none, by simp⟩
theorem intO_yes (h : IntE Φ G a σ st) : IntO Φ G (.yes a) σ st := by
  obtain ⟨i, h⟩ := h
  exact ⟨some i, by simp [h]⟩
theorem tup_var {i : Nat} {xs : List D} (h : σ[i]? = some (some (.d (.tuple xs)))) (hm : xs.length ≤ m) : TupE Φ G m (.var i) σ st := ⟨xs, by simp [h], hm⟩
theorem lst_var {i : Nat} {xs : List D} (h : σ[i]? = some (some (.d (.list xs)))) (hm : xs.length ≤ m) : LstE Φ G m (.var i) σ st := ⟨xs, by simp [h], hm⟩
theorem cut_le (xs : List D) (a b : Option Int) : (cutD xs a b).length ≤ xs.length := by
  unfold cutD
  rw [List.length_take, List.length_drop]
  omega
theorem tup_slc {x y : Oe} (h : TupE Φ G m o σ st) (hx : IntO Φ G x σ st) (hy : IntO Φ G y σ st) : TupE Φ G m (.slc o x y) σ st := by
  obtain ⟨xs, h, hm⟩ := h
  obtain ⟨i, hx⟩ := hx
  obtain ⟨j, hy⟩ := hy
  exact ⟨cutD xs i j, by simp [h, hx, hy], Nat.le_trans (cut_le ..) hm⟩
theorem tup_add (h1 : TupE Φ G m a σ st) (h2 : TupE Φ G k b σ st) (hl : m + k ≤ LIM := by decide) : TupE Φ G (m + k) (.bin .Add a b) σ st := by
  obtain ⟨xs, h1, l1⟩ := h1
  obtain ⟨ys, h2, l2⟩ := h2
  have : xs.length + ys.length ≤ LIM := by omega
  exact ⟨xs ++ ys, by simp [h1, h2, this], by rw [List.length_append]; omega⟩
theorem lst_add (h1 : LstE Φ G m a σ st) (h2 : LstE Φ G k b σ st) (hl : m + k ≤ LIM := by decide) : LstE Φ G (m + k) (.bin .Add a b) σ st := by
  obtain ⟨xs, h1, l1⟩ := h1
  obtain ⟨ys, h2, l2⟩ := h2
  have : xs.length + ys.length ≤ LIM := by omega
  exact ⟨xs ++ ys, by simp [h1, h2, this], by rw [List.length_append]; omega⟩
theorem anyEs_evD : ∀ {es : Es}, AnyEs Φ G es σ st → ∃ ds, evD Φ G es σ st = .ok ds st ∧ ds.length = es.len
  | .nil, _ => ⟨[], by simp, rfl⟩
  | .cons e es, h => by
    obtain ⟨d, h1⟩ := h.1
    obtain ⟨ds, h2, h3⟩ := anyEs_evD h.2
    exact ⟨d :: ds, by simp [h1, h2], by rw [List.length_cons, h3]; rfl⟩
theorem tup_tup {es : Es} (h : AnyEs Φ G es σ st) : TupE Φ G es.len (.tup es) σ st := by
  obtain ⟨ds, h1, h2⟩ := anyEs_evD h
  exact ⟨ds, by simp [h1], Nat.le_of_eq h2⟩
theorem lst_lst {es : Es} (h : AnyEs Φ G es σ st) : LstE Φ G es.len (.lst es) σ st := by
  obtain ⟨ds, h1, h2⟩ := anyEs_evD h
  exact ⟨ds, by simp [h1], Nat.le_of_eq h2⟩
theorem tup_back (h : TupE Φ G m o σ st) : TupE Φ G m (.back o) σ st := by
  obtain ⟨xs, h, hm⟩ := h
  exact ⟨xs.reverse, by simp [h], by simpa using hm⟩
theorem lst_oftup (h : TupE Φ G m o σ st) : LstE Φ G m (.bi .list (.cons o .nil)) σ st := by
  obtain ⟨xs, h, hm⟩ := h
  exact ⟨xs, by simp [h], hm⟩
theorem tup_oflst (h : LstE Φ G m o σ st) : TupE Φ G m (.bi .tuple (.cons o .nil)) σ st := by
  obtain ⟨xs, h, hm⟩ := h
  exact ⟨xs, by simp [h], hm⟩
theorem any_idx {i : Nat} {xs : List D} {j : Nat} {e : E} (h1 : ev Φ G o σ st = .ok (.d (.tuple xs)) st) (h2 : ev Φ G e σ st = .ok (.d (.int j)) st) (hj : j < xs.length) : AnyE Φ G (.idx o e) σ st := by
  have p : TB.placeOf xs.length (j : Int) = some j := by unfold TB.placeOf; rw [if_pos (by omega), if_pos (by omega)]; rfl
  exact ⟨xs[j], by simp [h1, h2, p, List.getElem?_eq_getElem hj]⟩
/-- a comprehension without a test -/
theorem lst_lc {t : Tg} {it : I} {own : List Nat} {xs : List D} (h : evI Φ G it σ st = .ok xs st) (hm : xs.length ≤ m) (hs : ∀ x ∈ xs, ∃ σ1, bindT t x (wipeE σ own) = some σ1 ∧ AnyE Φ G e σ1 st) : LstE Φ G m (.lc e t it own .no) σ st := by
  have key : ∀ {xs : List D}, (∀ x ∈ xs, ∃ σ1, bindT t x (wipeE σ own) = some σ1 ∧ AnyE Φ G e σ1 st) → ∃ ys, compL (lcStep Φ G e t own .no σ) xs st = .ok ys st ∧ ys.length = xs.length := by
    intro xs hs
    induction xs with
    | nil => exact ⟨[], rfl, rfl⟩
    | cons x xs ih =>
      obtain ⟨ys, h1, h2⟩ := ih fun y hy => hs y (List.mem_cons_of_mem _ hy)
      obtain ⟨σ1, h3, d, h4⟩ := hs x (List.mem_cons_self ..)
      refine ⟨d :: ys, ?_, by simp [h2]⟩
      have : lcStep Φ G e t own .no σ x st = .ok (some d) st := by simp [lcStep, h3, h4]
      rw [compL, this, Res.bind_ok, h1]
      rfl
  obtain ⟨ys, h1, h2⟩ := key hs
  exact ⟨ys, ev_lc h h1, by omega⟩
/-- a name is given such a value -/
theorem exs_asg {i : Nat} {r : Ss} (h : AnyE Φ G e σ st) : ∃ d, ev Φ G e σ st = .ok (.d d) st ∧ exs Φ G (.cons (.asg i e false) r) σ st = exs Φ G r (σ.set i (some (.d d))) st := by
  obtain ⟨d, h⟩ := h
  exact ⟨d, h, by simp [h]⟩
theorem exs_asgL {i : Nat} {r : Ss} (h : LstE Φ G m e σ st) : ∃ xs, xs.length ≤ m ∧ exs Φ G (.cons (.asg i e false) r) σ st = exs Φ G r (σ.set i (some (.d (.list xs)))) st := by
  obtain ⟨xs, h, hm⟩ := h
  exact ⟨xs, hm, by simp [h]⟩
end
/-! the drawing pen -/
def pen (p f : Int) : Ob := .lst [.int p, .int f]
theorem set_get {st : Sto} {a : Nat} {o o' : Ob} (h : st[a]? = some o) : (st.set a o')[a]? = some o' := get_set_same h
end TB
namespace TB
open PySem
section
variable {Φ : Nat → List W → Sto → Res W} {G : List D} {σ : Ev} {st : Sto} {m k : Nat} {e a b o : E}
theorem an : AnyEs Φ G .nil σ st := True.intro
theorem ac {es : Es} (h : AnyE Φ G e σ st) (hs : AnyEs Φ G es σ st) : AnyEs Φ G (.cons e es) σ st := ⟨h, hs⟩
theorem any_idxI {xs : List D} {j : Int} {e : E} (h1 : ev Φ G o σ st = .ok (.d (.tuple xs)) st) (h2 : ev Φ G e σ st = .ok (.d (.int j)) st) (h0 : 0 ≤ j) (hj : j < xs.length) : AnyE Φ G (.idx o e) σ st := by
  have hn : j.toNat < xs.length := by omega
  have p : TB.placeOf xs.length j = some j.toNat := by unfold TB.placeOf; rw [if_pos h0, if_pos hj]
  exact ⟨xs[j.toNat], by simp [h1, h2, p, List.getElem?_eq_getElem hn]⟩
theorem step_lst {P : Res Fl → Prop} {i : Nat} {r : Ss} (h : LstE Φ G m e σ st) (q : ∀ xs : List D, xs.length ≤ m → P (exs Φ G r (σ.set i (some (.d (.list xs)))) st)) : P (exs Φ G (.cons (.asg i e false) r) σ st) := by
  obtain ⟨xs, hm, h⟩ := exs_asgL (i := i) (r := r) h
  rw [h]
  exact q xs hm
theorem step_ret {P : Res Fl → Prop} {r : Ss} (h : LstE Φ G m e σ st) (q : ∀ xs : List D, P (.ok (.rt (.d (.list xs))) st)) : P (exs Φ G (.cons (.ret e) r) σ st) := by
  obtain ⟨xs, h, hm⟩ := h
  have : exs Φ G (.cons (.ret e) r) σ st = .ok (.rt (.d (.list xs))) st := by simp [h]
  rw [this]
  exact q xs
theorem step_nx {P : Res Fl → Prop} {s : S} {r : Ss} {σ1 : Ev} {st1 : Sto} (h : ex Φ G s σ st = .ok (.nx σ1) st1) (q : P (exs Φ G r σ1 st1)) : P (exs Φ G (.cons s r) σ st) := by
  have : exs Φ G (.cons s r) σ st = exs Φ G r σ1 st1 := by rw [exs_cons, h]; rfl
  rw [this]
  exact q
end
end TB
set_option maxHeartbeats 0
namespace L
/-- is_whole: 0 thing -/
def f0 : TB.Fn := ⟨1, 1, (.cons (.ret (.and (.isin (.var 0) .int) (.not (.isin (.var 0) .bool)))) .nil)⟩
/-- is_from: 0 thing 1 least 2 most -/
def f1 : TB.Fn := ⟨3, 3, (.cons (.ret (.and (.call 0 (.cons (.var 0) .nil)) (.chain .LtE .LtE (.var 1) (.var 0) (.var 2)))) .nil)⟩
/-- are_rising: 0 some 1 one 2 other -/
def f2_c0 : TB.E := .lc (.cmp .Lt (.var 1) (.var 2)) (.tp [1, 2]) (.z2 (.var 0) (.slc (.var 0) (.yes (.cn (.int 1))) .no)) [1, 2] .no
def f2_a0 : TB.E := .bi .all (.cons f2_c0 .nil)
def f2 : TB.Fn := ⟨1, 3, (.cons (.ret f2_a0) .nil)⟩
/-- a_face: 0 thing 1 point -/
def f3_c0 : TB.E := .lc (.call 1 (.cons (.var 1) (.cons (.cn (.int 0)) (.cons (.glob 0) .nil)))) (.nm 1) (.e (.var 0)) [1] .no
def f3_a0 : TB.E := .bi .all (.cons f3_c0 .nil)
def f3 : TB.Fn := ⟨1, 2, (.cons (.ife (.or (.not (.isin (.var 0) .tuple)) (.not (.chain .LtE .LtE (.cn (.int 1)) (.bi .len (.cons (.var 0) .nil)) (.glob 1)))) (.cons (.ret (.cn (.bool false))) .nil) .nil) (.cons (.ret (.and f3_a0 (.call 2 (.cons (.var 0) .nil)))) .nil))⟩
/-- is_face: 0 thing -/
def f4 : TB.Fn := ⟨1, 1, (.cons (.ret (.call 3 (.cons (.var 0) .nil))) .nil)⟩
/-- _law_draw: 0 _law_pen_here 1 _law_many 2 _law_stir 3 _law_later 4 _law_found -/
def f5 : TB.Fn := ⟨2, 5, (.cons (.ife (.cmp .Eq (.idx (.var 0) (.cn (.int 1))) (.cn (.int 1))) (.cons (.asgT [3, 4] (.bi .divmod (.cons (.idx (.var 0) (.cn (.int 0))) (.cons (.var 1) .nil)))) (.cons (.seti 0 (.cn (.int 0)) (.var 3)) (.cons (.ret (.var 4)) .nil))) .nil) (.cons (.asg 2 (.bin .Mod (.bin .Mult (.bin .Add (.bin .Mod (.idx (.var 0) (.cn (.int 0))) (.cn (.int 2147483647))) (.cn (.int 40503))) (.cn (.int 69621))) (.cn (.int 2147483629))) false) (.cons (.asg 2 (.bin .Mod (.bin .Add (.bin .Mult (.var 2) (.var 2)) (.cn (.int 7817))) (.cn (.int 2147483587))) false) (.cons (.seti 0 (.cn (.int 0)) (.bin .Mod (.bin .Add (.bin .Mult (.var 2) (.cn (.int 48271))) (.cn (.int 11))) (.cn (.int 2147483629)))) (.cons (.ret (.bin .Mod (.bin .FloorDiv (.idx (.var 0) (.cn (.int 0))) (.cn (.int 32))) (.var 1))) .nil)))))⟩
/-- _law_cell: 0 _law_script 1 _law_k -/
def f6 : TB.Fn := ⟨2, 2, (.cons (.ife (.cmp .Lt (.var 1) (.bi .len (.cons (.var 0) .nil))) (.cons (.ret (.idx (.var 0) (.var 1))) .nil) .nil) (.cons (.ret (.cn (.int 0))) .nil))⟩
/-- _law_pen: 0 _law_cell_here 1 _law_left_over -/
def f7 : TB.Fn := ⟨1, 2, (.cons (.asg 1 (.bi .max (.cons (.var 0) (.cons (.bin .Sub (.cn (.int 0)) (.var 0)) .nil))) false) (.cons (.retN (.lst (.cons (.var 1) (.cons (.bi .int (.cons (.cmp .GtE (.var 1) (.bin .Pow (.cn (.int 10)) (.cn (.int 18)))) .nil)) .nil)))) .nil))⟩
/-- _law_whole: 0 _law_thing -/
def f8 : TB.Fn := ⟨1, 1, (.cons (.ret (.and (.isin (.var 0) .int) (.not (.isin (.var 0) .bool)))) .nil)⟩
/-- _law_is_face: 0 _law_thing 1 _law_k 2 _law_one -/
def f9_c0 : TB.E := .lc (.cmp .Lt (.idx (.var 0) (.var 1)) (.idx (.var 0) (.bin .Add (.var 1) (.cn (.int 1))))) (.nm 1) (.r1 (.bin .Sub (.bi .len (.cons (.var 0) .nil)) (.cn (.int 1)))) [1] .no
def f9_a0 : TB.E := .bi .all (.cons f9_c0 .nil)
def f9_c1 : TB.E := .lc (.call 8 (.cons (.var 2) .nil)) (.nm 2) (.e (.var 0)) [2] .no
def f9_a1 : TB.E := .bi .all (.cons f9_c1 .nil)
def f9 : TB.Fn := ⟨1, 3, (.cons (.ife (.or (.not (.isin (.var 0) .tuple)) (.or (.not (.chain .LtE .LtE (.cn (.int 1)) (.bi .len (.cons (.var 0) .nil)) (.cn (.int 5)))) (.not f9_a1))) (.cons (.ret (.cn (.bool false))) .nil) .nil) (.cons (.ife (.or (.cmp .Lt (.idx (.var 0) (.cn (.int 0))) (.cn (.int 0))) (.cmp .Gt (.idx (.var 0) (.neg (.cn (.int 1)))) (.cn (.int 9)))) (.cons (.ret (.cn (.bool false))) .nil) .nil) (.cons (.ret f9_a0) .nil)))⟩
/-- _law_some_face: 0 _law_pen_here 1 _law_mask 2 _law_point -/
def f10_c0 : TB.E := .lc (.var 2) (.nm 2) (.r1 (.cn (.int 10))) [2] (.yes (.cmp .Eq (.bin .BitAnd (.bin .RShift (.var 1) (.var 2)) (.cn (.int 1))) (.cn (.int 1))))
def f10 : TB.Fn := ⟨1, 3, (.cons (.asg 1 (.bin .Add (.cn (.int 1)) (.call 5 (.cons (.var 0) (.cons (.cn (.int 1023)) .nil)))) false) (.cons (.ret (.bi .tuple (.cons (.slc f10_c0 .no (.yes (.bin .Add (.cn (.int 1)) (.call 5 (.cons (.var 0) (.cons (.cn (.int 5)) .nil)))))) .nil))) .nil))⟩
/-- _law_near: 0 _law_pen_here 1 _law_face 2 _law_odds 3 _law_found 4 _law_at 5 _law_to 6 _law_more 7 _law_odd -/
def f11_c0 : TB.E := .lc (.bin .Add (.bin .Add (.slc (.var 1) .no (.yes (.var 4))) (.tup (.cons (.var 7) .nil))) (.slc (.var 1) (.yes (.var 4)) .no)) (.nm 7) (.e (.var 2)) [7] .no
def f11_c1 : TB.E := .lc (.bin .Add (.bin .Add (.slc (.var 1) .no (.yes (.var 4))) (.tup (.cons (.var 7) .nil))) (.slc (.var 1) (.yes (.bin .Add (.var 4) (.cn (.int 1)))) .no)) (.nm 7) (.e (.var 2)) [7] .no
def f11 : TB.Fn := ⟨2, 8, (.cons (.asgP [4, 5, 6] (.cons (.call 5 (.cons (.var 0) (.cons (.bi .len (.cons (.var 1) .nil)) .nil))) (.cons (.call 5 (.cons (.var 0) (.cons (.bi .len (.cons (.var 1) .nil)) .nil))) (.cons (.call 5 (.cons (.var 0) (.cons (.cn (.int 11)) .nil))) .nil)))) (.cons (.asg 2 (.lst (.cons (.cn (.bool true)) (.cons (.cn (.bool false)) (.cons (.cn .none) (.cons (.neg (.cn (.int 1))) (.cons (.cn (.int 10)) (.cons (.bin .Pow (.cn (.int 10)) (.cn (.int 30))) (.cons (.neg (.bin .Pow (.cn (.int 10)) (.cn (.int 30)))) (.cons (.cn (.str "1")) (.cons (.tup (.cons (.cn (.int 1)) .nil)) (.cons (.lst (.cons (.cn (.int 1)) .nil)) (.cons .dnew (.cons (.var 6) .nil))))))))))))) false) (.cons (.asg 3 f11_c1 false) (.cons (.asg 3 (.bin .Add (.var 3) f11_c0) false) (.cons (.asg 3 (.bin .Add (.var 3) (.lst (.cons (.bin .Add (.slc (.var 1) .no (.yes (.var 4))) (.slc (.var 1) (.yes (.bin .Add (.var 4) (.cn (.int 1)))) .no)) (.cons (.bin .Add (.var 1) (.slc (.var 1) (.yes (.var 5)) (.yes (.bin .Add (.var 5) (.cn (.int 1)))))) (.cons (.back (.var 1)) (.cons (.bi .list (.cons (.var 1) .nil)) (.cons (.bin .Add (.var 1) (.tup (.cons (.cn (.int 9)) .nil))) (.cons (.tup (.cons (.var 6) .nil)) .nil)))))))) false) (.cons (.asg 3 (.bin .Add (.var 3) (.lst (.cons (.bin .Add (.bin .Add (.slc (.var 1) .no (.yes (.var 4))) (.slc (.var 1) (.yes (.var 5)) (.yes (.bin .Add (.var 5) (.cn (.int 1)))))) (.slc (.var 1) (.yes (.bin .Add (.var 4) (.cn (.int 1)))) .no)) (.cons (.tup (.cons (.var 1) .nil)) (.cons (.idx (.var 1) (.var 4)) (.cons (.tup (.cons (.cn (.int 0)) (.cons (.cn (.int 1)) (.cons (.cn (.int 2)) (.cons (.cn (.int 3)) (.cons (.cn (.int 4)) .nil)))))) .nil)))))) false) (.cons (.asg 3 (.bin .Add (.var 3) (.lst (.cons (.tup (.cons (.cn (.int 0)) (.cons (.cn (.int 1)) (.cons (.cn (.int 2)) (.cons (.cn (.int 3)) (.cons (.cn (.int 4)) (.cons (.cn (.int 5)) .nil))))))) (.cons (.tup (.cons (.cn (.int 5)) (.cons (.cn (.int 6)) (.cons (.cn (.int 7)) (.cons (.cn (.int 8)) (.cons (.cn (.int 9)) (.cons (.cn (.int 9)) .nil))))))) (.cons (.bi .tuple (.cons (.bi .sortedset (.cons (.bin .Add (.var 1) (.tup (.cons (.var 6) .nil))) .nil)) .nil)) .nil))))) false) (.cons (.ret (.bin .Add (.var 3) (.lst (.cons (.tup .nil) (.cons (.lst .nil) (.cons .dnew (.cons (.cn .none) (.cons (.cn (.int 0)) (.cons (.cn (.str "")) (.cons (.cn (.str "012")) (.cons (.cn (.bool true)) (.cons (.tup (.cons (.tup .nil) .nil)) .nil)))))))))))) .nil))))))))⟩
/-- law: 0 _law_script 1 _law_cell_here 2 _law_pen_here 3 _law_face 4 _law_thing 5 _law_found -/
def f12_b1 : TB.Ss := (.cons (.asg 5 (.call 4 (.cons (.var 4) .nil)) false) (.cons (.ife (.or (.not (.isin (.var 5) .bool)) (.cmp .NotEq (.var 5) (.call 9 (.cons (.var 4) .nil)))) (.cons (.ret (.cn (.bool false))) .nil) .nil) .nil))
def f12_l1 : TB.S := .fori (.nm 4) (.e (.call 11 (.cons (.var 2) (.cons (.var 3) .nil)))) f12_b1
def f12_b0 : TB.Ss := (.cons (.asg 2 (.call 7 (.cons (.var 1) .nil)) true) (.cons (.asg 3 (.call 10 (.cons (.var 2) .nil)) false) (.cons (.ife (.cmp .IsNot (.call 4 (.cons (.var 3) .nil)) (.cn (.bool true))) (.cons (.ret (.cn (.bool false))) .nil) .nil) (.cons f12_l1 .nil))))
def f12_l0 : TB.S := .fori (.nm 1) (.e (.bin .Add (.lst (.cons (.call 6 (.cons (.var 0) (.cons (.cn (.int 0)) .nil))) .nil)) (.slc (.var 0) (.yes (.cn (.int 1))) (.yes (.cn (.int 6)))))) f12_b0
def f12 : TB.Fn := ⟨1, 6, (.cons f12_l0 (.cons (.ret (.cn (.bool true))) .nil))⟩
def fs : List TB.Fn := [f0, f1, f2, f3, f4, f5, f6, f7, f8, f9, f10, f11, f12]
def Ns : List (List PySem.Str) := [["thing"], ["thing", "least", "most"], ["some", "one", "other"], ["thing", "point"], ["thing"], ["_law_pen_here", "_law_many", "_law_stir", "_law_later", "_law_found"], ["_law_script", "_law_k"], ["_law_cell_here", "_law_left_over"], ["_law_thing"], ["_law_thing", "_law_k", "_law_one"], ["_law_pen_here", "_law_mask", "_law_point"], ["_law_pen_here", "_law_face", "_law_odds", "_law_found", "_law_at", "_law_to", "_law_more", "_law_odd"], ["_law_script", "_law_cell_here", "_law_pen_here", "_law_face", "_law_thing", "_law_found"]]
def gi : List (PySem.Str × Int) := [("MOST_POINT", 9), ("MOST_POINTS", 5)]
def G : List TB.D := gi.map fun p => .int p.2
def lawIx : Nat := 12
def top (i : Nat) : PySem.Stmt := (PySem.W.OpenLaw.row PySem.Challenge.rw_pairaway_k01_what_is_a_face).prog.main.body.getD i (.Pass ⟨0, 0, 0, 0⟩)
def ixs : List Nat := [3, 4, 5, 6, 8, 10, 11, 12, 13, 14, 15, 16, 17]
abbrev sts : List PySem.Stmt := ixs.map top
end L
namespace L
open PySem TB
theorem g0 : G[0]? = some (.int 9) := rfl
theorem g1 : G[1]? = some (.int 5) := rfl
theorem run0 (n : Nat) (d : TB.D) (st : Sto) : callF fs G (n + 1) 0 [.d d] st = .ok (.d (.bool (wholeB d))) st := by
  rw [callF_of (fn := f0) rfl rfl]
  cases h1 : isTy .int d <;> simp [f0, startE, h1, wholeB]
theorem run8 (n : Nat) (d : TB.D) (st : Sto) : callF fs G (n + 1) 8 [.d d] st = .ok (.d (.bool (wholeB d))) st := by
  rw [callF_of (fn := f8) rfl rfl]
  cases h1 : isTy .int d <;> simp [f8, startE, h1, wholeB]
theorem run1 (n : Nat) (d : TB.D) (lo hi : Int) (st : Sto) : callF fs G (n + 2) 1 [.d d, .d (.int lo), .d (.int hi)] st = .ok (.d (.bool (fromB lo hi d))) st := by
  rw [callF_of (fn := f1) rfl rfl]
  cases hd : wholeB d with
  | false => cases d <;> simp [wholeB, isTy] at hd <;> simp [f1, startE, run0, wholeB, isTy, fromB]
  | true =>
    obtain ⟨j, rfl⟩ := wholeB_of hd
    by_cases h1 : lo ≤ j <;> simp [f1, startE, run0, wholeB, isTy, fromB, h1]
theorem run2 (n : Nat) (ns : List Int) (st : Sto) : callF fs G (n + 1) 2 [.d (.tuple (ns.map .int))] st = .ok (.d (.bool (riseB ns))) st := by
  rw [callF_of (fn := f2) rfl rfl]
  have hc : ev (callF fs G n) G f2_a0 [some (.d (.tuple (ns.map .int))), none, none] st = .ok (.d (.bool (riseB ns))) st := by
    rw [← pairs_rise ns]
    refine ev_all (ev_lc (xs := (pairsI ns).map fun p => .tuple [.int p.1, .int p.2]) ?_ (compL_of fun p _ => ?_))
    · simp [cut_tail, zipD]
      rw [← zip_pairs]
      simp
    · simp [lcStep, bindT, storeT, wipeE]
  simp [f2, startE, hc]
theorem run3 (n : Nat) (d : TB.D) (st : Sto) : callF fs G (n + 3) 3 [.d d] st = .ok (.d (.bool (faceB d))) st := by
  rw [callF_of (fn := f3) rfl rfl]
  cases ht : isTy .tuple d with
  | false =>
    have hf : faceB d = false := by cases d <;> first | rfl | cases ht
    simp [f3, startE, evT_def, ht, hf]
  | true =>
    obtain ⟨xs, rfl⟩ : ∃ xs, d = .tuple xs := by cases d <;> first | exact ⟨_, rfl⟩ | cases ht
    by_cases l1 : 1 ≤ xs.length
    · have l1' : (1 : Int) ≤ xs.length := by omega
      by_cases l2 : xs.length ≤ 5
      · have l2' : (xs.length : Int) ≤ 5 := by omega
        have hc : ev (callF fs G (n + 2)) G f3_a0 [some (.d (.tuple xs)), none] st = .ok (.d (.bool (xs.all (fromB 0 9)))) st := by
          refine ev_all (ev_lc (xs := xs) (by simp [seqD]) (compL_all fun x _ => ?_))
          simp [lcStep, bindT, wipeE, g0, run1]
        cases ha : xs.all (fromB 0 9) with
        | false =>
          have hf : faceB (.tuple xs) = false := by simp only [faceB, ha, Bool.and_false, Bool.false_and]
          rw [ha] at hc
          simp [f3, startE, evT_def, ht, hf, hc, l1', l2', g1]
        | true =>
          rw [ha] at hc
          obtain ⟨ns, rfl, _⟩ := from_ints ha
          have hf : faceB (.tuple (ns.map .int)) = riseB ns := by
            simp only [faceB, ha, ints_map, decide_eq_true l1, decide_eq_true l2, Bool.true_and]
          have e := run2 (n + 1) ns st
          rw [hf]
          rw [List.length_map] at l1' l2'
          simp [f3, startE, evT_def, ht, hc, g1, l1', l2', e]
      · have hf : faceB (.tuple xs) = false := by simp [faceB, l2]
        have l2' : ¬ ((xs.length : Int) ≤ 5) := by omega
        simp [f3, startE, evT_def, ht, hf, l1', l2', g1]
    · have hf : faceB (.tuple xs) = false := by simp [faceB, l1]
      have l1' : ¬ ((1 : Int) ≤ xs.length) := by omega
      simp [f3, startE, evT_def, ht, hf, l1']
theorem run4 (n : Nat) (d : TB.D) (st : Sto) : callF fs G (n + 4) 4 [.d d] st = .ok (.d (.bool (faceB d))) st := by
  rw [callF_of (fn := f4) rfl rfl]
  simp [f4, startE, run3]
theorem rise_bound {lo hi : Int} : ∀ {ns : List Int} {a : Int} {r : List Int}, ns = a :: r → riseB ns = true → lo ≤ a → (∀ b, ns.getLast? = some b → b ≤ hi) → ∀ k ∈ ns, lo ≤ k ∧ k ≤ hi
  | _, a, [], rfl, _, h1, h2 => fun k hk => by
    have : k = a := by simpa using hk
    subst this
    exact ⟨h1, h2 k rfl⟩
  | _, a, b :: r, rfl, h, h1, h2 => fun k hk => by
    rw [riseB, Bool.and_eq_true, decide_eq_true_eq] at h
    have ih := rise_bound (lo := lo) (hi := hi) (ns := b :: r) rfl h.2 (by omega) (fun c hc => h2 c (by rw [List.getLast?_cons_cons]; exact hc))
    rcases List.mem_cons.mp hk with rfl | hk
    · exact ⟨h1, by have := ih b (List.mem_cons_self ..); omega⟩
    · exact ih k hk
theorem face_ints (ns : List Int) (a : Int) (r : List Int) (e : ns = a :: r) (l2 : ns.length ≤ 5) : faceB (.tuple (ns.map .int)) = (!(decide (a < 0) || decide (9 < ns.getLastD 0)) && riseB ns) := by
  have h1 : 1 ≤ ns.length := by rw [e]; simp
  simp only [faceB, ints_map, List.length_map, decide_eq_true h1, decide_eq_true l2, Bool.true_and]
  cases hr : riseB ns with
  | false => simp
  | true =>
    rw [Bool.and_true, Bool.and_true]
    have hl : ∃ b, ns.getLast? = some b ∧ ns.getLastD 0 = b ∧ b ∈ ns := by
      rw [List.getLastD_eq_getLast?]
      cases h : ns.getLast? with
      | none => rw [e] at h; simp at h
      | some b => exact ⟨b, rfl, rfl, List.mem_of_getLast? h⟩
    obtain ⟨b, hb, hd, hm⟩ := hl
    rw [hd]
    by_cases q : 0 ≤ a ∧ b ≤ 9
    · have := all_from (rise_bound (lo := 0) (hi := 9) e hr q.1 fun c hc => by rw [hb] at hc; cases hc; exact q.2)
      rw [this]
      simp only [decide_eq_false (show ¬ a < 0 by omega), decide_eq_false (show ¬ 9 < b by omega)]
      rfl
    · have : (ns.map PyData.int).all (fromB 0 9) = false := by
        cases h : (ns.map PyData.int).all (fromB 0 9) with
        | false => rfl
        | true =>
          rw [List.all_map, List.all_eq_true] at h
          have ha := h a (by rw [e]; exact List.mem_cons_self ..)
          have hb' := h b hm
          simp [fromB] at ha hb'
          exact absurd ⟨ha.1, hb'.2⟩ q
      rw [this]
      by_cases qa : a < 0
      · simp [qa]
      · have : 9 < b := by omega
        simp [this]
theorem run9 (n : Nat) (d : TB.D) (st : Sto) : callF fs G (n + 2) 9 [.d d] st = .ok (.d (.bool (faceB d))) st := by
  rw [callF_of (fn := f9) rfl rfl]
  cases ht : isTy .tuple d with
  | false =>
    have hf : faceB d = false := by cases d <;> first | rfl | cases ht
    simp [f9, startE, evT_def, ht, hf]
  | true =>
    obtain ⟨xs, rfl⟩ : ∃ xs, d = .tuple xs := by cases d <;> first | exact ⟨_, rfl⟩ | cases ht
    by_cases l1 : 1 ≤ xs.length
    · have l1' : (1 : Int) ≤ xs.length := by omega
      by_cases l2 : xs.length ≤ 5
      · have l2' : (xs.length : Int) ≤ 5 := by omega
        have hc : ev (callF fs G (n + 1)) G f9_a1 [some (.d (.tuple xs)), none, none] st = .ok (.d (.bool (xs.all wholeB))) st := by
          refine ev_all (ev_lc (xs := xs) (by simp [seqD]) (compL_all fun x _ => ?_))
          simp [lcStep, bindT, wipeE, run8]
        cases ha : xs.all wholeB with
        | false =>
          have hf : faceB (.tuple xs) = false := by
            have : xs.all (fromB 0 9) = false := by
              cases h : xs.all (fromB 0 9) with
              | false => rfl
              | true =>
                obtain ⟨ns, rfl, _⟩ := from_ints h
                have : (ns.map PyData.int).all wholeB = true := by rw [List.all_map, List.all_eq_true]; intro k _; rfl
                rw [this] at ha; cases ha
            simp only [faceB, this, Bool.and_false, Bool.false_and]
          rw [ha] at hc
          simp [f9, startE, evT_def, ht, hf, hc, l1', l2']
        | true =>
          rw [ha] at hc
          obtain ⟨ns, rfl⟩ := whole_ints ha
          rw [List.length_map] at l1 l2 l1' l2'
          obtain ⟨a, r, e⟩ : ∃ a r, ns = a :: r := by
            cases ns with
            | nil => simp at l1
            | cons a r => exact ⟨a, r, rfl⟩
          have hr : ev (callF fs G (n + 1)) G f9_a0 [some (.d (.tuple (ns.map .int))), none, none] st = .ok (.d (.bool (riseB ns))) st := by
            rw [← rise_ix ns]
            refine ev_all (ev_lc (xs := (List.range (ns.length - 1)).map fun k : Nat => PyData.int k) ?_ (compL_of fun k hk => ?_))
            · have h0 : ((ns.length : Int) - 1).toNat = ns.length - 1 := by omega
              have h1 : smallB ((ns.length : Int) - 1) = true := by simp [smallB]; omega
              simp [h1, h0, rangeL_map]
            · have hk := List.mem_range.mp hk
              have p1 : TB.placeOf ns.length (k : Int) = some k := by unfold TB.placeOf; rw [if_pos (by omega), if_pos (by omega)]; rfl
              have p2 : TB.placeOf ns.length ((k : Int) + 1) = some (k + 1) := by unfold TB.placeOf; rw [if_pos (by omega), if_pos (by omega)]; rfl
              have e1 : ns[k]? = some (ns.getD k 0) := by simp [List.getElem?_eq_getElem (show k < ns.length by omega)]
              have e2 : ns[k + 1]? = some (ns.getD (k + 1) 0) := by simp [List.getElem?_eq_getElem (show k + 1 < ns.length by omega)]
              simp only [lcStep, bindT, wipeE, List.set_cons_succ, List.set_cons_zero, ofO_some, Res.bind_ok, evC_no, if_true, ev_cmp, ev_idx, ev_var, ev_bin, ev_cn, List.getElem?_cons_zero, List.getElem?_cons_succ, peek_d, Option.bind_some, get_tup, List.length_map, p1, p2, add_int, List.getElem?_map, e1, e2, Option.map_some, cmp_lt_int, val_d]
          rw [face_ints ns a r e l2]
          have q0 : TB.placeOf ns.length 0 = some 0 := by unfold TB.placeOf; rw [if_pos (by omega), if_pos (by omega)]; rfl
          have q1 : TB.placeOf ns.length (-1) = some (ns.length - 1) := by unfold TB.placeOf; rw [if_neg (by omega), if_pos (by omega)]; congr 1; omega
          have e0 : ns[0]? = some a := by rw [e]; rfl
          have e1 : ns[ns.length - 1]? = some (ns.getLastD 0) := by
            subst e
            rw [List.getLastD_eq_getLast?, ← List.getLast?_eq_getElem?]
            cases h : (a :: r).getLast? with
            | none => simp at h
            | some b => rfl
          by_cases n1 : a < 0
          · simp [f9, startE, evT_def, ht, hc, hr, l1', l2', q0, e0, n1]
          · by_cases n2 : 9 < ns.getLastD 0
            · simp only [List.getLastD_eq_getLast?] at n2 e1
              simp [f9, startE, evT_def, ht, hc, hr, l1', l2', q0, e0, n1, q1, e1, n2]
            · simp only [List.getLastD_eq_getLast?] at n2 e1
              simp [f9, startE, evT_def, ht, hc, hr, l1', l2', q0, e0, n1, q1, e1, n2]
      · have hf : faceB (.tuple xs) = false := by simp [faceB, l2]
        have l2' : ¬ ((xs.length : Int) ≤ 5) := by omega
        simp [f9, startE, evT_def, ht, hf, l1', l2']
    · have hf : faceB (.tuple xs) = false := by simp [faceB, l1]
      have l1' : ¬ ((1 : Int) ≤ xs.length) := by omega
      simp [f9, startE, evT_def, ht, hf, l1']
theorem run6 (n : Nat) (ns : List Int) (k : Nat) (st : Sto) : callF fs G (n + 1) 6 [.d (.list (ns.map .int)), .d (.int k)] st = .ok (.d (.int (ns.getD k 0))) st := by
  rw [callF_of (fn := f6) rfl rfl]
  by_cases h : k < ns.length
  · have h' : (k : Int) < ns.length := by omega
    have p : TB.placeOf ns.length (k : Int) = some k := by unfold TB.placeOf; rw [if_pos (by omega), if_pos (by omega)]; rfl
    simp [f6, startE, evT_def, h, h', p]
  · have h' : ¬ (k : Int) < ns.length := by omega
    have e : ns.getD k 0 = 0 := by simp [List.getElem?_eq_none (show ns.length ≤ k by omega)]
    rw [e]
    simp [f6, startE, evT_def, h, h']
theorem run7 (n : Nat) (c : Int) (st : Sto) : ∃ p f, 0 ≤ p ∧ callF fs G (n + 1) 7 [.d (.int c)] st = .ok (.r st.length) (st ++ [pen p f]) := by
  rw [callF_of (fn := f7) rfl rfl]
  refine ⟨if 0 - c > c then 0 - c else c, if decide (10 ^ 18 ≤ (if 0 - c > c then 0 - c else c)) = true then 1 else 0, by split <;> omega, ?_⟩
  have hp : powOk 10 18 = true := by decide
  have hx : ex (callF fs G n) G (.retN (.lst (.cons (.var 1) (.cons (.bi .int (.cons (.cmp .GtE (.var 1) (.bin .Pow (.cn (.int 10)) (.cn (.int 18)))) .nil)) .nil)))) [some (.d (.int c)), some (.d (.int (if 0 - c > c then 0 - c else c)))] st = .ok (.rt (.r st.length)) (st ++ [pen (if 0 - c > c then 0 - c else c) (if decide (10 ^ 18 ≤ (if 0 - c > c then 0 - c else c)) = true then 1 else 0)]) := by
    rw [ex]
    simp [hp, freshE, newOb, pen]
  have e0 : exs (callF fs G n) G f7.body (startE f7.nn [.d (.int c)]) st = (ex (callF fs G n) G (.retN (.lst (.cons (.var 1) (.cons (.bi .int (.cons (.cmp .GtE (.var 1) (.bin .Pow (.cn (.int 10)) (.cn (.int 18)))) .nil)) .nil)))) [some (.d (.int c)), some (.d (.int (if 0 - c > c then 0 - c else c)))] st).bind fun f st1 => match f with
      | .nx σ1 => exs (callF fs G n) G .nil σ1 st1
      | .rt w => .ok (.rt w) st1 := by
    simp [f7, startE] <;> rfl
  rw [e0, hx]
  simp [TB.finish]
theorem run5 (n : Nat) (p f m : Int) (a : Nat) (st : Sto) (ha : st[a]? = some (pen p f)) (hp : 0 ≤ p) (hm : 0 < m) (hm2 : m < 1073741824) :
    ∃ v p', 0 ≤ v ∧ v < m ∧ 0 ≤ p' ∧ callF fs G (n + 1) 5 [.r a, .d (.int m)] st = .ok (.d (.int v)) (st.set a (pen p' f)) := by
  rw [callF_of (fn := f5) rfl rfl]
  have ha' : st[a]? = some (.lst [.int p, .int f]) := ha
  have hl : a < st.length := (List.getElem?_eq_some_iff.mp ha).1
  have p0 : TB.placeOf 2 0 = some 0 := by decide
  have p1 : TB.placeOf 2 1 = some 1 := by decide
  have pk : peek (.r a) st = some (.list [.int p, .int f]) := by simp [peek, ha']
  have ch : ∀ (σ : Ev) (v : Int), σ[0]? = some (some (.r a)) → change σ 0 (fun ob => setSlot ob (.int 0) (.int v)) st = some (st.set a (pen v f)) := fun σ v h => by
    simp [change, atVar, h, ha', setSlot, p0, pen]
  by_cases h : f = 1
  · subst h
    refine ⟨p % m, p / m, Int.emod_nonneg _ (by omega), Int.emod_lt_of_pos _ hm, Int.ediv_nonneg hp (by omega), ?_⟩
    simp [f5, startE, evT_def, pk, p1, p0, hm, hm2, storeT, atVar, ch]
  · have q1 : (0 : Int) < 2147483629 := by decide
    obtain ⟨s1, hs1⟩ : ∃ s1, s1 = (p % 2147483647 + 40503) * 69621 % 2147483629 := ⟨_, rfl⟩
    have b1 : 0 ≤ s1 ∧ s1 < 2147483629 := by rw [hs1]; exact ⟨Int.emod_nonneg _ (by decide), Int.emod_lt_of_pos _ (by decide)⟩
    obtain ⟨s2, hs2⟩ : ∃ s2, s2 = (s1 * s1 + 7817) % 2147483587 := ⟨_, rfl⟩
    have b2 : 0 ≤ s2 ∧ s2 < 2147483587 := by rw [hs2]; exact ⟨Int.emod_nonneg _ (by decide), Int.emod_lt_of_pos _ (by decide)⟩
    obtain ⟨s3, hs3⟩ : ∃ s3, s3 = (s2 * 48271 + 11) % 2147483629 := ⟨_, rfl⟩
    have b3 : 0 ≤ s3 := by rw [hs3]; exact Int.emod_nonneg _ (by decide)
    have m1 : mulOk (p % 2147483647 + 40503) 69621 = true := by simp [mulOk]
    have m2 : mulOk s1 s1 = true := by simp [mulOk]; omega
    have m3 : mulOk s2 48271 = true := by simp [mulOk]
    have pk3 : peek (.r a) (st.set a (pen s3 f)) = some (.list [.int s3, .int f]) := by simp [peek, List.getElem?_set_self hl, pen]
    refine ⟨s3 / 32 % m, s3, Int.emod_nonneg _ (by omega), Int.emod_lt_of_pos _ hm, b3, ?_⟩
    simp [f5, startE, evT_def, pk, p1, p0, h, m1, ← hs1, m2, ← hs2, m3, ← hs3, atVar, ch, pk3, hm]
theorem compL_mapF {α : Type} {step : TB.D → Sto → Res (Option TB.D)} {h : α → TB.D} {g : α → Option TB.D} {st : Sto} : ∀ {xs : List α}, (∀ x ∈ xs, step (h x) st = .ok (g x) st) → compL step (xs.map h) st = .ok (xs.filterMap g) st
  | [], _ => rfl
  | x :: xs, k => by
    rw [List.map_cons, compL, k x (List.mem_cons_self ..), Res.bind_ok, compL_mapF fun y hy => k y (List.mem_cons_of_mem _ hy), Res.bind_ok, List.filterMap_cons]
    cases g x <;> rfl
def bitOn (m : Int) (k : Nat) : Bool := decide (Builtin.bitAnd (m / 2 ^ k) 1 = 1)
def bitsL (m : Int) : List TB.D := (List.range 10).filterMap fun k => if bitOn m k then some (.int k) else none
def bitsOk (m : Nat) : Bool := (List.range 5).all fun j => faceB (.tuple ((bitsL ((m : Int) + 1)).take (j + 1)))
theorem bits_ok : (List.range 1023).all bitsOk = true := by decide +kernel
theorem bits_face (v w : Int) (h1 : 0 ≤ v) (h2 : v < 1023) (h3 : 0 ≤ w) (h4 : w < 5) : faceB (.tuple (cutD (bitsL (1 + v)) none (some (1 + w)))) = true := by
  have a := List.all_eq_true.mp bits_ok v.toNat (List.mem_range.mpr (by omega))
  have b := List.all_eq_true.mp a w.toNat (List.mem_range.mpr (by omega))
  have e : ((v.toNat : Nat) : Int) + 1 = 1 + v := by omega
  rw [e] at b
  rw [← b]
  congr 2
  unfold cutD clipD
  simp only
  rw [if_neg (by omega), List.drop_zero, Nat.sub_zero]
  have e2 : (1 + w).toNat = w.toNat + 1 := by omega
  rw [e2, List.take_eq_take_iff]
  omega
theorem run10 (n : Nat) (p f : Int) (a : Nat) (st : Sto) (ha : st[a]? = some (pen p f)) (hp : 0 ≤ p) : ∃ xs p', faceB (.tuple xs) = true ∧ 0 ≤ p' ∧ callF fs G (n + 2) 10 [.r a] st = .ok (.d (.tuple xs)) (st.set a (pen p' f)) := by
  obtain ⟨v, p1, h1, h2, h3, e1⟩ := run5 n p f 1023 a st ha hp (by decide) (by decide)
  obtain ⟨w, p2, h4, h5, h6, e2⟩ := run5 n p1 f 5 a (st.set a (pen p1 f)) (set_get ha) h3 (by decide) (by decide)
  rw [List.set_set] at e2
  refine ⟨_, p2, bits_face v w h1 h2 h4 h5, h6, ?_⟩
  have hc : ev (callF fs G (n + 1)) G f10_c0 [some (.r a), some (.d (.int (1 + v))), none] (st.set a (pen p1 f)) = .ok (.d (.list (bitsL (1 + v)))) (st.set a (pen p1 f)) := by
    refine ev_lc (xs := (List.range 10).map fun k : Nat => PyData.int k) ?_ (compL_mapF fun k hk => ?_)
    · have : smallB 10 = true := by decide
      simp [this, rangeL_map]
    · have k0 : (0 : Int) ≤ (k : Int) := by omega
      cases hb : bitOn (1 + v) k with
      | true =>
        have hb' : Builtin.bitAnd ((1 + v) / 2 ^ k) 1 = 1 := of_decide_eq_true hb
        simp [lcStep, bindT, wipeE, k0, hb']
      | false =>
        have hb' : ¬ Builtin.bitAnd ((1 + v) / 2 ^ k) 1 = 1 := of_decide_eq_false hb
        simp [lcStep, bindT, wipeE, k0, hb']
  rw [callF_of (fn := f10) rfl rfl]
  simp [f10, startE, e1, hc, e2]
theorem face_of {xs : List TB.D} (h : faceB (.tuple xs) = true) : 1 ≤ xs.length ∧ xs.length ≤ 5 ∧ ∃ ns : List Int, xs = ns.map .int := by
  simp only [faceB, Bool.and_eq_true, decide_eq_true_eq] at h
  obtain ⟨ns, e, _⟩ := from_ints h.1.2
  exact ⟨h.1.1.1, h.1.1.2, ns, e⟩
theorem run11 (n : Nat) (p f : Int) (a : Nat) (st : Sto) (xs : List TB.D) (ha : st[a]? = some (pen p f)) (hp : 0 ≤ p) (hx : faceB (.tuple xs) = true) :
    ∃ ds p', 0 ≤ p' ∧ callF fs G (n + 2) 11 [.r a, .d (.tuple xs)] st = .ok (.d (.list ds)) (st.set a (pen p' f)) := by
  obtain ⟨l1, l2, ns, en⟩ := face_of hx
  obtain ⟨v1, p1, h1, h2, h3, e1⟩ := run5 n p f xs.length a st ha hp (by omega) (by omega)
  obtain ⟨v2, p2, h4, h5, h6, e2⟩ := run5 n p1 f xs.length a (st.set a (pen p1 f)) (set_get ha) h3 (by omega) (by omega)
  rw [List.set_set] at e2
  obtain ⟨v3, p3, h7, h8, h9, e3⟩ := run5 n p2 f 11 a (st.set a (pen p2 f)) (set_get ha) h6 (by decide) (by decide)
  rw [List.set_set] at e3
  have key : ∃ ds, callF fs G (n + 2) 11 [.r a, .d (.tuple xs)] st = .ok (.d (.list ds)) (st.set a (pen p3 f)) := by
    rw [callF_of (fn := f11) rfl rfl]
    have hpar : ex (callF fs G (n + 1)) G (.asgP [4, 5, 6] (.cons (.call 5 (.cons (.var 0) (.cons (.bi .len (.cons (.var 1) .nil)) .nil))) (.cons (.call 5 (.cons (.var 0) (.cons (.bi .len (.cons (.var 1) .nil)) .nil))) (.cons (.call 5 (.cons (.var 0) (.cons (.cn (.int 11)) .nil))) .nil)))) (startE f11.nn [.r a, .d (.tuple xs)]) st
        = .ok (.nx [some (.r a), some (.d (.tuple xs)), none, none, some (.d (.int v1)), some (.d (.int v2)), some (.d (.int v3)), none]) (st.set a (pen p3 f)) := by
      simp [f11, startE, e1, e2, e3, storeT]
    refine step_nx (P := fun R => ∃ ds, R.bind (TB.finish st.length) = .ok (.d (.list ds)) (st.set a (pen p3 f))) hpar ?_
    refine step_lst (P := fun R => ∃ ds, R.bind (TB.finish st.length) = .ok (.d (.list ds)) (st.set a (pen p3 f)))
      (lst_lst (ac (any_cn _) (ac (any_cn _) (ac (any_cn _) (ac (int_neg (int_cn 1)).any (ac (any_cn _) (ac (int_pow (by decide)).any (ac (int_neg (int_pow (by decide))).any (ac (any_cn _) (ac (tup_tup (ac (any_cn _) an)).any (ac (lst_lst (ac (any_cn _) an)).any (ac any_dnew (ac (any_var rfl) an))))))))))))) fun os hos => ?_
    have hos : os.length ≤ 12 := hos
    refine step_lst (m := 12) (P := fun R => ∃ ds, R.bind (TB.finish st.length) = .ok (.d (.list ds)) (st.set a (pen p3 f)))
      (lst_lc (xs := os) (by simp [seqD]) hos fun x _ => ⟨_, rfl, (tup_add (m := 6) (k := 5) (tup_add (m := 5) (k := 1) (tup_slc (tup_var rfl l2) intO_no (intO_yes (int_var rfl))) (tup_tup (ac (any_var rfl) an))) (tup_slc (tup_var rfl l2) (intO_yes (int_add (int_var rfl) (int_cn 1))) intO_no)).any⟩) fun fs1 hf1 => ?_
    refine step_lst (m := 24) (P := fun R => ∃ ds, R.bind (TB.finish st.length) = .ok (.d (.list ds)) (st.set a (pen p3 f)))
      (lst_add (m := 12) (k := 12) (lst_var rfl hf1) (lst_lc (xs := os) (by simp [seqD]) hos fun x _ => ⟨_, rfl, (tup_add (m := 6) (k := 5) (tup_add (m := 5) (k := 1) (tup_slc (tup_var rfl l2) intO_no (intO_yes (int_var rfl))) (tup_tup (ac (any_var rfl) an))) (tup_slc (tup_var rfl l2) (intO_yes (int_var rfl)) intO_no)).any⟩)) fun fs2 hf2 => ?_
    refine step_lst (m := 30) (P := fun R => ∃ ds, R.bind (TB.finish st.length) = .ok (.d (.list ds)) (st.set a (pen p3 f)))
      (lst_add (m := 24) (k := 6) (lst_var rfl hf2) (lst_lst
        (ac (tup_add (m := 5) (k := 5) (tup_slc (tup_var rfl l2) intO_no (intO_yes (int_var rfl))) (tup_slc (tup_var rfl l2) (intO_yes (int_add (int_var rfl) (int_cn 1))) intO_no)).any
        (ac (tup_add (m := 5) (k := 5) (tup_var rfl l2) (tup_slc (tup_var rfl l2) (intO_yes (int_var rfl)) (intO_yes (int_add (int_var rfl) (int_cn 1))))).any
        (ac (tup_back (m := 5) (tup_var rfl l2)).any
        (ac (lst_oftup (m := 5) (tup_var rfl l2)).any
        (ac (tup_add (m := 5) (k := 1) (tup_var rfl l2) (tup_tup (ac (any_cn _) an))).any
        (ac (tup_tup (ac (any_var rfl) an)).any an)))))))) fun fs3 hf3 => ?_
    refine step_lst (m := 34) (P := fun R => ∃ ds, R.bind (TB.finish st.length) = .ok (.d (.list ds)) (st.set a (pen p3 f)))
      (lst_add (m := 30) (k := 4) (lst_var rfl hf3) (lst_lst
        (ac (tup_add (m := 10) (k := 5) (tup_add (m := 5) (k := 5) (tup_slc (tup_var rfl l2) intO_no (intO_yes (int_var rfl))) (tup_slc (tup_var rfl l2) (intO_yes (int_var rfl)) (intO_yes (int_add (int_var rfl) (int_cn 1))))) (tup_slc (tup_var rfl l2) (intO_yes (int_add (int_var rfl) (int_cn 1))) intO_no)).any
        (ac (tup_tup (ac (any_var rfl) an)).any
        (ac (any_idxI (xs := xs) (j := v1) (by simp) (by simp) h1 h2)
        (ac (tup_tup (ac (any_cn _) (ac (any_cn _) (ac (any_cn _) (ac (any_cn _) (ac (any_cn _) an)))))).any an)))))) fun fs4 hf4 => ?_
    have hint : intsD (xs ++ [.int v3]) = some (ns ++ [v3]) := by rw [en, show ns.map PyData.int ++ [.int v3] = (ns ++ [v3]).map PyData.int by simp, ints_map]
    have hl1 : xs.length + 1 ≤ LIM := Nat.le_trans (show xs.length + 1 ≤ 6 by omega) (by decide)
    have hl2 : ns.length + 1 < 64 := by rw [en, List.length_map] at l2; omega
    refine step_lst (m := 37) (P := fun R => ∃ ds, R.bind (TB.finish st.length) = .ok (.d (.list ds)) (st.set a (pen p3 f)))
      (lst_add (m := 34) (k := 3) (lst_var rfl hf4) (lst_lst
        (ac (tup_tup (ac (any_cn _) (ac (any_cn _) (ac (any_cn _) (ac (any_cn _) (ac (any_cn _) (ac (any_cn _) an))))))).any
        (ac (tup_tup (ac (any_cn _) (ac (any_cn _) (ac (any_cn _) (ac (any_cn _) (ac (any_cn _) (ac (any_cn _) an))))))).any
        (ac ⟨_, by simp [hl1, hint, hl2]; rfl⟩ an))))) fun fs5 hf5 => ?_
    refine step_ret (m := 46) (P := fun R => ∃ ds, R.bind (TB.finish st.length) = .ok (.d (.list ds)) (st.set a (pen p3 f)))
      (lst_add (m := 37) (k := 9) (lst_var rfl hf5) (lst_lst
        (ac (tup_tup an).any (ac (lst_lst an).any (ac any_dnew (ac (any_cn _) (ac (any_cn _) (ac (any_cn _) (ac (any_cn _) (ac (any_cn _) (ac (tup_tup (ac (tup_tup an).any an)).any an))))))))))) fun ds => ⟨ds, by simp⟩
  obtain ⟨ds, e⟩ := key
  exact ⟨ds, p3, h9, e⟩
theorem inner (n : Nat) (ds : List TB.D) (w0 w1 w2 w3 w4 w5 : Option W) (st : Sto) : ∃ w4' w5', forL (forStep (callF fs G (n + 4)) G (.nm 4) f12_b1) ds [w0, w1, w2, w3, w4, w5] st = .ok (.nx [w0, w1, w2, w3, w4', w5']) st := by
  induction ds generalizing w4 w5 with
  | nil => exact ⟨w4, w5, rfl⟩
  | cons d ds ih =>
    obtain ⟨a, b, h⟩ := ih (some (.d d)) (some (.d (.bool (faceB d))))
    refine ⟨a, b, ?_⟩
    have e : forStep (callF fs G (n + 4)) G (.nm 4) f12_b1 d [w0, w1, w2, w3, w4, w5] st = .ok (.nx [w0, w1, w2, w3, some (.d d), some (.d (.bool (faceB d)))]) st := by
      have r9 := run9 (n + 2) d st
      cases hf : faceB d <;> rw [hf] at r9 <;> simp [forStep, bindT, f12_b1, run4, hf, evT_def, r9, isTy]
    rw [forL, e, Res.bind_ok]
    exact h
theorem outer (n : Nat) (cs : List Int) (w0 w1 w2 w3 w4 w5 : Option W) (st : Sto) : ∃ σ' st', forL (forStep (callF fs G (n + 4)) G (.nm 1) f12_b0) (cs.map .int) [w0, w1, w2, w3, w4, w5] st = .ok (.nx σ') st' := by
  induction cs generalizing w1 w2 w3 w4 w5 st with
  | nil => exact ⟨_, _, rfl⟩
  | cons c cs ih =>
    obtain ⟨p, f, hp, e7⟩ := run7 (n + 3) c st
    have hpen : (st ++ [pen p f])[st.length]? = some (pen p f) := by simp
    obtain ⟨xs, p1, hx, hp1, e10⟩ := run10 (n + 2) p f st.length _ hpen hp
    obtain ⟨ds, p2, hp2, e11⟩ := run11 (n + 2) p1 f st.length _ xs (set_get hpen) hp1 hx
    rw [List.set_set] at e11
    obtain ⟨w4', w5', ei⟩ := inner n ds w0 (some (.d (.int c))) (some (.r st.length)) (some (.d (.tuple xs))) w4 w5 ((st ++ [pen p f]).set st.length (pen p2 f))
    have hl : ex (callF fs G (n + 4)) G f12_l1 [w0, some (.d (.int c)), some (.r st.length), some (.d (.tuple xs)), w4, w5] ((st ++ [pen p f]).set st.length (pen p1 f)) = .ok (.nx [w0, some (.d (.int c)), some (.r st.length), some (.d (.tuple xs)), w4', w5']) ((st ++ [pen p f]).set st.length (pen p2 f)) := by
      refine (ex_for (xs := ds) (st1 := (st ++ [pen p f]).set st.length (pen p2 f)) ?_).trans ei
      simp only [evI_e, ev_call, evs_cons, evs_nil, ev_var, List.getElem?_cons_succ, List.getElem?_cons_zero, Res.bind_ok, e11, val_d, seqD, ofO_some]
    have hm : ex (callF fs G (n + 4)) G (.asg 2 (.call 7 (.cons (.var 1) .nil)) true) [w0, some (.d (.int c)), w2, w3, w4, w5] st = .ok (.nx [w0, some (.d (.int c)), some (.r st.length), w3, w4, w5]) (st ++ [pen p f]) := by
      rw [ex]
      simp [e7]
    obtain ⟨σ', st', e⟩ := ih (some (.d (.int c))) (some (.r st.length)) (some (.d (.tuple xs))) w4' w5' ((st ++ [pen p f]).set st.length (pen p2 f))
    refine ⟨σ', st', ?_⟩
    have r4 := run4 n (.tuple xs) ((st ++ [pen p f]).set st.length (pen p1 f))
    rw [hx] at r4
    have es : forStep (callF fs G (n + 4)) G (.nm 1) f12_b0 (.int c) [w0, w1, w2, w3, w4, w5] st = .ok (.nx [w0, some (.d (.int c)), some (.r st.length), some (.d (.tuple xs)), w4', w5']) ((st ++ [pen p f]).set st.length (pen p2 f)) := by
      simp only [forStep, bindT, ofO_some, Res.bind_ok, List.set_cons_succ, List.set_cons_zero, f12_b0]
      rw [exs_cons, hm, Res.bind_ok]
      simp only []
      rw [exs_cons]
      have h3 : ex (callF fs G (n + 4)) G (.asg 3 (.call 10 (.cons (.var 2) .nil)) false) [w0, some (.d (.int c)), some (.r st.length), w3, w4, w5] (st ++ [pen p f]) = .ok (.nx [w0, some (.d (.int c)), some (.r st.length), some (.d (.tuple xs)), w4, w5]) ((st ++ [pen p f]).set st.length (pen p1 f)) := by
        simp only [ex_asg, ev_call, evs_cons, evs_nil, ev_var, List.getElem?_cons_succ, List.getElem?_cons_zero, Res.bind_ok, e10, val_d, List.set_cons_succ, List.set_cons_zero]
      rw [h3, Res.bind_ok]
      simp only []
      rw [exs_cons]
      have h4 : ex (callF fs G (n + 4)) G (.ife (.cmp .IsNot (.call 4 (.cons (.var 3) .nil)) (.cn (.bool true))) (.cons (.ret (.cn (.bool false))) .nil) .nil) [w0, some (.d (.int c)), some (.r st.length), some (.d (.tuple xs)), w4, w5] ((st ++ [pen p f]).set st.length (pen p1 f)) = .ok (.nx [w0, some (.d (.int c)), some (.r st.length), some (.d (.tuple xs)), w4, w5]) ((st ++ [pen p f]).set st.length (pen p1 f)) := by
        simp only [ex_ife, evT_def, ev_cmp, ev_call, evs_cons, evs_nil, ev_var, ev_cn, List.getElem?_cons_succ, List.getElem?_cons_zero, Res.bind_ok, r4, peek_d, Option.bind_some, cmp_isnot_bool, Option.map_some, ofO_some, truthW_b]
        rfl
      rw [h4, Res.bind_ok]
      simp only []
      rw [exs_cons, hl, Res.bind_ok]
      simp only [exs_nil]
    rw [List.map_cons, forL, es, Res.bind_ok]
    exact e
theorem says : TB.Says fs G 20 lawIx 63 := by
  intro ns hns
  have r6 := run6 18 ns 0 []
  obtain ⟨σ', st', e⟩ := outer 15 (ns.getD 0 0 :: (((ns.drop (TB.clipD ns.length 0 (some 1))).take (TB.clipD ns.length ns.length (some 6) - TB.clipD ns.length 0 (some 1))))) (some (.d (.list (ns.map .int)))) none none none none none []
  have hcut : cutD (ns.map PyData.int) (some 1) (some 6) = ((ns.drop (TB.clipD ns.length 0 (some 1))).take (TB.clipD ns.length ns.length (some 6) - TB.clipD ns.length 0 (some 1))).map PyData.int := by
    simp only [cutD, List.length_map, List.map_take, List.map_drop]
  have hlen : 1 + (cutD (ns.map PyData.int) (some 1) (some 6)).length ≤ LIM := by
    have := cut_le (ns.map PyData.int) (some 1) (some 6)
    rw [List.length_map] at this
    exact Nat.le_trans (show _ ≤ 64 by omega) (by decide)
  refine ⟨[], ?_⟩
  rw [show (20 : Nat) = 19 + 1 from rfl, callF_of (fn := f12) rfl rfl]
  have hl : ex (callF fs G 19) G f12_l0 (startE f12.nn [.d (.list (ns.map .int))]) [] = .ok (.nx σ') st' := by
    refine (ex_for (xs := (ns.getD 0 0 :: (((ns.drop (TB.clipD ns.length 0 (some 1))).take (TB.clipD ns.length ns.length (some 6) - TB.clipD ns.length 0 (some 1))))).map .int) (st1 := []) ?_).trans e
    rw [List.map_cons, ← hcut]
    simp only [evI_e, ev_bin, ev_lst, evD_cons, evD_nil, ev_call, evs_cons, evs_nil, ev_var, ev_cn, ev_slc, evO_yes, startE, f12, List.map_cons, List.map_nil, List.length_cons, List.length_nil, List.cons_append, List.nil_append, List.getElem?_cons_zero, Res.bind_ok, r6, val_d, peek_d, Option.bind_some, slice_list, Option.map_some, ofO_some, add_list, seqD]
    have r6' : callF fs G 19 6 [.d (.list (ns.map .int)), .d (.int 0)] [] = .ok (.d (.int (ns.getD 0 0))) [] := r6
    rw [r6']
    have hlen' : [PyData.int (ns.getD 0 0)].length + (cutD (ns.map PyData.int) (some 1) (some 6)).length ≤ LIM := hlen
    simp only [Res.bind_ok, val_d, peek_d, Option.bind_some, add_list]
    rw [if_pos hlen']
    rfl
  have e0 : exs (callF fs G 19) G f12.body (startE f12.nn [.d (.list (ns.map .int))]) [] = .ok (.rt (.d (.bool true))) st' := by
    simp only [f12] at hl ⊢
    rw [exs_cons, hl, Res.bind_ok]
    simp
  rw [e0]
  simp [TB.finish]
end L
namespace L
open PySem PySem.Spec PyProof.Rows L2
abbrev names : List PySem.Str := sts.map fun s => (TB.mkD s).name
theorem chk : TB.chkB names (gi.map (·.1)) (sts.map TB.mkD) fs Ns = true := by decide +kernel
theorem bnd : TB.BindAll (sts.map TB.mkD) := ⟨(fun _ _ _ _ _ _ us hl => match us, hl with | [_], _ => rfl), (fun _ _ _ _ _ _ us hl => match us, hl with | [_, _, _], _ => rfl), (fun _ _ _ _ _ _ us hl => match us, hl with | [_], _ => rfl), (fun _ _ _ _ _ _ us hl => match us, hl with | [_], _ => rfl), (fun _ _ _ _ _ _ us hl => match us, hl with | [_], _ => rfl), (fun _ _ _ _ _ _ us hl => match us, hl with | [_, _], _ => rfl), (fun _ _ _ _ _ _ us hl => match us, hl with | [_, _], _ => rfl), (fun _ _ _ _ _ _ us hl => match us, hl with | [_], _ => rfl), (fun _ _ _ _ _ _ us hl => match us, hl with | [_], _ => rfl), (fun _ _ _ _ _ _ us hl => match us, hl with | [_], _ => rfl), (fun _ _ _ _ _ _ us hl => match us, hl with | [_], _ => rfl), (fun _ _ _ _ _ _ us hl => match us, hl with | [_, _], _ => rfl), (fun _ _ _ _ _ _ us hl => match us, hl with | [_], _ => rfl), True.intro⟩
abbrev R : PySem.W.OpenRow := PySem.W.OpenLaw.row PySem.Challenge.rw_pairaway_k01_what_is_a_face
abbrev fa : List He.Fa := TB.faOf names gi
abbrev fn : List He.DefD := sts.map TB.mkD
abbrev hk : PySem.W.Hook := He.hookD 4 fa fn
def ob (s : PySem.W.SharedT) : He.AlD := He.obsDG 4 fa fn (HandSHeadRun.getT s)
theorem ob_eq (s : PySem.W.SharedT) : ob s = hk.obs s.abs := He.obsDG_eq (HandSHeadRun.getT_eq s)
def loose : List PySem.Str := ["MOST_POINT", "MOST_POINTS", "is_whole", "is_from", "are_rising", "a_face", "is_face", "_law_draw", "_law_cell", "_law_pen", "_law_whole", "_law_is_face", "_law_some_face", "_law_near"]
theorem run (w : World) : HandSHeadRun.RunEq R (PySem.W.view R.prog [17]) hk ob 2000 loose w := by
  intro os
  kernel_rfl
end L
open PySem PySem.W PySem.Calls PyProof.Rows
theorem PySem.Challenge.cw_pairaway_k01_what_is_a_face_holds : PySem.Challenge.rw_pairaway_k01_what_is_a_face.Holds := by
  w_on; o_law
  refine HandSHeadRun.head_any (r := OpenLaw.row PySem.Challenge.rw_pairaway_k01_what_is_a_face) (q := view (OpenLaw.row PySem.Challenge.rw_pairaway_k01_what_is_a_face).prog [17]) (H := L.hk) (ob := L.ob) (M := 2000) (loose := L.loose) (d := HandSHeadRun.topDef (OpenLaw.row PySem.Challenge.rw_pairaway_k01_what_is_a_face).prog 17) (kwd := []) L.ob_eq
    (by kernel_rfl) (fun s => by kernel_rfl) L.run (by kernel_rfl) (by kernel_rfl) (by kernel_rfl) (by rfl) (by first | assumption | decide +kernel) (by decide +kernel) ⟨rfl, rfl, rfl, rfl, rfl, by decide +kernel⟩ ?hw ?hc
  case hw => w_witness2
  case hc =>
    refine TB.walk_mine (l := PySem.Challenge.rw_pairaway_k01_what_is_a_face) (n := 63) (k := 20) rfl (by decide) (by kernel_rfl) ⟨rfl, by decide, by decide⟩ ?F
    intro w mg h Y G
    obtain ⟨K, KX, c⟩ := Y
    exact ⟨K, L.fs, _, _, _, 12, KX, TB.tab_of KX G c L.chk L.bnd, by kernel_rfl, L.says⟩
