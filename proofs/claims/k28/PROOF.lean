import PyProof.Rows.All
import Wide.All
import OpenK.AllK
import Wide.FinOn
import HandS.ForMost
import HandS.IsInst
import HandS.Deep
import HandS.Flow
import HandS.Style
import HandS.Zip
import KE.SortData
import HandS.ForExc
import KE.GoesNew
import KE.GoesMore
import KE.GoesEnum
import HandS.TupAny
import HandS.Conv
import HandS.Ends
import HandS.Defaults
import PySem.Challenge.RW_citylines_k28_asks_and_leaves_at_each_mi
import KE.KStateDown
import HandS.Head0
import HandS.Head1
import HandS.Head2
import HandS.HeadEnd
import HandS.HeadHook1
import HandS.HeadHook2
set_option Elab.async false
set_option linter.all false
set_option autoImplicit false
section
set_option maxHeartbeats 200000
set_option maxRecDepth 100000
/-! DA: a small language of pure data with owned lists: its syntax, and what it means. -/
namespace DL
open PySem

inductive Cn where
  | non | bl (b : Bool) | int (i : Int) | str (s : Str)
  deriving DecidableEq
def Cn.d : Cn → PyData
  | .non => .none
  | .bl b => .bool b
  | .int i => .int i
  | .str s => .str s
inductive Bop where
  | add | sub | mul | fdiv | mod | pow
  deriving DecidableEq
inductive Cop where
  | eq | ne | lt | le | gt | ge | is | isnot | inn | notin
  deriving DecidableEq
inductive Kd where
  | kint | kbool | kstr | klist | ktuple | kdict
  deriving DecidableEq
inductive Pr where
  | len | abs | max | min | int | sum | any | all | sorted | list | tuple | repr | divmod
  deriving DecidableEq
/-- a target: a slot, an item of an owned slot at a written place, a tuple of targets -/
inductive Tg where
  | nm (i : Nat) | sub (i : Nat) (ix : Int) | tp (ts : List Tg)
mutual
inductive Ex where
  | cst (c : Cn)
  | var (i : Nat)
  | glb (x : Str) (c : Cn)
  | tup (es : List Ex)
  | lst (es : List Ex)
  | bin (o : Bop) (a b : Ex)
  | neg (a : Ex)
  | cmp (o : Cop) (a b : Ex)
  | chn (o1 o2 : Cop) (a b c : Ex)
  | nt (a : Ex)
  | an (a b : Ex)
  | orr (a b : Ex)
  | ite (c a b : Ex)
  | idx (a i : Ex)
  | slc (a : Ex) (lo hi : Option Ex)
  | rev (a : Ex)
  | prim (p : Pr) (args : List Ex)
  | isi (a : Ex) (ks : List Kd)
  | lrng (a : Option Ex) (b : Ex)
  | itm (i : Nat) (ix : Ex)
  | peek (p : Pr) (i : Nat)
  | call (f : Nat) (args : List Ar) (kw : List Nat)
  | comp (tg : Tg) (it : Itr) (cond : Option Ex) (elt : Ex) (own : List Nat)
inductive Ar where
  | val (e : Ex)
  | ref (i : Nat)
  | fre (e : Ex)
inductive Itr where
  | over (e : Ex)
  | rng (b : Ex)
  | rng2 (a b : Ex)
  | enum (e : Ex)
  | zip (a b : Ex)
end
inductive Sm where
  | asg (tg : Tg) (e : Ex)
  | asgF (i : Nat) (e : Ex)
  | par (is : List Nat) (es : List Ar)
  | aug (i : Nat) (neg : Bool) (e : Ex)
  | app (i : Nat) (e : Ex)
  | ext (i : Nat) (e : Ex)
  | expr (e : Ex)
  | ret (e : Ex)
  | retF (e : Ex)
  | retO (i : Nat)
  | ifs (c : Ex) (a b : List Sm)
  | whl (c : Ex) (body : List Sm)
  | fr (tg : Tg) (it : Itr) (body : List Sm)
  | brk | cnt | pass | doc | retN | nev
  | rse (c : Nat) (args : List Ex)

/-! ### values, environments, results -/
inductive Sl where
  | un
  | pu (d : PyData)
  | ow (tag : Bool) (ds : List PyData)
abbrev Evn := List Sl
inductive Res (α : Type) where
  | ok (a : α) (r : Evn)
  | exc (c : Nat) (fs : List PyData) (r : Evn)
  | bad
abbrev D (α : Type) := Evn → Res α
def bnd {α β : Type} (m : D α) (f : α → D β) : D β := fun r => match m r with
  | .ok a r' => f a r'
  | .exc c fs r' => .exc c fs r'
  | .bad => .bad
/-- nothing is raised -/
def nox {α : Type} (m : D α) : D α := fun r => match m r with
  | .ok a r' => .ok a r'
  | _ => .bad
def ret {α : Type} (a : α) : D α := fun r => .ok a r
def lift {α : Type} : Option α → D α
  | some a => ret a
  | none => fun _ => .bad
inductive Av where
  | pu (d : PyData) | ow (ds : List PyData)
inductive RV where
  | pu (d : PyData) | fr (ds : List PyData)
def RV.d : RV → PyData
  | .pu d => d
  | .fr ds => .list ds
/-- what a def answers: its value, what its owned argument holds behind it -/
inductive CRes where
  | ok (r : RV) (out : List PyData)
  | exc (c : Nat) (fs : List PyData) (out : List PyData)
  | bad
abbrev Fns := Nat → List Av → CRes

/-! ### operations on data -/
def small64 (i : Int) : Bool := decide (-(2 ^ 64) < i) && decide (i < 2 ^ 64)
def binD : Bop → PyData → PyData → Option PyData
  | .add, .int i, .int j => some (.int (i + j))
  | .add, .str x, .str y => if x.length + y.length ≤ sizeLine then some (.str (x ++ y)) else none
  | .add, .list xs, .list ys => if xs.length + ys.length ≤ sizeLine then some (.list (xs ++ ys)) else none
  | .add, .tuple xs, .tuple ys => if xs ≠ [] ∧ xs.length + ys.length ≤ sizeLine then some (.tuple (xs ++ ys)) else none
  | .sub, .int i, .int j => some (.int (i - j))
  | .mul, .int i, .int j => if small64 i || small64 j then some (.int (i * j)) else none
  | .fdiv, .int i, .int j => if 0 < j ∧ j < 1073741824 then some (.int (i / j)) else none
  | .mod, .int i, .int j => if 0 < j then some (.int (i % j)) else none
  | .pow, .int i, .int j => if (0 ≤ j ∧ j ≤ 1000000) ∧ i.natAbs < 2 ^ 64 then some (.int (i ^ j.toNat)) else none
  | _, _, _ => none
def isN : PyData → Bool
  | .none => true
  | _ => false
def cmpD : Cop → PyData → PyData → Option PyData
  | .eq, .int i, .int j => some (.bool (decide (i = j)))
  | .eq, .str x, .str y => some (.bool (decide (x = y)))
  | .ne, .int i, .int j => some (.bool (!decide (i = j)))
  | .ne, .str x, .str y => some (.bool (!decide (x = y)))
  | .eq, a, b => if SeqAt.shaped a && SeqAt.shaped b then some (.bool (PyData.eqv a b)) else none
  | .ne, a, b => if SeqAt.shaped a && SeqAt.shaped b then some (.bool (!PyData.eqv a b)) else none
  | .lt, .int i, .int j => some (.bool (decide (i < j)))
  | .le, .int i, .int j => some (.bool (decide (i ≤ j)))
  | .gt, .int i, .int j => some (.bool (decide (j < i)))
  | .ge, .int i, .int j => some (.bool (decide (j ≤ i)))
  | .is, a, .none => some (.bool (isN a))
  | .isnot, a, .none => some (.bool (!isN a))
  | .inn, a, .list ds => if SeqAt.shaped a && SeqAt.shaped (.list ds) then some (.bool (ds.any fun z => PyData.eqv z a)) else none
  | .inn, a, .tuple ds => if SeqAt.shaped a && SeqAt.shaped (.tuple ds) then some (.bool (ds.any fun z => PyData.eqv z a)) else none
  | .notin, a, .list ds => if SeqAt.shaped a && SeqAt.shaped (.list ds) then some (.bool (!ds.any fun z => PyData.eqv z a)) else none
  | .notin, a, .tuple ds => if SeqAt.shaped a && SeqAt.shaped (.tuple ds) then some (.bool (!ds.any fun z => PyData.eqv z a)) else none
  | _, _, _ => none
def truD : PyData → Option Bool
  | .none => some false
  | .bool b => some b
  | .int i => some (i != 0)
  | .str y => if y.length ≤ sizeLine then some ((y.length : Int) != 0) else none
  | .list ds => some (!ds.isEmpty)
  | .tuple ds => some (!ds.isEmpty)
  | .dict _ => none
def ixN (n : Nat) (i : Int) : Option Nat := if 0 ≤ i then (if i < n then some i.toNat else none) else if -(n : Int) ≤ i then some (i + n).toNat else none
def atD (ds : List PyData) (i : Int) : Option PyData := (ixN ds.length i).bind fun j => ds[j]?
def idxD : PyData → PyData → Option PyData
  | .list ds, .int i => atD ds i
  | .tuple ds, .int i => atD ds i
  | _, _ => none
def sIx (n d : Nat) : Option Int → Nat
  | none => d
  | some v => if v < 0 then (v + (n : Int)).toNat else min v.toNat n
def cutD (ds : List PyData) (lo hi : Option Int) : List PyData := (ds.drop (sIx ds.length 0 lo)).take (sIx ds.length ds.length hi - sIx ds.length 0 lo)
def slcD : PyData → Option Int → Option Int → Option PyData
  | .list ds, lo, hi => some (.list (cutD ds lo hi))
  | .tuple ds, lo, hi => some (.tuple (cutD ds lo hi))
  | _, _, _ => none
def ints? : List PyData → Option (List Int)
  | [] => some []
  | .int i :: r => (ints? r).map (i :: ·)
  | _ :: _ => none
def bools? : List PyData → Option (List Bool)
  | [] => some []
  | .bool b :: r => (bools? r).map (b :: ·)
  | _ :: _ => none
def maxI : Int → List Int → Int
  | m, [] => m
  | m, x :: r => maxI (if x > m then x else m) r
def minI : Int → List Int → Int
  | m, [] => m
  | m, x :: r => minI (if x < m then x else m) r
def itemsD : PyData → Option (List PyData)
  | .list ds => some ds
  | .tuple ds => some ds
  | _ => none
def showOk (d : PyData) : Bool := d.showable && !d.hasDict && decide (d.depth ≤ 64) && decide (d.shown.length ≤ sizeLine)
def primD : Pr → List PyData → Option PyData
  | .len, [.list ds] => some (.int ds.length)
  | .len, [.tuple ds] => some (.int ds.length)
  | .abs, [.int i] => some (.int (if i < 0 then -i else i))
  | .max, [.int i, .int j] => some (.int (if j > i then j else i))
  | .max, [.list ds] => (ints? ds).bind fun ns => match ns with
    | [] => none
    | x :: r => some (.int (maxI x r))
  | .min, [.int i, .int j] => some (.int (if j < i then j else i))
  | .min, [.list ds] => (ints? ds).bind fun ns => match ns with
    | [] => none
    | x :: r => some (.int (minI x r))
  | .int, [.int i] => some (.int i)
  | .sum, [.list ds] => (ints? ds).map fun ns => .int ns.sum
  | .any, [.list ds] => (bools? ds).map fun bs => .bool (bs.any id)
  | .all, [.list ds] => (bools? ds).map fun bs => .bool (bs.all id)
  | .sorted, [.list ds] => (ints? ds).bind fun ns => if ns.length ≤ sizeLine then some (.list ((ns.mergeSort fun a b => decide (a ≤ b)).map .int)) else none
  | .list, [.list ds] => some (.list ds)
  | .list, [.tuple ds] => some (.list ds)
  | .tuple, [.list ds] => some (.tuple ds)
  | .tuple, [.tuple ds] => some (.tuple ds)
  | .repr, [.int i] => if i.natAbs.log2 < 1920 then some (.str (toString i)) else none
  | .repr, [.list ds] => if showOk (.list ds) then some (.str (PyData.shown (.list ds))) else none
  | .repr, [.tuple ds] => if showOk (.tuple ds) then some (.str (PyData.shown (.tuple ds))) else none
  | .divmod, [.int i, .int j] => if 0 < j ∧ j < 1073741824 then some (.tuple [.int (i / j), .int (i % j)]) else none
  | _, _ => none
def isK : Kd → PyData → Bool
  | .kint, .int _ => true
  | .kint, .bool _ => true
  | .kbool, .bool _ => true
  | .kstr, .str _ => true
  | .klist, .list _ => true
  | .ktuple, .tuple _ => true
  | .kdict, .dict _ => true
  | _, _ => false

/-! ### environments -/
def getS (r : Evn) (i : Nat) : Sl := r.getD i .un
/-- a slot's value; an owned list that is looked at as a value is owned no more -/
def rdV (i : Nat) : D PyData := fun r => match getS r i with
  | .pu d => .ok d r
  | .ow false ds => .ok (.list ds) (r.set i (.pu (.list ds)))
  | _ => .bad
/-- an item of an owned list -/
def atOw (i : Nat) (y : PyData) : D PyData := fun r => match getS r i, y with
  | .ow _ ds, .int k => (match atD ds k with
    | some d => .ok d r
    | none => .bad)
  | _, _ => .bad
def flatD : PyData → Bool
  | .list _ => false
  | .tuple _ => false
  | .dict _ => false
  | _ => true
/-- a built-in function of an owned list -/
def peekD (p : Pr) (i : Nat) : D PyData := fun r => match getS r i with
  | .ow _ ds => (match primD p [.list ds] with
    | some z => if flatD z then .ok z r else .bad
    | none => .bad)
  | _ => .bad
def isOw (i : Nat) (m : D PyData) : D PyData := fun r => match getS r i with
  | .ow _ _ => m r
  | _ => .bad
def wipeE (r : Evn) : List Nat → Evn
  | [] => r
  | v :: vs => (wipeE r vs).set v .un
def backE (r0 r1 : Evn) : List Nat → Evn
  | [] => r1
  | v :: vs => (backE r0 r1 vs).set v (getS r0 v)
def noOw (r : Evn) : List Nat → Bool
  | [] => true
  | v :: vs => (match getS r v with | .ow _ _ => false | _ => true) && noOw r vs
mutual
/-- a value comes to a target -/
def putT : Tg → PyData → D Unit
  | .nm i, d => fun r => if i < r.length then .ok () (r.set i (.pu d)) else .bad
  | .sub i ix, d => fun r => match getS r i with
    | .ow t ds => match ixN ds.length ix with
      | some j => .ok () (r.set i (.ow t (ds.set j d)))
      | none => .bad
    | _ => .bad
  | .tp ts, d => match d with
    | .tuple ds => putTs ts ds
    | _ => fun _ => .bad
def putTs : List Tg → List PyData → D Unit
  | [], [] => ret ()
  | t :: ts, d :: ds => bnd (putT t d) fun _ => putTs ts ds
  | _, _ => fun _ => .bad
end
/-- the items that a comprehension makes -/
def mapL (step : PyData → D (Option PyData)) : List PyData → D (List PyData)
  | [] => ret []
  | x :: xs => bnd (step x) fun o => bnd (mapL step xs) fun ys => ret (match o with | some y => y :: ys | none => ys)
def stepC (own : List Nat) (tg : Tg) (c : D Bool) (e : D PyData) (x : PyData) : D (Option PyData) :=
  bnd (fun r => .ok () (wipeE r own)) fun _ => bnd (putT tg x) fun _ => bnd c fun t => if t then bnd e fun y => ret (some y) else ret none
/-- a comprehension over items: the slots own are its own -/
def compD (own : List Nat) (tg : Tg) (c : D Bool) (e : D PyData) (xs : List PyData) : D (List PyData) := fun r =>
  if noOw r own && decide (xs.length ≤ sizeLine) then bnd (nox (mapL (stepC own tg c e) xs)) (fun ys r2 => .ok ys (backE r r2 own)) r else .bad
def rgOk (a b : Int) : Bool := decide (-(2 ^ 62) ≤ a) && decide (a < 2 ^ 62) && decide (-(2 ^ 62) ≤ b) && decide (b < 2 ^ 62) && decide ((b - a).toNat ≤ 2 ^ 24)
def rngL (lo hi : Int) : List PyData := (List.range (hi - lo).toNat).map fun (i : Nat) => PyData.int (lo + (i : Int))
def enumFrom (n : Nat) : List PyData → List PyData
  | [] => []
  | d :: ds => .tuple [.int n, d] :: enumFrom (n + 1) ds
def zipL : List PyData → List PyData → List PyData
  | x :: xs, y :: ys => .tuple [x, y] :: zipL xs ys
  | _, _ => []
def zipD : PyData → PyData → Option (List PyData)
  | .list ds, .list es => some (zipL ds es)
  | .tuple ds, .tuple es => some (zipL ds es)
  | _, _ => none

/-! ### arguments -/
inductive Aw where
  | pu (d : PyData) | rf (i : Nat) | fr (ds : List PyData)
def avOf (r : Evn) : List Aw → Option (List Av)
  | [] => some []
  | .pu d :: l => (avOf r l).map (.pu d :: ·)
  | .rf i :: l => match getS r i with
    | .ow _ ds => (avOf r l).map (.ow ds :: ·)
    | _ => none
  | .fr ds :: l => (avOf r l).map (.ow ds :: ·)
def owns : List Aw → Nat
  | [] => 0
  | .pu _ :: l => owns l
  | _ :: l => owns l + 1
def backA (r : Evn) (out : List PyData) : List Aw → Evn
  | [] => r
  | .rf i :: l => backA (match getS r i with | .ow t _ => r.set i (.ow t out) | _ => r) out l
  | _ :: l => backA r out l
def pickA (l : List Aw) : List Nat → Option (List Aw)
  | [] => some []
  | i :: is => match l[i]?, pickA l is with
    | some x, some r => some (x :: r)
    | _, _ => none
def perm (kw : List Nat) (l : List Aw) : Option (List Aw) := if kw = [] then some l else pickA l kw
def callA (G : Fns) (f : Nat) (kw : List Nat) (l : List Aw) : D RV := fun r => match perm kw l with
  | some l' => if owns l' ≤ 1 then match avOf r l' with
    | some avs => match G f avs with
      | .ok v out => .ok v (backA r out l')
      | .exc c fs out => .exc c fs (backA r out l')
      | .bad => .bad
    | none => .bad
    else .bad
  | none => .bad

/-! ### what an expression means -/
mutual
def den (G : Fns) : Ex → D PyData
  | .cst c => ret c.d
  | .var i => rdV i
  | .glb _ c => ret c.d
  | .tup es => bnd (denL G es) fun ds => if ds.length ≤ sizeLine then ret (.tuple ds) else fun _ => .bad
  | .lst es => bnd (denL G es) fun ds => if ds.length ≤ sizeLine then ret (.list ds) else fun _ => .bad
  | .bin o a b => bnd (den G a) fun x => bnd (den G b) fun y => lift (binD o x y)
  | .neg a => bnd (den G a) fun x => match x with
    | .int i => ret (.int (-i))
    | _ => fun _ => .bad
  | .cmp o a b => bnd (den G a) fun x => bnd (den G b) fun y => lift (cmpD o x y)
  | .chn o1 o2 a b c => bnd (den G a) fun x => bnd (den G b) fun y => bnd (lift (cmpD o1 x y)) fun z => match z with
    | .bool true => bnd (den G c) fun w => lift (cmpD o2 y w)
    | .bool false => ret (.bool false)
    | _ => fun _ => .bad
  | .nt a => bnd (den G a) fun x => bnd (lift (truD x)) fun t => ret (.bool (!t))
  | .an a b => bnd (den G a) fun x => bnd (lift (truD x)) fun t => if t then den G b else ret x
  | .orr a b => bnd (den G a) fun x => bnd (lift (truD x)) fun t => if t then ret x else den G b
  | .ite c a b => bnd (den G c) fun x => bnd (lift (truD x)) fun t => if t then den G a else den G b
  | .idx a i => bnd (den G a) fun x => bnd (den G i) fun y => lift (idxD x y)
  | .slc a lo hi => bnd (den G a) fun x => bnd (denO G lo) fun l => bnd (denO G hi) fun h => lift (slcD x l h)
  | .rev a => bnd (den G a) fun x => match x with
    | .list ds => ret (.list ds.reverse)
    | _ => fun _ => .bad
  | .prim p es => bnd (denL G es) fun ds => lift (primD p ds)
  | .lrng a b => bnd (denO G a) fun lo => bnd (den G b) fun y => match y with
    | .int j => if rgOk (lo.getD 0) j then ret (.list (rngL (lo.getD 0) j)) else fun _ => .bad
    | _ => fun _ => .bad
  | .itm i ix => isOw i (bnd (den G ix) fun y => atOw i y)
  | .peek p i => peekD p i
  | .isi a ks => bnd (den G a) fun x => ret (.bool (ks.any fun k => isK k x))
  | .call f args kw => bnd (denA G args) fun l => bnd (callA G f kw l) fun v => ret v.d
  | .comp tg it c e own => bnd (denI G it) fun xs => bnd (compD own tg (denC G c) (den G e) xs) fun ys => ret (.list ys)
def denL (G : Fns) : List Ex → D (List PyData)
  | [] => ret []
  | e :: es => bnd (den G e) fun x => bnd (denL G es) fun xs => ret (x :: xs)
def denO (G : Fns) : Option Ex → D (Option Int)
  | none => ret none
  | some e => bnd (den G e) fun x => match x with
    | .int i => ret (some i)
    | _ => fun _ => .bad
def denC (G : Fns) : Option Ex → D Bool
  | none => ret true
  | some e => bnd (den G e) fun x => lift (truD x)
def denA (G : Fns) : List Ar → D (List Aw)
  | [] => ret []
  | .val e :: l => bnd (den G e) fun x => bnd (denA G l) fun ys => ret (.pu x :: ys)
  | .ref i :: l => fun r => match getS r i with
    | .ow _ _ => (bnd (denA G l) fun ys => ret (.rf i :: ys)) r
    | _ => .bad
  | .fre e :: l => bnd (denF G e) fun x => bnd (denA G l) fun ys => ret (.fr x :: ys)
def denI (G : Fns) : Itr → D (List PyData)
  | .over e => bnd (den G e) fun x => lift (itemsD x)
  | .rng b => bnd (den G b) fun y => match y with
    | .int j => if -(2 ^ 62) ≤ j ∧ j < 2 ^ 62 then ret (rngL 0 j) else fun _ => .bad
    | _ => fun _ => .bad
  | .rng2 a b => bnd (den G a) fun x => bnd (den G b) fun y => match x, y with
    | .int i, .int j => if -(2 ^ 62) ≤ i ∧ i < 2 ^ 62 ∧ -(2 ^ 62) ≤ j ∧ j < 2 ^ 62 then ret (rngL i j) else fun _ => .bad
    | _, _ => fun _ => .bad
  | .enum e => bnd (den G e) fun x => bnd (lift (itemsD x)) fun ds => ret (enumFrom 0 ds)
  | .zip a b => bnd (den G a) fun x => bnd (den G b) fun y => lift (zipD x y)
/-- a list that is new -/
def denF (G : Fns) : Ex → D (List PyData)
  | .lst es => bnd (denL G es) fun ds => if ds.length ≤ sizeLine then ret ds else fun _ => .bad
  | .comp tg it c e own => bnd (denI G it) fun xs => compD own tg (denC G c) (den G e) xs
  | .call f args kw => bnd (denA G args) fun l => bnd (callA G f kw l) fun v => match v with
    | .fr ds => ret ds
    | .pu _ => fun _ => .bad
  | _ => fun _ => .bad
end

/-! ### what a statement means -/
inductive Flow where
  | nx | rt (v : RV) | bk | ct
def whileN (n : Nat) (c : D Bool) (body : D Flow) : D Flow := match n with
  | 0 => fun _ => .bad
  | n + 1 => bnd c fun t => if t then bnd body fun f => match f with
      | .nx => whileN n c body
      | .ct => whileN n c body
      | .bk => ret .nx
      | .rt v => ret (.rt v)
    else ret .nx
def forL (step : PyData → D Flow) : List PyData → D Flow
  | [] => ret .nx
  | x :: xs => bnd (step x) fun f => match f with
    | .nx => forL step xs
    | .ct => forL step xs
    | .bk => ret .nx
    | .rt v => ret (.rt v)
def onOwn (i : Nat) (f : List PyData → Option (List PyData)) : D Flow := fun r => match getS r i with
  | .ow t ds => match f ds with
    | some ds' => .ok .nx (r.set i (.ow t ds'))
    | none => .bad
  | _ => .bad
def ifOwn (i : Nat) (m : D Flow) : D Flow := fun r => match getS r i with
  | .ow _ _ => m r
  | _ => .bad
def putA (i : Nat) : Aw → D Unit
  | .pu d => fun r => if i < r.length then .ok () (r.set i (.pu d)) else .bad
  | .fr ds => fun r => if i < r.length then .ok () (r.set i (.ow false ds)) else .bad
  | .rf _ => fun _ => .bad
def putMany : List Nat → List Aw → D Unit
  | [], [] => ret ()
  | i :: is, d :: ds => bnd (putA i d) fun _ => putMany is ds
  | _, _ => fun _ => .bad
def augD (i : Nat) (neg : Bool) (m : D PyData) : D Unit := fun r => match getS r i with
  | .pu (.int x) => (bnd m fun y => match y with
    | .int z => fun r => if i < r.length then .ok () (r.set i (.pu (.int (if neg then x - z else x + z)))) else .bad
    | _ => fun _ => .bad) r
  | _ => .bad
def fuel : Nat := 1000000
mutual
def denS (G : Fns) : Sm → D Flow
  | .asg tg e => bnd (den G e) fun d => bnd (putT tg d) fun _ => ret .nx
  | .asgF i e => bnd (denF G e) fun ds r => if i < r.length then .ok .nx (r.set i (.ow false ds)) else .bad
  | .par is es => bnd (denA G es) fun ds => bnd (putMany is ds) fun _ => ret .nx
  | .aug i neg e => bnd (augD i neg (den G e)) fun _ => ret .nx
  | .app i e => ifOwn i (bnd (den G e) fun d => onOwn i fun ds => if ds.length < sizeLine then some (ds ++ [d]) else none)
  | .ext i e => ifOwn i (bnd (den G e) fun d => match d with
    | .list es => onOwn i fun ds => if ds.length + es.length ≤ sizeLine then some (ds ++ es) else none
    | _ => fun _ => .bad)
  | .expr e => bnd (den G e) fun _ => ret .nx
  | .ret e => bnd (den G e) fun d => ret (.rt (.pu d))
  | .retF e => bnd (denF G e) fun ds => ret (.rt (.fr ds))
  | .retO i => fun r => match getS r i with
    | .ow false ds => .ok (.rt (.fr ds)) (r.set i .un)
    | _ => .bad
  | .ifs c a b => bnd (den G c) fun x => bnd (lift (truD x)) fun t => if t then denB G a else denB G b
  | .whl c body => whileN fuel (bnd (den G c) fun x => lift (truD x)) (denB G body)
  | .fr tg it body => bnd (denI G it) fun xs => forL (fun x => bnd (putT tg x) fun _ => denB G body) xs
  | .brk => ret .bk
  | .cnt => ret .ct
  | .pass => ret .nx
  | .doc => ret .nx
  | .retN => ret (.rt (.pu .none))
  | .nev => fun _ => .bad
  | .rse c es => bnd (denL G es) fun ds r => .exc c ds r
def denB (G : Fns) : List Sm → D Flow
  | [] => ret .nx
  | s :: ss => bnd (denS G s) fun f => match f with
    | .nx => denB G ss
    | g => ret g
end

/-! ### defs -/
structure FnD where
  names : List Str
  np : Nat
  own : Option Nat
  body : List Sm
def entry (n : Nat) (avs : List Av) : Evn := avs.map (fun | .pu d => .pu d | .ow ds => .ow true ds) ++ List.replicate (n - avs.length) .un
def fits : Option Nat → List Av → Bool
  | none, avs => avs.all fun | .pu _ => true | .ow _ => false
  | some i, avs => avs.zipIdx.all fun | (.pu _, j) => j != i | (.ow _, j) => j == i
def outOf (r : Evn) : Option Nat → Option (List PyData)
  | none => some []
  | some i => match getS r i with
    | .ow true ds => some ds
    | _ => none
def runD (G : Fns) (f : FnD) (avs : List Av) : CRes :=
  if avs.length = f.np && fits f.own avs then match denB G f.body (entry f.names.length avs) with
    | .ok fl r => match outOf r f.own with
      | some out => match fl with
        | .nx => .ok (.pu .none) out
        | .rt v => .ok v out
        | _ => .bad
      | none => .bad
    | .exc c fs r => match outOf r f.own with
      | some out => .exc c fs out
      | none => .bad
    | .bad => .bad
  else .bad
/-- the defs of a text, to a depth of calls -/
def runN (fs : List FnD) : Nat → Fns
  | 0 => fun _ _ => .bad
  | k + 1 => fun f avs => match fs[f]? with
    | some fd => runD (runN fs k) fd avs
    | none => .bad
end DL
end
section
set_option maxHeartbeats 200000
set_option maxRecDepth 100000
/-! DB: what data a slot holds in the abstract heap. -/
namespace DL
open PySem L2

/-- the abstract heap without some places -/
noncomputable def fz (P : Addr → Prop) (H : Hp) : Hp := fun a => open Classical in if P a then none else H a
theorem fz_some {P : Addr → Prop} {H : Hp} {a : Addr} {o : HO} : fz P H a = some o ↔ ¬ P a ∧ H a = some o := by
  unfold fz
  by_cases h : P a
  · rw [if_pos h]; exact ⟨(fun q => nomatch q), fun q => absurd h q.1⟩
  · rw [if_neg h]; exact ⟨fun q => ⟨h, q⟩, fun q => q.2⟩
/-- the places of owned lists -/
def Lv (r : Evn) (σ : L2.St) (a : Addr) : Prop := ∃ (i : Nat) (t : Bool) (ds : List PyData), r[i]? = some (.ow t ds) ∧ σ[i]? = some (some (.ref a))
/-- a list that is read: tracked, known, or an object of the module, plain -/
def LsK (K : PySem.W.Frag) (H : Hp) (a : Addr) (xs : List V) : Prop :=
  Rd H a (.lst xs) ∨ ∃ (its : List Value) (n : Nat), K.lookup a = some { cls := .type "list", data := .seq its.toArray n } ∧ its.length ≤ sizeLine ∧ Vals xs its
theorem LsK.sq {K : PySem.W.Frag} {H : Hp} {a : Addr} {xs : List V} (h : LsK K H a xs) : SqL K H a xs := by
  rcases h with h | ⟨its, n, h1, h2, h3⟩
  · exact .inl h
  · exact .inr ⟨_, its.toArray, n, h1, rfl, rfl, rfl, by simpa using h2, by simpa using h3⟩
mutual
/-- data in the abstract heap -/
inductive Dq (K : PySem.W.Frag) (H : Hp) : V → PyData → Prop
  | non : Dq K H .non .none
  | bl (b : Bool) : Dq K H (.bl b) (.bool b)
  | int (i : Int) : Dq K H (.int i) (.int i)
  | str (x : Str) : Dq K H (.str x) (.str x)
  | lst {a : Addr} {xs : List V} {ds : List PyData} : LsK K H a xs → DqAll K H xs ds → Dq K H (.ref a) (.list ds)
  | tup {a : Addr} {xs : List V} {ds : List PyData} : SqT K H a xs → DqAll K H xs ds → Dq K H (.ref a) (.tuple ds)
inductive DqAll (K : PySem.W.Frag) (H : Hp) : List V → List PyData → Prop
  | nil : DqAll K H [] []
  | cons {v : V} {vs : List V} {d : PyData} {ds : List PyData} : Dq K H v d → DqAll K H vs ds → DqAll K H (v :: vs) (d :: ds)
end
mutual
theorem Dq.dp {K : PySem.W.Frag} {F : Hp} : ∀ {d : PyData} {v : V}, Dq K F v d → Dp K F v d
  | .none, v, h => by cases h; exact .non
  | .bool b, v, h => by cases h; exact .bl b
  | .int i, v, h => by cases h; exact .int i
  | .str x, v, h => by cases h; exact .str x
  | .list ds, v, h => by
    cases h with
    | lst h1 h2 => exact .lst h1.sq (DqAll.dp h2)
  | .tuple ds, v, h => by
    cases h with
    | tup h1 h2 => exact .tup h1 (DqAll.dp h2)
  | .dict kvs, v, h => by cases h
theorem DqAll.dp {K : PySem.W.Frag} {F : Hp} : ∀ {ds : List PyData} {vs : List V}, DqAll K F vs ds → DpAll K F vs ds
  | [], vs, h => by cases h; exact .nil
  | d :: ds, vs, h => by
    cases h with
    | cons h1 h2 => exact .cons (Dq.dp h1) (DqAll.dp h2)
end
theorem LsK.mono {K : PySem.W.Frag} {F F' : Hp} (m : ∀ a o, F a = some o → F' a = some o) {a : Addr} {xs : List V} (h : LsK K F a xs) : LsK K F' a xs := by
  rcases h with (h | ⟨o, h⟩) | h
  · exact .inl (.inl (m _ _ h))
  · exact .inl (.inr ⟨o, m _ _ h⟩)
  · exact .inr h
abbrev Sub (F F' : Hp) : Prop := ∀ a o, F a = some o → F' a = some o
mutual
theorem Dp_mono {K : PySem.W.Frag} {F F' : Hp} (m : Sub F F') : ∀ {d : PyData} {v : V}, Dq K F v d → Dq K F' v d
  | .none, v, h => by cases h; exact .non
  | .bool b, v, h => by cases h; exact .bl b
  | .int i, v, h => by cases h; exact .int i
  | .str x, v, h => by cases h; exact .str x
  | .list ds, v, h => by
    cases h with
    | lst h1 h2 => exact .lst (LsK.mono m h1) (DpAll_mono m h2)
  | .tuple ds, v, h => by
    cases h with
    | tup h1 h2 =>
      refine .tup ?_ (DpAll_mono m h2)
      rcases h1 with (h1 | ⟨o, h1⟩) | h1
      · exact .inl (.inl (m _ _ h1))
      · exact .inl (.inr ⟨o, m _ _ h1⟩)
      · exact .inr h1
  | .dict kvs, v, h => by cases h
theorem DpAll_mono {K : PySem.W.Frag} {F F' : Hp} (m : Sub F F') : ∀ {ds : List PyData} {vs : List V}, DqAll K F vs ds → DqAll K F' vs ds
  | [], vs, h => by cases h; exact .nil
  | d :: ds, vs, h => by
    cases h with
    | cons h1 h2 => exact .cons (Dp_mono m h1) (DpAll_mono m h2)
end
/-- the slots hold what the environment tells; hid: places that nothing here may lean on; pa: where the owned argument stands -/
structure Sim (K : PySem.W.Frag) (hid : Addr → Prop) (pa : Addr) (r : Evn) (σ : L2.St) (H : Hp) : Prop where
  len : r.length = σ.length
  pu : ∀ (i : Nat) (d : PyData), r[i]? = some (.pu d) → ∃ v, σ[i]? = some (some v) ∧ Dq K (fz (fun a => hid a ∨ Lv r σ a) H) v d
  ow : ∀ (i : Nat) (t : Bool) (ds : List PyData), r[i]? = some (.ow t ds) → ∃ a vs, σ[i]? = some (some (.ref a)) ∧ H a = some (.lst vs) ∧ ¬ hid a ∧ DqAll K (fz (fun a => hid a ∨ Lv r σ a) H) vs ds ∧ (t = true → a = pa)
  hd : ∀ a, hid a → H a ≠ none
  inj : ∀ (i j : Nat) (t u : Bool) (ds es : List PyData) (a : Addr), r[i]? = some (.ow t ds) → r[j]? = some (.ow u es) → σ[i]? = some (some (.ref a)) → σ[j]? = some (some (.ref a)) → i = j
/-- from one state to a later one: L, L' the places of owned lists -/
structure Ext (L : Addr → Prop) (H : Hp) (L' : Addr → Prop) (H' : Hp) : Prop where
  keep : ∀ a o, H a = some o → ¬ L a → H' a = some o
  liv : ∀ a, L' a → L a ∨ H a = none
  dom : ∀ a, H a ≠ none → H' a ≠ none
theorem Ext.refl {L : Addr → Prop} {H : Hp} : Ext L H L H := ⟨fun _ _ h _ => h, fun _ h => .inl h, fun _ h => h⟩
theorem Ext.trans {L L1 L2 : Addr → Prop} {H H1 H2 : Hp} (a : Ext L H L1 H1) (b : Ext L1 H1 L2 H2) : Ext L H L2 H2 where
  keep := fun x o h n => b.keep x o (a.keep x o h n) fun z => by
    rcases a.liv x z with q | q
    · exact n q
    · rw [h] at q; cases q
  liv := fun x h => by
    rcases b.liv x h with q | q
    · exact a.liv x q
    · cases e : H x with
      | none => exact .inr rfl
      | some o =>
        refine .inl ?_
        by_cases n : L x
        · exact n
        · rw [a.keep x o e n] at q; cases q
  dom := fun x h => b.dom x (a.dom x h)
theorem Ext.sub {hid L L' : Addr → Prop} {H H' : Hp} (a : Ext L H L' H') : Sub (fz (fun x => hid x ∨ L x) H) (fz (fun x => hid x ∨ L' x) H') := fun x o h => by
  obtain ⟨n, e⟩ := fz_some.mp h
  refine fz_some.mpr ⟨fun q => ?_, a.keep x o e fun z => n (.inr z)⟩
  rcases q with q | q
  · exact n (.inl q)
  · rcases a.liv x q with z | z
    · exact n (.inr z)
    · rw [e] at z; cases z
theorem dom_upd {H : Hp} {p a : Addr} {o : HO} (h : H a ≠ none) : upd H p o a ≠ none := by
  by_cases e : a = p
  · rw [e, upd_same]; exact fun z => nomatch z
  · rw [upd_ne e]; exact h
theorem Ext.mk_new {L : Addr → Prop} {H : Hp} {p : Addr} {o : HO} (n : H p = none) : Ext L H L (upd H p o) where
  keep := fun a u h _ => by rw [upd_ne (ne_of_none h n)]; exact h
  liv := fun _ h => .inl h
  dom := fun a h => dom_upd h
theorem sub_upd {P : Addr → Prop} {H : Hp} {p : Addr} {o : HO} (n : H p = none) : Sub (fz P H) (fz P (upd H p o)) := fun a u h => by
  obtain ⟨h1, h2⟩ := fz_some.mp h
  exact fz_some.mpr ⟨h1, by rw [upd_ne (ne_of_none h2 n)]; exact h2⟩
section
variable {K : PySem.W.Frag} {hid : Addr → Prop} {pa : Addr} {r : Evn} {σ : L2.St} {H : Hp}
theorem Sim.lv_some (S : Sim K hid pa r σ H) {a : Addr} (h : Lv r σ a) : ∃ vs, H a = some (.lst vs) ∧ ¬ hid a := by
  obtain ⟨i, t, ds, e1, e2⟩ := h
  obtain ⟨b, vs, e3, e4, e5, _, _⟩ := S.ow i t ds e1
  rw [e2] at e3
  cases e3
  exact ⟨vs, e4, e5⟩
/-- a new object -/
theorem Sim.new (S : Sim K hid pa r σ H) {p : Addr} {o : HO} (n : H p = none) : Sim K hid pa r σ (upd H p o) where
  len := S.len
  pu := fun i d e => let ⟨v, h1, h2⟩ := S.pu i d e; ⟨v, h1, Dp_mono (sub_upd n) h2⟩
  ow := fun i t ds e => by
    obtain ⟨a, vs, h1, h2, h3, h4, h5⟩ := S.ow i t ds e
    exact ⟨a, vs, h1, by rw [upd_ne (ne_of_none h2 n)]; exact h2, h3, DpAll_mono (sub_upd n) h4, h5⟩
  hd := fun a h => by
    by_cases e : a = p
    · subst e; rw [upd_same]; exact fun z => nomatch z
    · rw [upd_ne e]; exact S.hd a h
  inj := S.inj
theorem getS_some {i : Nat} {s : Sl} (h : getS r i = s) (n : s ≠ .un) : r[i]? = some s := by
  unfold getS at h
  rw [List.getD_eq_getElem?_getD] at h
  cases e : r[i]? with
  | none => rw [e] at h; exact absurd h.symm n
  | some x => rw [e] at h; rw [← h]; rfl
theorem lt_of_some {α : Type} {l : List α} {i : Nat} {x : α} (h : l[i]? = some x) : i < l.length := (List.getElem?_eq_some_iff.mp h).1
theorem set_get {α : Type} {l : List α} {i j : Nat} {x y : α} (h : (l.set i x)[j]? = some y) : (j = i ∧ y = x) ∨ (j ≠ i ∧ l[j]? = some y) := by
  by_cases e : j = i
  · subst e
    have hl := lt_of_some h
    rw [List.length_set] at hl
    rw [List.getElem?_set_self hl] at h
    exact .inl ⟨rfl, (Option.some.inj h).symm⟩
  · rw [List.getElem?_set_ne (Ne.symm e)] at h
    exact .inr ⟨e, h⟩
theorem set_self {α : Type} {l : List α} {i : Nat} {x : α} (h : i < l.length) : (l.set i x)[i]? = some x := List.getElem?_set_self h
theorem set_other {α : Type} {l : List α} {i j : Nat} {x : α} (h : j ≠ i) : (l.set i x)[j]? = l[j]? := List.getElem?_set_ne (Ne.symm h)
/-- which places are owned when a slot is set to a value -/
theorem lv_set_pu {i : Nat} {d : PyData} {v : Option V} {a : Addr} : Lv (r.set i (.pu d)) (σ.set i v) a → Lv r σ a := fun ⟨j, t, ds, e1, e2⟩ => by
  rcases set_get e1 with ⟨_, q⟩ | ⟨q, e1⟩
  · cases q
  · rw [set_other q] at e2
    exact ⟨j, t, ds, e1, e2⟩
theorem lv_fr {i : Nat} {d : PyData} {a : Addr} : Lv (r.set i (.pu d)) σ a → Lv r σ a := fun ⟨j, t, ds, e1, e2⟩ => by
  rcases set_get e1 with ⟨_, q⟩ | ⟨q, e1⟩
  · cases q
  · exact ⟨j, t, ds, e1, e2⟩
theorem sub_lv {P Q : Addr → Prop} (h : ∀ a, P a → Q a) : Sub (fz (fun x => hid x ∨ Q x) H) (fz (fun x => hid x ∨ P x) H) := fun a o e => by
  obtain ⟨n, e⟩ := fz_some.mp e
  exact fz_some.mpr ⟨fun q => n (q.elim .inl fun z => .inr (h a z)), e⟩
/-- an owned list becomes a value -/
theorem Sim.frz (S : Sim K hid pa r σ H) {i : Nat} {t : Bool} {ds : List PyData} (e : r[i]? = some (.ow t ds)) :
    ∃ v, σ[i]? = some (some v) ∧ Dq K (fz (fun a => hid a ∨ Lv (r.set i (.pu (.list ds))) σ a) H) v (.list ds) ∧ Sim K hid pa (r.set i (.pu (.list ds))) σ H := by
  obtain ⟨a, vs, h1, h2, h3, h4, _⟩ := S.ow i t ds e
  have sb : Sub (fz (fun x => hid x ∨ Lv r σ x) H) (fz (fun x => hid x ∨ Lv (r.set i (.pu (.list ds))) σ x) H) := sub_lv fun a h => lv_fr h
  have na : ¬ Lv (r.set i (.pu (.list ds))) σ a := fun ⟨j, u, es, q1, q2⟩ => by
    rcases set_get q1 with ⟨_, q⟩ | ⟨q, q1⟩
    · cases q
    · exact q (S.inj j i u t es ds a q1 e q2 h1)
  have dv : Dq K (fz (fun a => hid a ∨ Lv (r.set i (.pu (.list ds))) σ a) H) (.ref a) (.list ds) :=
    .lst (.inl (.inl (fz_some.mpr ⟨fun q => q.elim h3 na, h2⟩))) (DpAll_mono sb h4)
  refine ⟨.ref a, h1, dv, ⟨by rw [List.length_set]; exact S.len, fun j d q => ?_, fun j u es q => ?_, S.hd, fun j k t u ds' es b q1 q2 => ?_⟩⟩
  · rcases set_get q with ⟨rfl, zz⟩ | ⟨_, q⟩
    · cases zz; exact ⟨.ref a, h1, dv⟩
    · obtain ⟨v, z1, z2⟩ := S.pu j d q
      exact ⟨v, z1, Dp_mono sb z2⟩
  · rcases set_get q with ⟨_, q⟩ | ⟨_, q⟩
    · cases q
    · obtain ⟨b, ws, z1, z2, z3, z4, z5⟩ := S.ow j u es q
      exact ⟨b, ws, z1, z2, z3, DpAll_mono sb z4, z5⟩
  · rcases set_get q1 with ⟨_, q⟩ | ⟨_, q1⟩
    · cases q
    · rcases set_get q2 with ⟨_, q⟩ | ⟨_, q2⟩
      · cases q
      · exact S.inj j k t u ds' es b q1 q2
/-- a value comes to a slot -/
theorem Sim.put (S : Sim K hid pa r σ H) {i : Nat} {d : PyData} {v : V} (hi : i < r.length) (h : Dq K (fz (fun a => hid a ∨ Lv r σ a) H) v d) : Sim K hid pa (r.set i (.pu d)) (σ.set i (some v)) H := by
  have sb : Sub (fz (fun x => hid x ∨ Lv r σ x) H) (fz (fun x => hid x ∨ Lv (r.set i (.pu d)) (σ.set i (some v)) x) H) := sub_lv fun a h => lv_set_pu h
  refine ⟨by rw [List.length_set, List.length_set]; exact S.len, fun j d' q => ?_, fun j u es q => ?_, S.hd, fun j k t u ds' es b q1 q2 p1 p2 => ?_⟩
  · rcases set_get q with ⟨rfl, zz⟩ | ⟨n, q⟩
    · cases zz; exact ⟨v, set_self (by rw [← S.len]; exact hi), Dp_mono sb h⟩
    · obtain ⟨v, z1, z2⟩ := S.pu j d' q
      exact ⟨v, by rw [set_other n]; exact z1, Dp_mono sb z2⟩
  · rcases set_get q with ⟨_, q⟩ | ⟨n, q⟩
    · cases q
    · obtain ⟨b, ws, z1, z2, z3, z4, z5⟩ := S.ow j u es q
      exact ⟨b, ws, by rw [set_other n]; exact z1, z2, z3, DpAll_mono sb z4, z5⟩
  · rcases set_get q1 with ⟨_, q⟩ | ⟨n1, q1⟩
    · cases q
    · rcases set_get q2 with ⟨_, q⟩ | ⟨n2, q2⟩
      · cases q
      · rw [set_other n1] at p1
        rw [set_other n2] at p2
        exact S.inj j k t u ds' es b q1 q2 p1 p2
/-- slots forgotten -/
theorem Sim.unset (S : Sim K hid pa r σ H) (i : Nat) (v : Option V) : Sim K hid pa (r.set i .un) (σ.set i v) H := by
  have lv : ∀ a, Lv (r.set i .un) (σ.set i v) a → Lv r σ a := fun a ⟨j, t, ds, e1, e2⟩ => by
    rcases set_get e1 with ⟨_, q⟩ | ⟨q, e1⟩
    · cases q
    · rw [set_other q] at e2
      exact ⟨j, t, ds, e1, e2⟩
  refine ⟨by rw [List.length_set, List.length_set]; exact S.len, fun j d' q => ?_, fun j u es q => ?_, S.hd, fun j k t u ds' es b q1 q2 p1 p2 => ?_⟩
  · rcases set_get q with ⟨rfl, zz⟩ | ⟨n, q⟩
    · cases zz
    · obtain ⟨v, z1, z2⟩ := S.pu j d' q
      exact ⟨v, by rw [set_other n]; exact z1, Dp_mono (sub_lv lv) z2⟩
  · rcases set_get q with ⟨_, q⟩ | ⟨n, q⟩
    · cases q
    · obtain ⟨b, ws, z1, z2, z3, z4, z5⟩ := S.ow j u es q
      exact ⟨b, ws, by rw [set_other n]; exact z1, z2, z3, DpAll_mono (sub_lv lv) z4, z5⟩
  · rcases set_get q1 with ⟨_, q⟩ | ⟨n1, q1⟩
    · cases q
    · rcases set_get q2 with ⟨_, q⟩ | ⟨n2, q2⟩
      · cases q
      · rw [set_other n1] at p1
        rw [set_other n2] at p2
        exact S.inj j k t u ds' es b q1 q2 p1 p2
/-- a new list comes to a slot, which owns it -/
theorem Sim.own {p : Addr} (S : Sim K (fun a => hid a ∨ a = p) pa r σ H) {i : Nat} {ds : List PyData} {vs : List V} (hi : i < r.length) (hp : H p = some (.lst vs)) (np : ¬ hid p)
    (h : DqAll K (fz (fun a => (hid a ∨ a = p) ∨ Lv r σ a) H) vs ds) : Sim K hid pa (r.set i (.ow false ds)) (σ.set i (some (.ref p))) H := by
  have hiσ : i < σ.length := by rw [← S.len]; exact hi
  have lv : ∀ a, Lv (r.set i (.ow false ds)) (σ.set i (some (.ref p))) a → Lv r σ a ∨ a = p := fun a ⟨j, t, es, e1, e2⟩ => by
    rcases set_get e1 with ⟨rfl, q⟩ | ⟨q, e1⟩
    · rw [set_self hiσ] at e2
      cases e2
      exact .inr rfl
    · rw [set_other q] at e2
      exact .inl ⟨j, t, es, e1, e2⟩
  have sb : Sub (fz (fun a => (hid a ∨ a = p) ∨ Lv r σ a) H) (fz (fun x => hid x ∨ Lv (r.set i (.ow false ds)) (σ.set i (some (.ref p))) x) H) := fun a o e => by
    obtain ⟨n, e⟩ := fz_some.mp e
    refine fz_some.mpr ⟨fun q => ?_, e⟩
    rcases q with q | q
    · exact n (.inl (.inl q))
    · rcases lv a q with z | z
      · exact n (.inr z)
      · exact n (.inl (.inr z))
  refine ⟨by rw [List.length_set, List.length_set]; exact S.len, fun j d' q => ?_, fun j u es q => ?_, (fun a h => S.hd a (.inl h)), fun j k t u ds' es b q1 q2 p1 p2 => ?_⟩
  · rcases set_get q with ⟨_, q⟩ | ⟨n, q⟩
    · cases q
    · obtain ⟨v, z1, z2⟩ := S.pu j d' q
      exact ⟨v, by rw [set_other n]; exact z1, Dp_mono sb z2⟩
  · rcases set_get q with ⟨rfl, zz⟩ | ⟨n, q⟩
    · cases zz
      exact ⟨p, vs, set_self hiσ, hp, np, DpAll_mono sb h, fun z => nomatch z⟩
    · obtain ⟨b, ws, z1, z2, z3, z4, z5⟩ := S.ow j u es q
      exact ⟨b, ws, by rw [set_other n]; exact z1, z2, fun z => z3 (.inl z), DpAll_mono sb z4, z5⟩
  · have notp : ∀ {j' : Nat} {t' : Bool} {es' : List PyData}, r[j']? = some (Sl.ow t' es') → σ[j']? = some (some (.ref p)) → False := fun {j' t' es'} e1 e2 => by
      obtain ⟨b, ws, z1, _, z3, _, _⟩ := S.ow j' t' es' e1
      rw [e2] at z1; cases z1
      exact z3 (.inr rfl)
    rcases set_get q1 with ⟨e1, _⟩ | ⟨n1, z1⟩
    · rw [e1, set_self hiσ] at p1
      cases p1
      rcases set_get q2 with ⟨e2, _⟩ | ⟨n2, z2⟩
      · rw [e1, e2]
      · rw [set_other n2] at p2
        exact (notp z2 p2).elim
    · rw [set_other n1] at p1
      rcases set_get q2 with ⟨e2, _⟩ | ⟨n2, z2⟩
      · rw [e2, set_self hiσ] at p2
        cases p2
        exact (notp z1 p1).elim
      · rw [set_other n2] at p2
        exact S.inj j k t u ds' es b z1 z2 p1 p2
/-- an owned list is changed -/
theorem Sim.chg (S : Sim K hid pa r σ H) {i : Nat} {t : Bool} {ds ds' : List PyData} {a : Addr} {vs' : List V} (e : r[i]? = some (.ow t ds)) (ea : σ[i]? = some (some (.ref a)))
    (h : DqAll K (fz (fun a => hid a ∨ Lv r σ a) H) vs' ds') : Sim K hid pa (r.set i (.ow t ds')) σ (upd H a (.lst vs')) := by
  have hi := lt_of_some e
  have lva : Lv r σ a := ⟨i, t, ds, e, ea⟩
  have lv : ∀ b, Lv (r.set i (.ow t ds')) σ b ↔ Lv r σ b := fun b => ⟨fun ⟨j, u, es, e1, e2⟩ => by
      rcases set_get e1 with ⟨rfl, q⟩ | ⟨q, e1⟩
      · exact ⟨j, t, ds, e, e2⟩
      · exact ⟨j, u, es, e1, e2⟩, fun ⟨j, u, es, e1, e2⟩ => by
      by_cases z : j = i
      · subst z
        exact ⟨j, t, ds', set_self hi, e2⟩
      · exact ⟨j, u, es, by rw [set_other z]; exact e1, e2⟩⟩
  have sb : Sub (fz (fun x => hid x ∨ Lv r σ x) H) (fz (fun x => hid x ∨ Lv (r.set i (.ow t ds')) σ x) (upd H a (.lst vs'))) := fun b o q => by
    obtain ⟨n, q⟩ := fz_some.mp q
    refine fz_some.mpr ⟨fun z => n (z.elim .inl fun z => .inr ((lv b).mp z)), ?_⟩
    rw [upd_ne (fun z => n (.inr (by rw [z]; exact lva)))]
    exact q
  refine ⟨by rw [List.length_set]; exact S.len, fun j d' q => ?_, fun j u es q => ?_, (fun b h => by
    by_cases z : b = a
    · subst z; rw [upd_same]; exact fun z => nomatch z
    · rw [upd_ne z]; exact S.hd b h), fun j k t' u ds' es b q1 q2 p1 p2 => ?_⟩
  · rcases set_get q with ⟨_, q⟩ | ⟨n, q⟩
    · cases q
    · obtain ⟨v, z1, z2⟩ := S.pu j d' q
      exact ⟨v, z1, Dp_mono sb z2⟩
  · rcases set_get q with ⟨rfl, zz⟩ | ⟨n, q⟩
    · cases zz
      obtain ⟨b, ws, z1, z2, z3, z4, z5⟩ := S.ow j t ds e
      rw [ea] at z1; cases z1
      exact ⟨a, vs', ea, upd_same, z3, DpAll_mono sb h, z5⟩
    · obtain ⟨b, ws, z1, z2, z3, z4, z5⟩ := S.ow j u es q
      have nb : b ≠ a := fun z => by
        subst z
        exact n (S.inj j i u t es ds b q e z1 ea)
      exact ⟨b, ws, z1, by rw [upd_ne nb]; exact z2, z3, DpAll_mono sb z4, z5⟩
  · have back : ∀ {j' : Nat} {t' : Bool} {es' : List PyData}, (r.set i (.ow t ds'))[j']? = some (Sl.ow t' es') → ∃ t'' es'', r[j']? = some (Sl.ow t'' es'') := fun {j' t' es'} q => by
      rcases set_get q with ⟨rfl, _⟩ | ⟨_, q⟩
      · exact ⟨_, _, e⟩
      · exact ⟨_, _, q⟩
    have q1' : ∃ t'' es'', r[j]? = some (Sl.ow t'' es'') := by
      rcases set_get q1 with ⟨rfl, _⟩ | ⟨_, q⟩
      · exact ⟨_, _, e⟩
      · exact ⟨_, _, q⟩
    have q2' : ∃ t'' es'', r[k]? = some (Sl.ow t'' es'') := by
      rcases set_get q2 with ⟨rfl, _⟩ | ⟨_, q⟩
      · exact ⟨_, _, e⟩
      · exact ⟨_, _, q⟩
    obtain ⟨_, _, q1'⟩ := q1'
    obtain ⟨_, _, q2'⟩ := q2'
    exact S.inj j k _ _ _ _ b q1' q2' p1 p2
theorem Ext.chg {t : Bool} {ds ds' : List PyData} {i : Nat} {a : Addr} {o : HO} (e : r[i]? = some (.ow t ds)) (ea : σ[i]? = some (some (.ref a))) : Ext (Lv r σ) H (Lv (r.set i (.ow t ds')) σ) (upd H a o) where
  keep := fun b u h n => by rw [upd_ne (fun z => n ⟨i, t, ds, e, by rw [z]; exact ea⟩)]; exact h
  liv := fun b ⟨j, u, es, e1, e2⟩ => by
    rcases set_get e1 with ⟨rfl, q⟩ | ⟨q, e1⟩
    · exact .inl ⟨j, t, ds, e, e2⟩
    · exact .inl ⟨j, u, es, e1, e2⟩
  dom := fun a h => dom_upd h
end
end DL
end
section
set_option maxHeartbeats 200000
set_option maxRecDepth 100000
/-! DC: the operations on data, by the hand layer's rules. -/
namespace DL
open PySem L2

/-- the heap grows by at most one object -/
def Grow (H H' : Hp) : Prop := H' = H ∨ ∃ p o, H p = none ∧ H' = upd H p o
section
variable {K : PySem.W.Frag} {hid : Addr → Prop} {pa : Addr} {r : Evn} {σ : L2.St} {H H' : Hp}
theorem Sim.grow (S : Sim K hid pa r σ H) (g : Grow H H') : Sim K hid pa r σ H' := by
  rcases g with rfl | ⟨p, o, n, rfl⟩
  · exact S
  · exact S.new n
theorem Grow.ext {L : Addr → Prop} (g : Grow H H') : Ext L H L H' := by
  rcases g with rfl | ⟨p, o, n, rfl⟩
  · exact .refl
  · exact .mk_new n
theorem Grow.sub {P : Addr → Prop} (g : Grow H H') : Sub (fz P H) (fz P H') := by
  rcases g with rfl | ⟨p, o, n, rfl⟩
  · exact fun _ _ h => h
  · exact sub_upd n
theorem Sim.held (S : Sim K hid pa r σ H) : ∀ a, (hid a ∨ Lv r σ a) → H a ≠ none := fun a h => by
  rcases h with h | h
  · exact S.hd a h
  · obtain ⟨vs, e, _⟩ := S.lv_some h
    rw [e]; exact fun z => nomatch z
end
theorem if_some {c : Prop} [Decidable c] {α : Type} {x y : α} (h : (if c then some x else none) = some y) : c ∧ x = y := by
  by_cases e : c
  · rw [if_pos e] at h
    exact ⟨e, Option.some.inj h⟩
  · rw [if_neg e] at h; cases h
theorem fz_sub {P : Addr → Prop} {H : Hp} : Sub (fz P H) H := fun a o h => (fz_some.mp h).2
theorem fz_new {P : Addr → Prop} {H : Hp} {p : Addr} {o : HO} (hP : ∀ a, P a → H a ≠ none) (n : H p = none) : fz P (upd H p o) p = some o := fz_some.mpr ⟨fun h => hP p h n, upd_same⟩
theorem DpAll_len {K : PySem.W.Frag} {F : Hp} : ∀ {ds : List PyData} {vs : List V}, DqAll K F vs ds → vs.length = ds.length
  | [], _, h => by cases h; rfl
  | _ :: _, _, h => by cases h with | cons _ t => simp [DpAll_len t]
theorem DpAll_get {K : PySem.W.Frag} {F : Hp} : ∀ {ds : List PyData} {vs : List V} {i : Nat} {d : PyData}, DqAll K F vs ds → ds[i]? = some d → ∃ v, vs[i]? = some v ∧ Dq K F v d
  | [], _, _, _, h, e => by simp at e
  | _ :: _, _, 0, _, h, e => by
    cases h with
    | cons a t => simp at e; subst e; exact ⟨_, rfl, a⟩
  | _ :: _, _, i + 1, _, h, e => by
    cases h with
    | cons a t =>
      obtain ⟨v, h1, h2⟩ := DpAll_get (i := i) t (by simpa using e)
      exact ⟨v, by simpa using h1, h2⟩
theorem DpAll_app {K : PySem.W.Frag} {F : Hp} : ∀ {ds es : List PyData} {vs ws : List V}, DqAll K F vs ds → DqAll K F ws es → DqAll K F (vs ++ ws) (ds ++ es)
  | [], _, _, _, h, g => by cases h; exact g
  | _ :: _, _, _, _, h, g => by cases h with | cons a t => exact .cons a (DpAll_app t g)
theorem DpAll_drop {K : PySem.W.Frag} {F : Hp} : ∀ (n : Nat) {ds : List PyData} {vs : List V}, DqAll K F vs ds → DqAll K F (vs.drop n) (ds.drop n)
  | 0, _, _, h => h
  | _ + 1, [], _, h => by cases h; exact .nil
  | n + 1, _ :: _, _, h => by cases h with | cons a t => exact DpAll_drop n t
theorem DpAll_take {K : PySem.W.Frag} {F : Hp} : ∀ (n : Nat) {ds : List PyData} {vs : List V}, DqAll K F vs ds → DqAll K F (vs.take n) (ds.take n)
  | 0, _, _, _ => .nil
  | _ + 1, [], _, h => by cases h; exact .nil
  | n + 1, _ :: _, _, h => by cases h with | cons a t => exact .cons a (DpAll_take n t)
theorem DpAll_set {K : PySem.W.Frag} {F : Hp} {v : V} {d : PyData} (hv : Dq K F v d) : ∀ (n : Nat) {ds : List PyData} {vs : List V}, DqAll K F vs ds → DqAll K F (vs.set n v) (ds.set n d)
  | _, [], _, h => by cases h; exact .nil
  | 0, _ :: _, _, h => by cases h with | cons a t => exact .cons hv t
  | n + 1, _ :: _, _, h => by cases h with | cons a t => exact .cons a (DpAll_set hv n t)
theorem DpAll_rev {K : PySem.W.Frag} {F : Hp} : ∀ {ds : List PyData} {vs : List V}, DqAll K F vs ds → DqAll K F vs.reverse ds.reverse
  | [], _, h => by cases h; exact .nil
  | _ :: _, _, h => by
    cases h with
    | cons a t =>
      rw [List.reverse_cons, List.reverse_cons]
      exact DpAll_app (DpAll_rev t) (.cons a .nil)
theorem DpAll_ints {K : PySem.W.Frag} {F : Hp} : ∀ {ns : List Int} {ds : List PyData} {vs : List V}, ints? ds = some ns → DqAll K F vs ds → vs = ns.map V.int
  | ns, [], _, e, h => by cases h; cases e; rfl
  | ns, d :: ds, _, e, h => by
    cases h with
    | cons a t =>
      cases d with
      | int i =>
        cases a
        unfold ints? at e
        cases q : ints? ds with
        | none => rw [q] at e; cases e
        | some ms =>
          rw [q] at e
          cases e
          rw [DpAll_ints q t]
          rfl
      | _ => cases e
theorem DpAll_bools {K : PySem.W.Frag} {F : Hp} : ∀ {ns : List Bool} {ds : List PyData} {vs : List V}, bools? ds = some ns → DqAll K F vs ds → vs = ns.map V.bl
  | ns, [], _, e, h => by cases h; cases e; rfl
  | ns, d :: ds, _, e, h => by
    cases h with
    | cons a t =>
      cases d with
      | bool i =>
        cases a
        unfold bools? at e
        cases q : bools? ds with
        | none => rw [q] at e; cases e
        | some ms =>
          rw [q] at e
          cases e
          rw [DpAll_bools q t]
          rfl
      | _ => cases e
theorem ints_dp {K : PySem.W.Frag} {F : Hp} : ∀ {ns : List Int}, DqAll K F (ns.map V.int) (ns.map PyData.int)
  | [] => .nil
  | _ :: _ => .cons (.int _) ints_dp
/-- a two-place operation on data -/
def OpD (X : Cx) (f : Value → Value → Sem Value) (g : PyData → PyData → Option PyData) : Prop :=
  OpR X f fun x y H Q => ∃ (P : Addr → Prop) (d e z : PyData), (∀ a, P a → H a ≠ none) ∧ Dq X.K (fz P H) x d ∧ Dq X.K (fz P H) y e ∧ g d e = some z ∧ ∀ v H', Grow H H' → Dq X.K (fz P H') v z → Q v H'
section
variable {X : Cx}
theorem LsK_fz {K : PySem.W.Frag} {P : Addr → Prop} {H : Hp} {a : Addr} {xs : List V} (h : LsK K (fz P H) a xs) : LsK K H a xs := LsK.mono fz_sub h
theorem SqL_fz {K : PySem.W.Frag} {P : Addr → Prop} {H : Hp} {a : Addr} {xs : List V} (h : LsK K (fz P H) a xs) : SqL K H a xs := (LsK_fz h).sq
theorem Inv.isl {pins : List (Addr × Obj)} {σ : L2.St} {H : Hp} {s : Shared} {a : Addr} {xs : List V} (I : Inv X pins σ H s) (h : LsK X.K H a xs) : ∃ its n, Vals xs its ∧ s.heap.get? a = some { cls := .type "list", data := .seq its.toArray n } := by
  rcases h with (h | ⟨o, h⟩) | ⟨its, n, h1, h2, h3⟩
  · obtain ⟨_, its, n, rv, e⟩ := I.hok _ _ h
    exact ⟨its, n, rv, e⟩
  · obtain ⟨_, _, its, n, rv, e⟩ := I.hok _ _ h
    exact ⟨its, n, rv, e⟩
  · exact ⟨its, n, h3, I.kIn _ _ h1⟩
theorem SqT_fz {K : PySem.W.Frag} {P : Addr → Prop} {H : Hp} {a : Addr} {xs : List V} (h : SqT K (fz P H) a xs) : SqT K H a xs := by
  rcases h with (h | ⟨o, h⟩) | h
  · exact .inl (.inl (fz_sub _ _ h))
  · exact .inl (.inr ⟨o, fz_sub _ _ h⟩)
  · exact .inr h
theorem Dp_fz {K : PySem.W.Frag} {P : Addr → Prop} {H : Hp} {v : V} {d : PyData} (h : Dq K (fz P H) v d) : Dq K H v d := Dp_mono fz_sub h
/-- lists joined, whatever may be read -/
theorem op_catS : OpR X (binaryOp .Add) (fun x y H Q => ∃ a b xs zs, x = .ref a ∧ y = .ref b ∧ LsK X.K H a xs ∧ LsK X.K H b zs ∧ xs.length + zs.length ≤ sizeLine ∧ ∀ p, H p = none → Q (.ref p) (upd H p (.lst (xs ++ zs)))) := by
  intro pins s σ H x y v u Q I rx ry ⟨a, b, xs, zs, ex, ey, h1, h2, hz, q⟩
  subst ex ey
  cases rx; cases ry
  obtain ⟨i1, n1, r1, g1⟩ := Inv.isl I h1
  obtain ⟨i2, n2, r2, g2⟩ := Inv.isl I h2
  have l1 := r1.length
  have l2 := r2.length
  refine PySem.P.add_list g1 g2 ?_ (by rw [List.size_toArray, List.size_toArray, ← l1, ← l2]; exact hz)
  rw [show i1.toArray ++ i2.toArray = (i1 ++ i2).toArray by simp]
  exact ⟨.ref _, _, I.lnew (t' := s.toks) (r1.append r2) (by rw [List.length_append]; exact hz), rfl, q _ I.fresh⟩
theorem opd_add : OpD X (binaryOp .Add) (binD .add) := by
  intro pins s σ H x y v u Q I rx ry ⟨P, d, e, z, hP, hd, he, hg, q⟩
  cases d <;> cases e <;> first | (cases hg; done) | skip
  · cases hd; cases he; cases hg
    exact op_add pins s σ H _ _ v u Q I rx ry ⟨_, _, rfl, rfl, q _ _ (.inl rfl) (.int _)⟩
  · rename_i a b
    cases hd; cases he
    obtain ⟨hl, rfl⟩ := if_some hg
    exact op_add_str pins s σ H _ _ v u Q I rx ry ⟨_, _, rfl, rfl, hl, q _ _ (.inl rfl) (.str _)⟩
  · rename_i xs ys
    cases hd with
    | @lst a vs _ h1 h2 =>
      cases he with
      | @lst b ws _ h3 h4 =>
        obtain ⟨hl, rfl⟩ := if_some hg
        refine op_catS pins s σ H _ _ v u Q I rx ry ⟨_, _, _, _, rfl, rfl, LsK_fz h1, LsK_fz h3, by rw [DpAll_len h2, DpAll_len h4]; exact hl, fun p np => ?_⟩
        exact q _ _ (.inr ⟨p, _, np, rfl⟩) (.lst (.inl (.inl (fz_new hP np))) (DpAll_mono (sub_upd np) (DpAll_app h2 h4)))
  · rename_i xs ys
    cases hd with
    | @tup a vs _ h1 h2 =>
      cases he with
      | @tup b ws _ h3 h4 =>
        obtain ⟨hl, rfl⟩ := if_some hg
        have n1 : vs ≠ [] := fun z => hl.1 (by cases h2 with | nil => rfl | cons _ _ => cases z)
        refine op_catT pins s σ H _ _ v u Q I rx ry ⟨_, _, _, _, rfl, rfl, SqT_fz h1, SqT_fz h3, n1, by rw [DpAll_len h2, DpAll_len h4]; exact hl.2, fun z => ?_, fun z p np => ?_⟩
        · subst z
          cases h4
          rw [List.append_nil] at q
          exact q _ _ (.inl rfl) (.tup h1 h2)
        · exact q _ _ (.inr ⟨p, _, np, rfl⟩) (.tup (.inl (.inl (fz_new hP np))) (DpAll_mono (sub_upd np) (DpAll_app h2 h4)))
theorem opd_sub : OpD X (binaryOp .Sub) (binD .sub) := by
  intro pins s σ H x y v u Q I rx ry ⟨P, d, e, z, hP, hd, he, hg, q⟩
  cases d <;> cases e <;> first | (cases hg; done) | skip
  cases hd; cases he; cases hg
  exact op_sub pins s σ H _ _ v u Q I rx ry ⟨_, _, rfl, rfl, q _ _ (.inl rfl) (.int _)⟩
theorem small64_of {i : Int} (h : small64 i = true) : -(2 ^ 64) < i ∧ i < 2 ^ 64 := by
  unfold small64 at h
  simpa using h
theorem opd_mul : OpD X (binaryOp .Mult) (binD .mul) := by
  intro pins s σ H x y v u Q I rx ry ⟨P, d, e, z, hP, hd, he, hg, q⟩
  cases d <;> cases e <;> first | (cases hg; done) | skip
  cases hd; cases he
  obtain ⟨hl, rfl⟩ := if_some hg
  refine op_mul pins s σ H _ _ v u Q I rx ry ⟨_, _, rfl, rfl, ?_, q _ _ (.inl rfl) (.int _)⟩
  rcases Bool.or_eq_true_iff.mp hl with h | h
  · exact .inl (small64_of h)
  · exact .inr (small64_of h)
theorem opd_fdiv : OpD X (binaryOp .FloorDiv) (binD .fdiv) := by
  intro pins s σ H x y v u Q I rx ry ⟨P, d, e, z, hP, hd, he, hg, q⟩
  cases d <;> cases e <;> first | (cases hg; done) | skip
  cases hd; cases he
  obtain ⟨hl, rfl⟩ := if_some hg
  exact op_fdiv pins s σ H _ _ v u Q I rx ry ⟨_, _, rfl, rfl, hl, q _ _ (.inl rfl) (.int _)⟩
theorem opd_mod : OpD X (binaryOp .Mod) (binD .mod) := by
  intro pins s σ H x y v u Q I rx ry ⟨P, d, e, z, hP, hd, he, hg, q⟩
  cases d <;> cases e <;> first | (cases hg; done) | skip
  cases hd; cases he
  obtain ⟨hl, rfl⟩ := if_some hg
  exact op_mod pins s σ H _ _ v u Q I rx ry ⟨_, _, rfl, rfl, hl, q _ _ (.inl rfl) (.int _)⟩
theorem opd_pow : OpD X (binaryOp .Pow) (binD .pow) := by
  intro pins s σ H x y v u Q I rx ry ⟨P, d, e, z, hP, hd, he, hg, q⟩
  cases d <;> cases e <;> first | (cases hg; done) | skip
  cases hd; cases he
  obtain ⟨hl, rfl⟩ := if_some hg
  exact op_pow pins s σ H _ _ v u Q I rx ry ⟨_, _, rfl, rfl, ⟨hl.1.1, hl.1.2, hl.2⟩, q _ _ (.inl rfl) (.int _)⟩
def Bop.op : Bop → Operator
  | .add => .Add | .sub => .Sub | .mul => .Mult | .fdiv => .FloorDiv | .mod => .Mod | .pow => .Pow
theorem opd_bin (o : Bop) : OpD X (binaryOp o.op) (binD o) := by
  cases o
  · exact opd_add
  · exact opd_sub
  · exact opd_mul
  · exact opd_fdiv
  · exact opd_mod
  · exact opd_pow
def Cop.op : Cop → CmpOp
  | .eq => .Eq | .ne => .NotEq | .lt => .Lt | .le => .LtE | .gt => .Gt | .ge => .GtE | .is => .Is | .isnot => .IsNot | .inn => .In | .notin => .NotIn
theorem and_sh {a b : Bool} {α : Type} {x y : α} (h : (if (a && b) = true then some x else none) = some y) : (a = true ∧ b = true) ∧ x = y := by
  by_cases e : (a && b) = true
  · rw [if_pos e] at h
    exact ⟨by simpa using e, Option.some.inj h⟩
  · rw [if_neg e] at h; cases h
/-- x in t, t a tuple -/
theorem op_inT (neg : Bool) (hu : X.A.units + 65 < cLine) : OpR X (compareOp (if neg then .NotIn else .In)) (fun x y H Q => ∃ d ds, Dp X.K H x d ∧ Dp X.K H y (.tuple ds) ∧ SeqAt.shaped d = true ∧ SeqAt.shaped (.tuple ds) = true ∧ Q (.bl (if neg then !ds.any fun z => PyData.eqv z d else ds.any fun z => PyData.eqv z d)) H) := by
  intro pins s σ H x y v u Q I rx ry ⟨d, ds, hd, he, sd, se, q⟩
  obtain ⟨as, w1⟩ := Dp.reads I d x v hd rx
  obtain ⟨bs, w2⟩ := Dp.reads I (.tuple ds) y u he ry
  have room : X.A.units + 1 + min (PyData.depthAll ds) d.depth < cLine := by
    have h1 := SeqAt.depth_of_shaped sd
    have h2 : min (PyData.depthAll ds) d.depth ≤ d.depth := Nat.min_le_right _ _
    omega
  cases neg
  · exact SeqAt.in_tuple_reads w2 w1 (SeqAt.canLay_of_shaped se) (SeqAt.canLay_of_shaped sd) room ⟨.bl _, H, I, rfl, q⟩
  · exact SeqAt.notIn_tuple_reads w2 w1 (SeqAt.canLay_of_shaped se) (SeqAt.canLay_of_shaped sd) room ⟨.bl _, H, I, rfl, q⟩
theorem isnone_dp {K : PySem.W.Frag} {F : Hp} {v : V} {d : PyData} (h : Dq K F v d) : decide (v = V.non) = isN d := by
  cases h <;> rfl
theorem opd_cmp (hu : X.A.units + 65 < cLine) (o : Cop) : OpD X (compareOp o.op) (cmpD o) := by
  have hu0 : X.A.units + 64 < cLine := by omega
  intro pins s σ H x y v u Q I rx ry ⟨P, d, e, z, hP, hd, he, hg, q⟩
  have hd' := Dq.dp (Dp_fz hd)
  have he' := Dq.dp (Dp_fz he)
  cases o
  · have gen : (if SeqAt.shaped d && SeqAt.shaped e then some (PyData.bool (PyData.eqv d e)) else none) = some z → wpAny (model X.prog X.w) X.A (compareOp .Eq v u) (EP X pins σ Q) X.xe s := fun hg => by
      obtain ⟨⟨h1, h2⟩, rfl⟩ := and_sh hg
      exact op_eqD hu0 pins s σ H _ _ v u Q I rx ry ⟨_, _, hd', he', h1, h2, q _ _ (.inl rfl) (.bl _)⟩
    cases d <;> cases e <;> first | (exact gen hg) | skip
    · cases hd; cases he; cases hg
      exact op_eq pins s σ H _ _ v u Q I rx ry ⟨rfl, q _ _ (.inl rfl) (by rw [show ∀ a b : Str, decide (V.str a = V.str b) = decide (a = b) from fun a b => by simp]; exact .bl _)⟩
  · have gen : (if SeqAt.shaped d && SeqAt.shaped e then some (PyData.bool (!PyData.eqv d e)) else none) = some z → wpAny (model X.prog X.w) X.A (compareOp .NotEq v u) (EP X pins σ Q) X.xe s := fun hg => by
      obtain ⟨⟨h1, h2⟩, rfl⟩ := and_sh hg
      exact op_neD hu0 pins s σ H _ _ v u Q I rx ry ⟨_, _, hd', he', h1, h2, q _ _ (.inl rfl) (.bl _)⟩
    cases d <;> cases e <;> first | (exact gen hg) | skip
    · cases hd; cases he; cases hg
      exact op_ne pins s σ H _ _ v u Q I rx ry ⟨rfl, q _ _ (.inl rfl) (by rw [show ∀ a b : Str, decide (V.str a = V.str b) = decide (a = b) from fun a b => by simp]; exact .bl _)⟩
  · cases d <;> cases e <;> first | (cases hg; done) | skip
    cases hd; cases he; cases hg
    exact op_lt pins s σ H _ _ v u Q I rx ry ⟨_, _, rfl, rfl, q _ _ (.inl rfl) (.bl _)⟩
  · cases d <;> cases e <;> first | (cases hg; done) | skip
    cases hd; cases he; cases hg
    exact op_le pins s σ H _ _ v u Q I rx ry ⟨_, _, rfl, rfl, q _ _ (.inl rfl) (.bl _)⟩
  · cases d <;> cases e <;> first | (cases hg; done) | skip
    cases hd; cases he; cases hg
    exact op_gt pins s σ H _ _ v u Q I rx ry ⟨_, _, rfl, rfl, q _ _ (.inl rfl) (.bl _)⟩
  · cases d <;> cases e <;> first | (cases hg; done) | skip
    cases hd; cases he; cases hg
    exact op_ge pins s σ H _ _ v u Q I rx ry ⟨_, _, rfl, rfl, q _ _ (.inl rfl) (.bl _)⟩
  · cases e <;> first | (cases hg; done) | skip
    cases he
    have e1 : z = .bool (decide (x = V.non)) := by rw [isnone_dp hd]; exact (Option.some.inj hg).symm
    subst e1
    exact op_isN pins s σ H _ _ v u Q I rx ry ⟨rfl, q _ _ (.inl rfl) (.bl _)⟩
  · cases e <;> first | (cases hg; done) | skip
    cases he
    have e1 : z = .bool (!decide (x = V.non)) := by
      rw [isnone_dp hd]
      exact (Option.some.inj hg).symm
    subst e1
    exact op_notN pins s σ H _ _ v u Q I rx ry ⟨rfl, q _ _ (.inl rfl) (.bl _)⟩
  · cases e <;> first | (cases hg; done) | skip
    · obtain ⟨⟨h1, h2⟩, rfl⟩ := and_sh hg
      exact op_inD hu pins s σ H _ _ v u Q I rx ry ⟨_, _, hd', he', h1, h2, q _ _ (.inl rfl) (.bl _)⟩
    · obtain ⟨⟨h1, h2⟩, rfl⟩ := and_sh hg
      exact op_inT false hu pins s σ H _ _ v u Q I rx ry ⟨_, _, hd', he', h1, h2, q _ _ (.inl rfl) (.bl _)⟩
  · cases e <;> first | (cases hg; done) | skip
    · obtain ⟨⟨h1, h2⟩, rfl⟩ := and_sh hg
      exact op_notInD hu pins s σ H _ _ v u Q I rx ry ⟨_, _, hd', he', h1, h2, q _ _ (.inl rfl) (.bl _)⟩
    · obtain ⟨⟨h1, h2⟩, rfl⟩ := and_sh hg
      exact op_inT true hu pins s σ H _ _ v u Q I rx ry ⟨_, _, hd', he', h1, h2, q _ _ (.inl rfl) (.bl _)⟩
/-- truth -/
theorem tru_dp {K : PySem.W.Frag} {P : Addr → Prop} {H : Hp} {v : V} {d : PyData} {t : Bool} (h : Dq K (fz P H) v d) (e : truD d = some t) : TruV K v H t := by
  cases h with
  | non => exact (Option.some.inj e).symm
  | bl b => exact (Option.some.inj e).symm
  | int i => exact (Option.some.inj e).symm
  | str y =>
    obtain ⟨hl, q⟩ := if_some e
    exact ⟨hl, q.symm⟩
  | lst h1 h2 =>
    refine .inl ⟨_, SqL_fz h1, ?_⟩
    have q := (Option.some.inj e).symm
    rw [q]
    cases h2 <;> rfl
  | tup h1 h2 =>
    refine .inr (.inl ⟨_, SqT_fz h1, ?_⟩)
    have q := (Option.some.inj e).symm
    rw [q]
    cases h2 <;> rfl
end
end DL
end
section
set_option maxHeartbeats 200000
set_option maxRecDepth 100000
/-! DD: built-in functions on data. -/
namespace DL
open PySem L2

/-- a call on data -/
def CallD (X : Cx) (f : Value) (g : List PyData → Option PyData) : Prop :=
  CallR X f fun xs H Q => ∃ (P : Addr → Prop) (ds : List PyData) (z : PyData), (∀ a, P a → H a ≠ none) ∧ DqAll X.K (fz P H) xs ds ∧ g ds = some z ∧ ∀ v H', Grow H H' → Dq X.K (fz P H') v z → Q v H'
section
variable {X : Cx}
theorem dp1 {K : PySem.W.Frag} {F : Hp} {xs : List V} {d : PyData} (h : DqAll K F xs [d]) : ∃ x, xs = [x] ∧ Dq K F x d := by
  cases h with
  | cons a t => cases t; exact ⟨_, rfl, a⟩
theorem dp2 {K : PySem.W.Frag} {F : Hp} {xs : List V} {d e : PyData} (h : DqAll K F xs [d, e]) : ∃ x y, xs = [x, y] ∧ Dq K F x d ∧ Dq K F y e := by
  cases h with
  | cons a t =>
    cases t with
    | cons b t => cases t; exact ⟨_, _, rfl, a, b⟩
theorem cd_len : CallD X (.builtin "len") (primD .len) := by
  intro pins s σ H xs us Q I r ⟨P, ds, z, hP, hd, hg, q⟩
  match ds, hg with
  | [.list es], hg =>
    obtain ⟨x, rfl, hx⟩ := dp1 hd
    cases hg
    cases hx with
    | lst h1 h2 => exact call_len_seq pins s σ H _ us Q I r ⟨_, _, rfl, .inl (SqL_fz h1), by rw [DpAll_len h2]; exact q _ _ (.inl rfl) (.int _)⟩
  | [.tuple es], hg =>
    obtain ⟨x, rfl, hx⟩ := dp1 hd
    cases hg
    cases hx with
    | tup h1 h2 => exact call_len_seq pins s σ H _ us Q I r ⟨_, _, rfl, .inr (SqT_fz h1), by rw [DpAll_len h2]; exact q _ _ (.inl rfl) (.int _)⟩
theorem cd_abs : CallD X (.builtin "abs") (primD .abs) := by
  intro pins s σ H xs us Q I r ⟨P, ds, z, hP, hd, hg, q⟩
  match ds, hg with
  | [.int i], hg =>
    obtain ⟨x, rfl, hx⟩ := dp1 hd
    cases hg
    cases hx
    exact call_abs pins s σ H _ us Q I r ⟨_, rfl, q _ _ (.inl rfl) (.int _)⟩
theorem maxI_mem : ∀ (m : Int) (r : List Int), maxI m r ∈ m :: r ∧ ∀ y, y ∈ m :: r → y ≤ maxI m r
  | m, [] => ⟨List.mem_singleton.mpr rfl, fun y h => by rw [List.mem_singleton.mp h]; exact Int.le_refl _⟩
  | m, x :: r => by
    obtain ⟨h1, h2⟩ := maxI_mem (if x > m then x else m) r
    unfold maxI
    have hh := h2 _ (List.mem_cons_self)
    constructor
    · rcases List.mem_cons.mp h1 with e | e
      · rw [e]
        by_cases c : x > m
        · rw [if_pos c]; exact List.mem_cons_of_mem _ List.mem_cons_self
        · rw [if_neg c]; exact List.mem_cons_self
      · exact List.mem_cons_of_mem _ (List.mem_cons_of_mem _ e)
    · intro y hy
      rcases List.mem_cons.mp hy with e | e
      · subst e
        by_cases c : x > y
        · rw [if_pos c] at hh ⊢; omega
        · rw [if_neg c] at hh ⊢; omega
      · rcases List.mem_cons.mp e with e | e
        · subst e
          by_cases c : y > m
          · rw [if_pos c] at hh ⊢; omega
          · rw [if_neg c] at hh ⊢; omega
        · exact h2 y (List.mem_cons_of_mem _ e)
theorem minI_mem : ∀ (m : Int) (r : List Int), minI m r ∈ m :: r ∧ ∀ y, y ∈ m :: r → minI m r ≤ y
  | m, [] => ⟨List.mem_singleton.mpr rfl, fun y h => by rw [List.mem_singleton.mp h]; exact Int.le_refl _⟩
  | m, x :: r => by
    obtain ⟨h1, h2⟩ := minI_mem (if x < m then x else m) r
    unfold minI
    have hh := h2 _ (List.mem_cons_self)
    constructor
    · rcases List.mem_cons.mp h1 with e | e
      · rw [e]
        by_cases c : x < m
        · rw [if_pos c]; exact List.mem_cons_of_mem _ List.mem_cons_self
        · rw [if_neg c]; exact List.mem_cons_self
      · exact List.mem_cons_of_mem _ (List.mem_cons_of_mem _ e)
    · intro y hy
      rcases List.mem_cons.mp hy with e | e
      · subst e
        by_cases c : x < y
        · rw [if_pos c] at hh ⊢; omega
        · rw [if_neg c] at hh ⊢; omega
      · rcases List.mem_cons.mp e with e | e
        · subst e
          by_cases c : y < m
          · rw [if_pos c] at hh ⊢; omega
          · rw [if_neg c] at hh ⊢; omega
        · exact h2 y (List.mem_cons_of_mem _ e)
theorem cd_max (hc : X.calm = true) : CallD X (.builtin "max") (primD .max) := by
  intro pins s σ H xs us Q I r ⟨P, ds, z, hP, hd, hg, q⟩
  match ds, hg with
  | [.int i, .int j], hg =>
    obtain ⟨x, y, rfl, hx, hy⟩ := dp2 hd
    cases hg
    cases hx; cases hy
    exact call_max2 hc pins s σ H _ us Q I r ⟨_, _, rfl, q _ _ (.inl rfl) (.int _)⟩
  | [.list es], hg =>
    obtain ⟨x, rfl, hx⟩ := dp1 hd
    cases hx with
    | lst h1 h2 =>
      have hg : ((ints? es).bind fun ns => match ns with | [] => none | x :: r => some (.int (maxI x r))) = some z := hg
      cases e : ints? es with
      | none => rw [e] at hg; cases hg
      | some ns =>
        rw [e] at hg
        have e1 := DpAll_ints e h2
        subst e1
        cases ns with
        | nil => cases hg
        | cons n ns =>
          cases hg
          obtain ⟨k1, k2⟩ := maxI_mem n ns
          refine cr_max hc pins s σ H _ us Q I r ⟨_, _, rfl, SqL_fz h1, by simp, fun m hm hle => ?_⟩
          have e2 : m = maxI n ns := Int.le_antisymm (k2 m hm) (hle _ k1)
          rw [e2]
          exact q _ _ (.inl rfl) (.int _)
theorem cd_min (hc : X.calm = true) : CallD X (.builtin "min") (primD .min) := by
  intro pins s σ H xs us Q I r ⟨P, ds, z, hP, hd, hg, q⟩
  match ds, hg with
  | [.int i, .int j], hg =>
    obtain ⟨x, y, rfl, hx, hy⟩ := dp2 hd
    cases hg
    cases hx; cases hy
    exact call_min2 hc pins s σ H _ us Q I r ⟨_, _, rfl, q _ _ (.inl rfl) (.int _)⟩
  | [.list es], hg =>
    obtain ⟨x, rfl, hx⟩ := dp1 hd
    cases hx with
    | lst h1 h2 =>
      have hg : ((ints? es).bind fun ns => match ns with | [] => none | x :: r => some (.int (minI x r))) = some z := hg
      cases e : ints? es with
      | none => rw [e] at hg; cases hg
      | some ns =>
        rw [e] at hg
        have e1 := DpAll_ints e h2
        subst e1
        cases ns with
        | nil => cases hg
        | cons n ns =>
          cases hg
          obtain ⟨k1, k2⟩ := minI_mem n ns
          refine cr_min hc pins s σ H _ us Q I r ⟨_, _, rfl, SqL_fz h1, by simp, fun m hm hle => ?_⟩
          have e2 : m = minI n ns := Int.le_antisymm (hle _ k1) (k2 m hm)
          rw [e2]
          exact q _ _ (.inl rfl) (.int _)
theorem cd_int : CallD X (.type "int") (primD .int) := by
  intro pins s σ H xs us Q I r ⟨P, ds, z, hP, hd, hg, q⟩
  match ds, hg with
  | [.int i], hg =>
    obtain ⟨x, rfl, hx⟩ := dp1 hd
    cases hg
    cases hx
    exact call_int1 pins s σ H _ us Q I r (.inl ⟨_, rfl, q _ _ (.inl rfl) (.int _)⟩)
theorem opt_map {α β : Type} {o : Option α} {f : α → β} {z : β} (h : o.map f = some z) : ∃ a, o = some a ∧ z = f a := by
  cases o with
  | none => cases h
  | some a => cases h; exact ⟨a, rfl, rfl⟩
theorem opt_bind {α β : Type} {o : Option α} {f : α → Option β} {z : β} (h : o.bind f = some z) : ∃ a, o = some a ∧ f a = some z := by
  cases o with
  | none => cases h
  | some a => exact ⟨a, rfl, h⟩
theorem cd_sum (hc : X.calm = true) : CallD X (.builtin "sum") (primD .sum) := by
  intro pins s σ H xs us Q I r ⟨P, ds, z, hP, hd, hg, q⟩
  match ds, hg with
  | [.list es], hg =>
    obtain ⟨x, rfl, hx⟩ := dp1 hd
    cases hx with
    | lst h1 h2 =>
      obtain ⟨ns, e, rfl⟩ := opt_map (show (ints? es).map (fun ns => PyData.int ns.sum) = some z from hg)
      have e1 := DpAll_ints e h2
      subst e1
      exact cr_sum hc pins s σ H _ us Q I r ⟨_, _, rfl, SqL_fz h1, q _ _ (.inl rfl) (.int _)⟩
theorem cd_any (hc : X.calm = true) : CallD X (.builtin "any") (primD .any) := by
  intro pins s σ H xs us Q I r ⟨P, ds, z, hP, hd, hg, q⟩
  match ds, hg with
  | [.list es], hg =>
    obtain ⟨x, rfl, hx⟩ := dp1 hd
    cases hx with
    | lst h1 h2 =>
      obtain ⟨ns, e, rfl⟩ := opt_map (show (bools? es).map (fun bs => PyData.bool (bs.any id)) = some z from hg)
      have e1 := DpAll_bools e h2
      subst e1
      exact cr_any hc pins s σ H _ us Q I r ⟨_, _, rfl, SqL_fz h1, q _ _ (.inl rfl) (.bl _)⟩
theorem cd_all (hc : X.calm = true) : CallD X (.builtin "all") (primD .all) := by
  intro pins s σ H xs us Q I r ⟨P, ds, z, hP, hd, hg, q⟩
  match ds, hg with
  | [.list es], hg =>
    obtain ⟨x, rfl, hx⟩ := dp1 hd
    cases hx with
    | lst h1 h2 =>
      obtain ⟨ns, e, rfl⟩ := opt_map (show (bools? es).map (fun bs => PyData.bool (bs.all id)) = some z from hg)
      have e1 := DpAll_bools e h2
      subst e1
      exact cr_all hc pins s σ H _ us Q I r ⟨_, _, rfl, SqL_fz h1, q _ _ (.inl rfl) (.bl _)⟩
theorem cd_list : CallD X (.type "list") (primD .list) := by
  intro pins s σ H xs us Q I r ⟨P, ds, z, hP, hd, hg, q⟩
  match ds, hg with
  | [.list es], hg =>
    obtain ⟨x, rfl, hx⟩ := dp1 hd
    cases hg
    cases hx with
    | lst h1 h2 => exact call_list_of pins s σ H _ us Q I r ⟨_, _, rfl, .inl (SqL_fz h1), fun p np => q _ _ (.inr ⟨p, _, np, rfl⟩) (.lst (.inl (.inl (fz_new hP np))) (DpAll_mono (sub_upd np) h2))⟩
  | [.tuple es], hg =>
    obtain ⟨x, rfl, hx⟩ := dp1 hd
    cases hg
    cases hx with
    | tup h1 h2 => exact call_list_of pins s σ H _ us Q I r ⟨_, _, rfl, .inr (SqT_fz h1), fun p np => q _ _ (.inr ⟨p, _, np, rfl⟩) (.lst (.inl (.inl (fz_new hP np))) (DpAll_mono (sub_upd np) h2))⟩
theorem cd_tuple : CallD X (.type "tuple") (primD .tuple) := by
  intro pins s σ H xs us Q I r ⟨P, ds, z, hP, hd, hg, q⟩
  match ds, hg with
  | [.list es], hg =>
    obtain ⟨x, rfl, hx⟩ := dp1 hd
    cases hg
    cases hx with
    | lst h1 h2 => exact call_tuple_of pins s σ H _ us Q I r ⟨_, _, rfl, .inl ⟨SqL_fz h1, fun p np => q _ _ (.inr ⟨p, _, np, rfl⟩) (.tup (.inl (.inl (fz_new hP np))) (DpAll_mono (sub_upd np) h2))⟩⟩
  | [.tuple es], hg =>
    obtain ⟨x, rfl, hx⟩ := dp1 hd
    cases hg
    cases hx with
    | tup h1 h2 => exact call_tuple_of pins s σ H _ us Q I r ⟨_, _, rfl, .inr ⟨SqT_fz h1, q _ _ (.inl rfl) (.tup h1 h2)⟩⟩
theorem cd_divmod : CallD X (.builtin "divmod") (primD .divmod) := by
  intro pins s σ H xs us Q I r ⟨P, ds, z, hP, hd, hg, q⟩
  match ds, hg with
  | [.int i, .int j], hg =>
    obtain ⟨x, y, rfl, hx, hy⟩ := dp2 hd
    obtain ⟨hl, rfl⟩ := if_some hg
    cases hx; cases hy
    exact call_divmod pins s σ H _ us Q I r ⟨_, _, rfl, hl, fun p np => q _ _ (.inr ⟨p, _, np, rfl⟩) (.tup (.inl (.inl (fz_new hP np))) (.cons (.int _) (.cons (.int _) .nil)))⟩
theorem showOk_of {d : PyData} (h : showOk d = true) : (d.showable = true ∧ d.hasDict = false) ∧ d.depth ≤ 64 ∧ d.shown.length ≤ sizeLine := by
  unfold showOk at h
  simpa [and_assoc] using h
theorem cd_repr (hg : X.A.guards = some []) (hu : X.A.units + 65 < cLine) : CallD X (.builtin "repr") (primD .repr) := by
  have seq : ∀ (d : PyData) (x : V), (∃ a, x = .ref a) → showOk d = true → ∀ pins s σ H us Q, Inv X pins σ H s → Vals [x] us → Dq X.K H x d → Q (.str d.shown) H → wpAny (model X.prog X.w) X.A (call (.builtin "repr") us) (EP X pins σ Q) X.xe s := by
    intro d x ⟨a, ex⟩ hs pins s σ H us Q I r hx q
    subst ex
    obtain ⟨u, rfl, ru⟩ := vals1 r
    obtain ⟨as, rd⟩ := Dp.reads I d _ u (Dq.dp hx) ru
    cases ru
    obtain ⟨⟨h1, h2⟩, h3, h4⟩ := showOk_of hs
    exact repr_of_reads' rd h1 (fun e => by rw [h2] at e; cases e) hg (by omega) (fun _ _ e => e) (fun h' u tk hk => ⟨.str _, H, I.kept hk, ⟨_, rfl⟩, q⟩) h4
  intro pins s σ H xs us Q I r ⟨P, ds, z, hP, hd, hz, q⟩
  match ds, hz with
  | [.int i], hz =>
    obtain ⟨x, rfl, hx⟩ := dp1 hd
    obtain ⟨hl, rfl⟩ := if_some hz
    cases hx
    obtain ⟨u, rfl, t, rfl⟩ := vals1 r
    exact PySem.P.repr_of_int hl ⟨.str _, H, I.tok _, ⟨_, rfl⟩, q _ _ (.inl rfl) (.str _)⟩
  | [.list es], hz =>
    obtain ⟨x, rfl, hx⟩ := dp1 hd
    obtain ⟨hl, rfl⟩ := if_some hz
    exact seq _ x (by cases hx; exact ⟨_, rfl⟩) hl pins s σ H us Q I r (Dp_fz hx) (q _ _ (.inl rfl) (.str _))
  | [.tuple es], hz =>
    obtain ⟨x, rfl, hx⟩ := dp1 hd
    obtain ⟨hl, rfl⟩ := if_some hz
    exact seq _ x (by cases hx; exact ⟨_, rfl⟩) hl pins s σ H us Q I r (Dp_fz hx) (q _ _ (.inl rfl) (.str _))
theorem each_ints : ∀ {ns : List Int} {its : List Value}, Vals (ns.map V.int) its → PySem.W.EachIs (fun v n => ∃ t, v = Value.int n t) its ns
  | [], _, h => by cases h; exact .nil
  | _ :: _, _, h => by cases h with | cons a t => exact .cons a (each_ints t)
theorem ints_each : ∀ {ns : List Int} {its : List Value}, PySem.W.EachIs (fun v n => ∃ t, v = Value.int n t) its ns → Vals (ns.map V.int) its
  | [], _, h => by cases h; exact .nil
  | _ :: _, _, h => by cases h with | cons a t => exact .cons a (ints_each t)
theorem cd_sorted (hu : X.A.units + 65 < cLine) : CallD X (.builtin "sorted") (primD .sorted) := by
  intro pins s σ H xs us Q I r ⟨P, ds, z, hP, hd, hz, q⟩
  match ds, hz with
  | [.list es], hz =>
    obtain ⟨x, rfl, hx⟩ := dp1 hd
    cases hx with
    | lst h1 h2 =>
      obtain ⟨ns, e, hz⟩ := opt_bind (show (ints? es).bind (fun ns => if ns.length ≤ sizeLine then some (PyData.list ((ns.mergeSort fun a b => decide (a ≤ b)).map .int)) else none) = some z from hz)
      obtain ⟨hl, rfl⟩ := if_some hz
      have e1 := DpAll_ints e h2
      subst e1
      obtain ⟨its, rv, pl, _⟩ := I.list (SqL_fz h1)
      obtain ⟨u, rfl, ru⟩ := vals1 r
      cases ru
      have ei := each_ints rv
      refine PySem.W.sorted_data (enc := PyData.int) pl.isList ei (ei.mono fun v n ⟨t, e⟩ => ⟨[], by rw [e]; exact .int _ _⟩) (PySem.W.AllAlike.of fun _ _ => rfl) (PySem.W.Sortable.others fun _ => ⟨(fun z => nomatch z), fun _ z => nomatch z⟩) hl
        (fun _ _ => by show X.A.units + 2 + 0 < cLine; omega) fun out ho eo => ?_
      rw [PySem.W.dataLe_int (fun n => n)] at eo
      obtain ⟨ep, he'⟩ := PyProof.Rows.sortedAll_at s.heap its out.toArray
      refine ⟨.ref _, upd H (s.heap.objs.size + 1) (.lst ((ns.mergeSort fun a b => decide (a ≤ b)).map V.int)), I.laid (t' := s.toks) (fun _ _ => PyProof.Rows.sortedAll_old) (Nat.le_succ _) ⟨by rw [List.length_map, List.length_mergeSort]; exact hl, out, ep, ints_each eo, he'⟩, rfl, ?_⟩
      have np := I.hok.fresh (Nat.le_succ s.heap.objs.size)
      exact q _ _ (.inr ⟨_, _, np, rfl⟩) (.lst (.inl (.inl (fz_new hP np))) ints_dp)
end
end DL
end
section
set_option maxHeartbeats 200000
set_option maxRecDepth 100000
/-! DE: from what an expression means to the hand layer's reading; defs' promises. -/
namespace DL
open PySem L2

/-- how an exception looks: its number, what it bears -/
abbrev XRel := Nat → List PyData → Hp → Value → Option Addr → Hp → Prop
abbrev Plc := Addr → Prop
def wp {α β : Type} (K : PySem.W.Frag) (XR : XRel) (W : WX) (hid : Plc) (pa : Addr) (σ : L2.St) (R : Plc → Hp → β → α → Prop) (L : Plc) (H : Hp) (m : Res α) (Q : β → α → Evn → Hp → Prop) : Prop :=
  match m with
  | .ok a r => ∀ v H', Sim K hid pa r σ H' → Ext L H (Lv r σ) H' → R (fun x => hid x ∨ Lv r σ x) H' v a → Q v a r H'
  | .exc c fs r => ∀ C d H', Sim K hid pa r σ H' → Ext L H (Lv r σ) H' → XR c fs (fz (fun x => hid x ∨ Lv r σ x) H') C d H' → W C d σ H'
  | .bad => False
section
variable {K : PySem.W.Frag} {XR : XRel} {W : WX} {hid : Plc} {pa : Addr} {σ : L2.St} {L L1 : Plc} {H H1 : Hp}
theorem wp_mono {α β : Type} {R : Plc → Hp → β → α → Prop} {m : Res α} {Q Q' : β → α → Evn → Hp → Prop} (h : wp K XR W hid pa σ R L H m Q)
    (hq : ∀ v a r H', Sim K hid pa r σ H' → Ext L H (Lv r σ) H' → R (fun x => hid x ∨ Lv r σ x) H' v a → Q v a r H' → Q' v a r H') : wp K XR W hid pa σ R L H m Q' := by
  cases m with
  | ok a r => exact fun v H' S E D => hq v a r H' S E D (h v H' S E D)
  | exc c fs r => exact h
  | bad => exact h
/-- from a later state -/
theorem wp_later {α β : Type} {R : Plc → Hp → β → α → Prop} {m : Res α} {Q : β → α → Evn → Hp → Prop} (h : wp K XR W hid pa σ R L H m Q) (e : Ext L H L1 H1) : wp K XR W hid pa σ R L1 H1 m Q := by
  cases m with
  | ok a r => exact fun v H' S E D => h v H' S (e.trans E) D
  | exc c fs r => exact fun C d H' S E D => h C d H' S (e.trans E) D
  | bad => exact h
theorem wp_bnd {α β α' β' : Type} {R : Plc → Hp → β → α → Prop} {R' : Plc → Hp → β' → α' → Prop} {m : D α} {f : α → D α'} {r : Evn} {Q : β' → α' → Evn → Hp → Prop} (h : wp K XR W hid pa σ R' L H (bnd m f r) Q) :
    wp K XR W hid pa σ R L H (m r) fun _ a r1 H1 => wp K XR W hid pa σ R' (Lv r1 σ) H1 (f a r1) Q := by
  unfold bnd at h
  cases e : m r with
  | ok a r1 =>
    rw [e] at h
    exact fun v H1 S E D => wp_later h E
  | exc c fs r1 =>
    rw [e] at h
    exact h
  | bad =>
    rw [e] at h
    exact h
/-- an answer that changes nothing -/
theorem wp_ret {α β : Type} {R : Plc → Hp → β → α → Prop} {a : α} {r : Evn} {Q : β → α → Evn → Hp → Prop} {v : β} {H' : Hp} (S : Sim K hid pa r σ H) (g : Grow H H')
    (D : R (fun x => hid x ∨ Lv r σ x) H' v a) (h : wp K XR W hid pa σ R (Lv r σ) H (ret a r) Q) : Q v a r H' := h v H' (S.grow g) g.ext D
theorem wp_lift {α β : Type} {R : Plc → Hp → β → α → Prop} {o : Option α} {r : Evn} {Q : β → α → Evn → Hp → Prop} (S : Sim K hid pa r σ H) (h : wp K XR W hid pa σ R (Lv r σ) H (lift o r) Q) :
    ∃ a, o = some a ∧ ∀ v H', Grow H H' → R (fun x => hid x ∨ Lv r σ x) H' v a → Q v a r H' := by
  cases o with
  | none => exact False.elim h
  | some a => exact ⟨a, rfl, fun v H' g D => wp_ret S g D h⟩
end
/-- one value -/
abbrev R1 (K : PySem.W.Frag) : Plc → Hp → V → PyData → Prop := fun P H v d => Dq K (fz P H) v d
/-- several -/
abbrev Rs (K : PySem.W.Frag) : Plc → Hp → List V → List PyData → Prop := fun P H vs ds => DqAll K (fz P H) vs ds
abbrev R0 {α : Type} : Plc → Hp → Unit → α → Prop := fun _ _ _ _ => True
/-- an expression's reading -/
def tD (K : PySem.W.Frag) (XR : XRel) (W : WX) (m : D PyData) : TE := fun σ H Q => ∃ hid pa r, Sim K hid pa r σ H ∧ wp K XR W hid pa σ (R1 K) (Lv r σ) H (m r) fun v _ _ H' => Q v H'
def tDs (K : PySem.W.Frag) (XR : XRel) (W : WX) (m : D (List PyData)) : TA := fun σ H Q => ∃ hid pa r, Sim K hid pa r σ H ∧ wp K XR W hid pa σ (Rs K) (Lv r σ) H (m r) fun v _ _ H' => Q v H'
def tDt (K : PySem.W.Frag) (XR : XRel) (W : WX) (m : D Bool) : TT := fun σ H Q => ∃ hid pa r, Sim K hid pa r σ H ∧ wp K XR W hid pa σ R0 (Lv r σ) H (m r) fun _ b _ H' => Q b H'
theorem PE_mono {X : Cx} {e : Expr} {t t' : TE} (h : PE X e t) (m : ∀ σ H Q, t' σ H Q → t σ H Q) : PE X e t' := ⟨fun pins s σ H Q I q => h.run pins s σ H Q I (m σ H Q q)⟩
theorem PT_mono {X : Cx} {e : Expr} {t t' : TT} (h : PT X e t) (m : ∀ σ H Q, t' σ H Q → t σ H Q) : PT X e t' := ⟨fun pins s σ H Q I q => h.run pins s σ H Q I (m σ H Q q)⟩
theorem PW_mono {X : Cx} {e : Expr} {t t' : TT} (h : PW X e t) (m : ∀ σ H Q, t' σ H Q → t σ H Q) : PW X e t' := ⟨fun wh pins s σ H Q I q => h.run wh pins s σ H Q I (m σ H Q q)⟩
theorem PA_mono {X : Cx} {e : List Expr} {t t' : TA} (h : PA X e t) (m : ∀ σ H Q, t' σ H Q → t σ H Q) : PA X e t' := ⟨fun pos pins s σ H Q I q => h.run pos pins s σ H Q I (m σ H Q q)⟩

/-! ### more about states -/
section
variable {K : PySem.W.Frag} {hid hid' : Plc} {pa : Addr} {r : Evn} {σ : L2.St} {H H' : Hp}
theorem sub_hid (h : ∀ x, hid x → hid' x) : Sub (fz (fun x => hid' x ∨ Lv r σ x) H) (fz (fun x => hid x ∨ Lv r σ x) H) := fun a o e => by
  obtain ⟨n, e⟩ := fz_some.mp e
  exact fz_some.mpr ⟨fun z => n (z.imp (h a) id), e⟩
/-- fewer places are hidden -/
theorem Sim.less (S : Sim K hid' pa r σ H) (h : ∀ x, hid x → hid' x) : Sim K hid pa r σ H where
  len := S.len
  pu := fun i d e => let ⟨v, h1, h2⟩ := S.pu i d e; ⟨v, h1, Dp_mono (sub_hid h) h2⟩
  ow := fun i t ds e => let ⟨a, vs, h1, h2, h3, h4, h5⟩ := S.ow i t ds e; ⟨a, vs, h1, h2, fun z => h3 (h a z), DpAll_mono (sub_hid h) h4, h5⟩
  hd := fun a q => S.hd a (h a q)
  inj := S.inj
/-- another heap, alike but for what is hidden -/
theorem Sim.heap (S : Sim K hid pa r σ H) (k : ∀ a o, ¬ hid a → H a = some o → H' a = some o) (hd : ∀ a, hid a → H' a ≠ none) : Sim K hid pa r σ H' := by
  have sb : Sub (fz (fun x => hid x ∨ Lv r σ x) H) (fz (fun x => hid x ∨ Lv r σ x) H') := fun a o e => by
    obtain ⟨n, e⟩ := fz_some.mp e
    exact fz_some.mpr ⟨n, k a o (fun z => n (.inl z)) e⟩
  exact ⟨S.len, fun i d e => let ⟨v, h1, h2⟩ := S.pu i d e; ⟨v, h1, Dp_mono sb h2⟩, fun i t ds e => let ⟨a, vs, h1, h2, h3, h4, h5⟩ := S.ow i t ds e; ⟨a, vs, h1, k a _ h3 h2, h3, DpAll_mono sb h4, h5⟩, hd, S.inj⟩
/-- an owned list is changed, and the heap grows -/
theorem Sim.chg2 (S : Sim K hid pa r σ H) {i : Nat} {t : Bool} {ds ds' : List PyData} {a : Addr} {vs' : List V} (e : r[i]? = some (.ow t ds)) (ea : σ[i]? = some (some (.ref a)))
    (k : ∀ b o, b ≠ a → H b = some o → H' b = some o) (ha : H' a = some (.lst vs')) (h : DqAll K (fz (fun x => hid x ∨ Lv r σ x) H') vs' ds') : Sim K hid pa (r.set i (.ow t ds')) σ H' := by
  have hi := lt_of_some e
  have lva : Lv r σ a := ⟨i, t, ds, e, ea⟩
  have lv : ∀ b, Lv (r.set i (.ow t ds')) σ b → Lv r σ b := fun b ⟨j, u, es, e1, e2⟩ => by
    rcases set_get e1 with ⟨rfl, q⟩ | ⟨q, e1⟩
    · exact ⟨j, t, ds, e, e2⟩
    · exact ⟨j, u, es, e1, e2⟩
  have sb : Sub (fz (fun x => hid x ∨ Lv r σ x) H) (fz (fun x => hid x ∨ Lv (r.set i (.ow t ds')) σ x) H') := fun b o q => by
    obtain ⟨n, q⟩ := fz_some.mp q
    exact fz_some.mpr ⟨fun z => n (z.imp id (lv b)), k b o (fun z => n (.inr (by rw [z]; exact lva))) q⟩
  have sb' : Sub (fz (fun x => hid x ∨ Lv r σ x) H') (fz (fun x => hid x ∨ Lv (r.set i (.ow t ds')) σ x) H') := fun b o q => by
    obtain ⟨n, q⟩ := fz_some.mp q
    exact fz_some.mpr ⟨fun z => n (z.imp id (lv b)), q⟩
  refine ⟨by rw [List.length_set]; exact S.len, fun j d' q => ?_, fun j u es q => ?_, fun b h => ?_, fun j k' t' u ds' es b q1 q2 p1 p2 => ?_⟩
  · rcases set_get q with ⟨_, q⟩ | ⟨n, q⟩
    · cases q
    · obtain ⟨v, z1, z2⟩ := S.pu j d' q
      exact ⟨v, z1, Dp_mono sb z2⟩
  · rcases set_get q with ⟨rfl, zz⟩ | ⟨n, q⟩
    · cases zz
      obtain ⟨b, ws, z1, z2, z3, z4, z5⟩ := S.ow j t ds e
      rw [ea] at z1; cases z1
      exact ⟨a, vs', ea, ha, z3, DpAll_mono sb' h, z5⟩
    · obtain ⟨b, ws, z1, z2, z3, z4, z5⟩ := S.ow j u es q
      have nb : b ≠ a := fun z => by
        subst z
        exact n (S.inj j i u t es ds b q e z1 ea)
      exact ⟨b, ws, z1, k b _ nb z2, z3, DpAll_mono sb z4, z5⟩
  · by_cases z : b = a
    · rw [z, ha]; exact fun z => nomatch z
    · cases q : H b with
      | none => exact absurd q (S.hd b h)
      | some o => rw [k b o z q]; exact fun z => nomatch z
  · have back : ∀ {j' : Nat} {t' : Bool} {es' : List PyData}, (r.set i (Sl.ow t ds'))[j']? = some (Sl.ow t' es') → True := fun _ => trivial
    have q1' : ∃ t'' es'', r[j]? = some (Sl.ow t'' es'') := by
      rcases set_get q1 with ⟨rfl, _⟩ | ⟨_, q⟩
      · exact ⟨_, _, e⟩
      · exact ⟨_, _, q⟩
    have q2' : ∃ t'' es'', r[k']? = some (Sl.ow t'' es'') := by
      rcases set_get q2 with ⟨rfl, _⟩ | ⟨_, q⟩
      · exact ⟨_, _, e⟩
      · exact ⟨_, _, q⟩
    obtain ⟨_, _, q1'⟩ := q1'
    obtain ⟨_, _, q2'⟩ := q2'
    exact S.inj j k' _ _ _ _ b q1' q2' p1 p2
end

/-! ### a def's promise -/
/-- an owned argument is there -/
def OwA (avs : List Av) (pa : Addr) : Plc := fun x => x = pa ∧ ∃ ds, Av.ow ds ∈ avs
/-- the arguments -/
inductive AvR (K : PySem.W.Frag) (P hid : Plc) (pa : Addr) (H : Hp) : List V → List Av → Prop
  | nil : AvR K P hid pa H [] []
  | pu {v : V} {d : PyData} {vs : List V} {avs : List Av} : Dq K (fz P H) v d → AvR K P hid pa H vs avs → AvR K P hid pa H (v :: vs) (.pu d :: avs)
  | ow {ws : List V} {ds : List PyData} {vs : List V} {avs : List Av} : H pa = some (.lst ws) → ¬ hid pa → DqAll K (fz P H) ws ds → AvR K P hid pa H vs avs → AvR K P hid pa H (.ref pa :: vs) (.ow ds :: avs)
/-- a new answer's own place -/
def FrV (rv : RV) (v : V) : Plc := fun x => match rv with
  | .pu _ => False
  | .fr _ => v = .ref x
/-- a def's answer: behind it -/
structure Back (K : PySem.W.Frag) (hid : Plc) (pa : Addr) (avs : List Av) (H H' : Hp) (out : List PyData) (fr : Plc) : Prop where
  keep : ∀ a o, H a = some o → ¬ OwA avs pa a → H' a = some o
  out : (∃ ds, Av.ow ds ∈ avs) → ∃ ws, H' pa = some (.lst ws) ∧ DqAll K (fz (fun x => (hid x ∨ OwA avs pa x) ∨ fr x) H') ws out
def RvR (K : PySem.W.Frag) (P : Plc) (H H' : Hp) (v : V) : RV → Prop
  | .pu d => Dq K (fz P H') v d
  | .fr ds => ∃ p ws, v = .ref p ∧ H p = none ∧ H' p = some (.lst ws) ∧ DqAll K (fz P H') ws ds
def spD (K : PySem.W.Frag) (XR : XRel) (m : List Av → CRes) : Sp := fun vs H Q E => ∃ hid pa avs, (∀ a, hid a → H a ≠ none) ∧ AvR K (fun x => hid x ∨ OwA avs pa x) hid pa H vs avs ∧
  match m avs with
  | .ok rv out => ∀ v H', Back K hid pa avs H H' out (FrV rv v) → RvR K (fun x => (hid x ∨ OwA avs pa x) ∨ FrV rv v x) H H' v rv → Q v H'
  | .exc c fs out => ∀ C d H', Back K hid pa avs H H' out (fun _ => False) → XR c fs (fz (fun x => hid x ∨ OwA avs pa x) H') C d H' → E C d H'
  | .bad => False
/-- a def keeps its promise wherever nothing is being shown -/
def FnG (P : Program) (w : World) (K : PySem.W.Frag) (mg : Str → Option Value) (base : Heap) (CX : CXT) (k : Nat) (f : Addr) (fd : FuncData) (ps : List Str) (sp : Sp) : Prop :=
  ∀ (A : Around) (outer : List PySem.Env) (s : Shared) (H : Hp) (args : Args) (us : List Value) (vs : List V) (Q : VK) (E : XK), Room k A → A.guards = some [] → Env0 P w K mg base A outer s H →
    BindsTo s fd args (ps.zip us) → Vals vs us → vs.length = ps.length → sp vs H Q E → codeAny (model P w) A (.call (.ref f) args) (CR CX outer P w H s Q E) s
end DL
end
section
set_option maxHeartbeats 200000
set_option maxRecDepth 100000
/-! DF: what is walked. -/
namespace DL
open PySem L2

/-! ### iterators that hand out new tuples, by the library's GoesN at each state -/
def ItN (S : Hp → Prop) (n : Nat) (g : Nat → Hp → List V → Prop) : It :=
  ⟨fun i H => i < n ∧ S H, fun i H x H' => ∃ T xs, x = .ref T ∧ H T = none ∧ H' = upd H T (.tup xs) ∧ g i H xs, fun i H => i = n ∧ S H⟩
theorem Inv.cells {X : Cx} {pins : List (Addr × Obj)} {σ : L2.St} {H : Hp} {s : Shared} {h' : Heap} {t' : Nat} {ch : List Addr} (I : Inv X pins σ H s) (hf : ∀ b ∈ ch, FpOk X pins H b)
    (k : ∀ b o, b ∉ ch → s.heap.get? b = some o → h'.get? b = some o) : Inv X pins σ H { s with heap := h', toks := t' } := by
  have out : ∀ b u, H b = some u → b ∉ ch := fun b u e z => by
    have q := (hf b z).1
    rw [e] at q; cases q
  refine I.step (g' := s.gens) (d' := s.drawn) (ch := ch) (fun b hb => ?_) (fun b o _ _ hc e _ => k b o hc e) (fun b o _ _ hc e _ => ⟨o.slots, k b o hc e⟩) (fun _ _ _ _ n => n) (fun b o hc e => ⟨o, k b o hc e⟩) (fun _ _ e => e) (fun _ _ _ e => e)
    (fun b ps e => ⟨#[], by rw [e]; simp⟩) (fun m hm => ?_) (fun b u e => ?_) I.bare
  · obtain ⟨f0, f1, f2, f3, f4, f5⟩ := hf b hb
    exact ⟨f3, f1, f4, f5⟩
  · obtain ⟨o, es, ep, ho, q⟩ := hm
    exact ⟨o, es, ep, k _ o (fun z => (hf _ z).2.1 rfl) ho, q⟩
  · refine (I.hok b u e).stay (fun c v hc q => k c v ?_ q) (fun _ q => q) fun _ _ q => q
    rcases hc with z | z
    · rw [z]; exact out b u e
    · exact out c _ z
theorem turn_new {P : Program} {w : World} {K : PySem.W.Frag} {tg : Expr} {S : Hp → Prop} {n : Nat} {g : Nat → Hp → List V → Prop} {fp : List Addr} {it : Addr} {tn : Nat → Heap → Prop} (mem : it ∈ fp)
    (obj : ∀ i h, tn i h → ∀ b ∈ fp, ∃ o, h.get? b = some o ∧ ∀ v, o.data ≠ .cell v) (keep : ∀ i h h', tn i h → (∀ b ∈ fp, ∀ o, h.get? b = some o → h'.get? b = some o) → tn i h')
    (self : ∀ (A : Around) (i : Nat) (s : Shared) (Q : Value → Shared → Prop) (E : Value → Shared → Prop), tn i s.heap → Q (.ref it) s → wpAny (model P w) A (pyIter (.ref it)) Q E s)
    (step : ∀ (X : Cx), X.prog = P → X.w = w → X.K = K → X.calm = true → ∀ (i : Nat) (pins : List (Addr × Obj)) (s : Shared) (σ : L2.St) (H : Hp), Inv X pins σ H s → tn i s.heap → S H →
      ∃ (Y : Nat → Heap → Value → Heap → Prop) (St : Nat → Heap → Prop) (fpw wr : List Addr), GoesN P w X.A tg it fpw wr n Y St ∧ (∀ b ∈ wr, b ∈ fp) ∧ St i s.heap ∧
        ∀ v h', Y i s.heap v h' → St (i + 1) h' → (∀ b o, b ∉ wr → s.heap.get? b = some o → h'.get? b = some o) → tn (i + 1) h' ∧
          ∃ (T : Addr) (us : List Value) (xs : List V), v = .ref T ∧ s.heap.objs.size ≤ T ∧ h'.IsTuple T us.toArray ∧ Vals xs us ∧ xs.length ≤ sizeLine ∧ g i H xs) :
    Turn P w K tg (ItN S n g) fp it tn := by
  refine ⟨mem, obj, keep, fun X e1 e2 e3 hc i pins s σ H E I hf st hg => ?_, fun X e1 e2 e3 hc i pins s σ H E I hf st hg => ?_, self⟩
  · obtain ⟨hi, hS⟩ := hg
    obtain ⟨Y, St, fpw, wr, W, hwr, hst, hY⟩ := step X e1 e2 e3 hc i pins s σ H I st hS
    subst e1 e2
    refine W.goes i s _ _ hi hst fun v h' tk y st' hk _ => ?_
    obtain ⟨t1, T, us, xs, rfl, hT, hu, rv, hz, hg'⟩ := hY v h' y st' hk
    have nT : H T = none := I.hok.fresh hT
    have J := I.turnedNew (t' := tk) (T := T) (ob := .tup xs) (ch := wr) (h' := h') hk (fun b hb => hf b (hwr b hb)) hT ⟨hz, us, rv, hu⟩
    refine ⟨.ref T, _, J, rfl, ⟨T, xs, rfl, nT, rfl, hg'⟩, t1, fun b hb => ?_⟩
    obtain ⟨o, ho, _⟩ := obj i _ st b hb
    rw [upd_ne (Nat.ne_of_lt (Nat.lt_of_lt_of_le (Heap.lt_size ho) hT))]
    exact (hf b hb).1
  · obtain ⟨hi, hS⟩ := hg
    obtain ⟨Y, St, fpw, wr, W, hwr, hst, _⟩ := step X e1 e2 e3 hc i pins s σ H I st hS
    subst e1 e2
    rw [hi] at hst
    exact W.stops s (Inv X pins σ H) _ hst fun h' tk hk _ => Inv.cells I (fun b hb => hf b (hwr b hb)) hk
/-! ### enumerate of a tuple -/
def IteT (K : PySem.W.Frag) (a : Addr) (xs : List V) : It := ItN (fun H => SqT K H a xs) xs.length fun i _ ys => ∃ x, xs[i]? = some x ∧ ys = [.int (i : Nat), x]
theorem turn_enumT {P : Program} {w : World} {K : PySem.W.Frag} {elts : List Expr} {kk : Nat} {tpos : Pos} (a e it : Addr) (xs : List V) (hae : a ≠ e) (hai : a ≠ it) :
    Turn P w K (.Tuple elts kk tpos) (IteT K a xs) [e, it] e (fun i h => (∃ old, IsEnum h e it ((i : Nat) : Int) old) ∧ h.IsTupleIter it a i ∧ e ≠ it) := by
  refine turn_new List.mem_cons_self (fun i h st b hb => ?_) (fun i h h' st k => ?_) (fun A i s Q E st h => wpAny_pyIter_enum st.1.choose_spec h) ?_
  · rcases List.mem_cons.mp hb with rfl | hb
    · exact ⟨_, st.1.choose_spec, fun v q => nomatch q⟩
    · obtain ⟨o, ho, _, hd⟩ := st.2.1
      rw [List.mem_singleton.mp hb]
      exact ⟨o, ho, fun v q => by rw [hd] at q; cases q⟩
  · exact ⟨⟨_, k e List.mem_cons_self _ st.1.choose_spec⟩, st.2.1.at fun o q => k it (List.mem_cons_of_mem _ List.mem_cons_self) o q, st.2.2⟩
  · intro X e1 e2 e3 hc i pins s σ H I st hS
    subst e1 e2 e3
    obtain ⟨its, rv, p, _⟩ := I.tuple hS
    have zero : ∀ j : Nat, (0 : Int) + ((j : Nat) : Int) = ((j : Nat) : Int) := fun j => Int.zero_add _
    have hh : X.A.in1.handled = none := I.ok.hd hc
    have nm : e ∉ [it, a] := fun z => by
      rcases List.mem_cons.mp z with z | z
      · exact st.2.2 z
      · exact hae (List.mem_singleton.mp z).symm
    have W := GoesN.enumFrom (elts := elts) (x1 := kk) (pos := tpos) (A := X.A) 0 (Draws.tuple (prog := X.prog) (w := X.w) hh it a hai its.toArray) e st.2.2 nm List.mem_cons_self
    have hn : its.toArray.size = xs.length := by rw [List.size_toArray]; exact rv.length.symm
    rw [hn] at W
    refine ⟨_, _, _, _, W, fun b hb => hb, ⟨⟨_, by rw [zero]; exact st.1.choose_spec⟩, st.2.1, p⟩, fun v h' hY st' _ => ?_⟩
    obtain ⟨T, t, u, ev, hT, hu, hTup⟩ := hY
    obtain ⟨⟨old', he'⟩, hit', _⟩ := st'
    rw [zero] at he' hTup
    have hu' : its[i]? = some u := by simpa using hu
    have hil : i < xs.length := by rw [rv.length]; exact lt_of_some hu'
    obtain ⟨u2, q1, q2⟩ := rv.get (List.getElem?_eq_getElem hil)
    rw [hu'] at q1
    cases q1
    exact ⟨⟨⟨old', he'⟩, hit', st.2.2⟩, T, [.int i t, u], [.int i, xs[i]], ev, hT, hTup, .cons ⟨_, rfl⟩ (.cons q2 .nil), by show 2 ≤ sizeLine; decide, _, List.getElem?_eq_getElem hil, rfl⟩
open Sem (wp) in
open AutoSeq1 (wpAny_loadPart') in
theorem enumT_new (a : Addr) (its : Array Value) (n : Nat) (dc : Option Addr) (sl : Array (Option Value)) :
    Meets (Builtin.«enumerate.__new__» ⟨[.type "enumerate", .ref a], []⟩) (fun _ R s => s.heap.get? a = some ⟨.type "tuple", dc, .seq its n, sl⟩ ∧ R (.ok (.ret (.ref (s.heap.push ⟨.type "tuple_iterator", none, .fields #[.ref a, .int 0 0], #[]⟩).objs.size)))
      { s with heap := (s.heap.push ⟨.type "tuple_iterator", none, .fields #[.ref a, .int 0 0], #[]⟩).push ⟨.type "enumerate", none, .fields #[.none, .bool false, .ref s.heap.objs.size, rawInt 0, .none, .none], #[]⟩ }) :=
  .of_wp fun prog w A R s q => by
    obtain ⟨hp, g, d, tk, os⟩ := s
    obtain ⟨q1, q2⟩ := q
    have sub := sub_enumerate
    have tup : Heap.IsTuple (Shared.heap ⟨hp, g, d, tk, os⟩) a its := ⟨_, q1, rfl, n, rfl⟩
    wp_walk using wpAny_loadPart' q1
    refine wpAny_stack_any fun st => wpAny_pure ?_
    split
    · rename_i c _ _ _ _ _
      cases (c == Value.type "enumerate")
      all_goals
        wp_walk using wpAny_loadPart' q1, wpAny_pyIter_tuple tup
        exact ⟨_, rfl, q2⟩
    · wp_walk using wpAny_loadPart' q1, wpAny_pyIter_tuple tup
      exact ⟨_, rfl, q2⟩
theorem call_enumT {prog : Program} {w : World} {A : Around} {E : Value → Shared → Prop} {s : Shared} {a : Addr} {its : Array Value} {Q : Value → Shared → Prop} (ht : s.heap.IsTuple a its)
    (q : ∀ h', IsEnum h' (s.heap.objs.size + 1) s.heap.objs.size 0 .none → h'.IsTupleIter s.heap.objs.size a 0 → (∀ b o, s.heap.get? b = some o → h'.get? b = some o) → Q (.ref (s.heap.objs.size + 1)) { s with heap := h' }) :
    wpAny (model prog w) A (call (.type "enumerate") [.ref a]) Q E s := by
  obtain ⟨⟨c, dc, dt, sl⟩, e1, e2, n, e3⟩ := ht
  simp only at e2 e3
  subst e2 e3
  refine callType_new F.called_enumerate (by decide) (F.typeCall_enumerate_1 _) (F.newCall_enumerate_1 _) (fun obj => F.args_object_init_2 obj _) F.entry_enumerate_new (enumT_new a its n dc sl) ⟨e1, ?_⟩
  have z : (s.heap.push ⟨.type "tuple_iterator", none, .fields #[.ref a, .int 0 0], #[]⟩).objs.size = s.heap.objs.size + 1 := Heap.size_push ..
  have en := Heap.get?_push_size (s.heap.push ⟨.type "tuple_iterator", none, .fields #[.ref a, .int 0 0], #[]⟩) (o := ⟨.type "enumerate", none, .fields #[.none, .bool false, .ref s.heap.objs.size, rawInt 0, .none, .none], #[]⟩) rfl
  rw [z] at en
  show _ ∧ _
  rw [z]
  exact ⟨⟨_, en, rfl⟩, q _ en ⟨_, Heap.get?_push_of_some _ (Heap.get?_push_size _ rfl), rfl, rfl⟩ fun b o y => Heap.get?_push_of_some _ (Heap.get?_push_of_some _ y)⟩
section
variable {X : Cx}
/-- enumerate(e), e a list or a tuple -/
theorem pi_enumD {e : Expr} {ta : TA} {p pos tpos : Pos} {elts : List Expr} {kk : Nat} (hg : Gl X "enumerate") (hm : X.mg "enumerate" = none) (ha : PA X [e] ta) (hs : starEach [e] X.env = [(false, eval e X.env)]) :
    PI X (.Tuple elts kk tpos) (.Call (.Name "enumerate" p) [e] [] pos) (fun σ H R => ta σ H fun vs H1 => ∃ a xs, vs = [.ref a] ∧ ((SqL X.K H1 a xs ∧ R (Ite X.K a) H1) ∨ (SqT X.K H1 a xs ∧ R (IteT X.K a xs) H1))) := by
  refine ⟨fun pins s σ H R I h => ?_⟩
  refine PyProof.Rows.Call_ (ld_blt I hg hm (show bootBuiltins "enumerate" = some (.type "enumerate") by decide +kernel) (PyProof.Rows.callWith_type1 (thn (ha.run pos pins s σ H _ I h) fun us s1 hq => ?_) hs rfl))
  obtain ⟨vs, H1, I1, r1, a, xs, ex, q⟩ := hq
  subst ex
  obtain ⟨u, rfl, ru⟩ := vals1 r1
  cases ru
  have fresh : ∀ b ∈ [s1.heap.objs.size + 1, s1.heap.objs.size], FpOk X pins H1 b := fun b hb => by
    have hle : s1.heap.objs.size ≤ b := by
      rcases List.mem_cons.mp hb with z | z
      · rw [z]; exact Nat.le_succ _
      · rw [List.mem_singleton.mp z]; exact Nat.le_refl _
    exact I1.fpOk hle (I1.hok.fresh hle)
  rcases q with ⟨hq, q⟩ | ⟨hq, q⟩
  · obtain ⟨its, rv, pl, _⟩ := I1.list hq
    exact call_enumerate_list pl.isList fun h' he hit _ hk => wpAny_pyIter_enum he ⟨_, _, _, _, H1, rfl, I1.kept (t' := s1.toks) hk, turn_enum a _ _, ⟨⟨.none, he⟩, hit, Nat.succ_ne_self _⟩, fresh, q⟩
  · obtain ⟨its, rv, pl, _⟩ := I1.tuple hq
    have la : a < s1.heap.objs.size := pl.lt
    exact call_enumT pl fun h' he hit hk => wpAny_pyIter_enum he ⟨_, _, _, _, H1, rfl, I1.kept (t' := s1.toks) hk, turn_enumT a _ _ xs (Nat.ne_of_lt (Nat.lt_succ_of_lt la)) (Nat.ne_of_lt la), ⟨⟨.none, he⟩, hit, Nat.succ_ne_self _⟩, fresh, q⟩
/-- a list or a tuple, walked -/
theorem pi_seqD {tg l : Expr} {tl : TE} (hl : PE X l tl) : PI X tg l (fun σ H R => tl σ H fun x H1 => ∃ a, x = .ref a ∧ ((∃ xs, SqL X.K H1 a xs ∧ R (Itl X.K a) H1) ∨ (∃ xs, SqT X.K H1 a xs ∧ R (Itt X.K a) H1))) := by
  refine ⟨fun pins s σ H R I h => thn (hl.run pins s σ H _ I h) fun v s1 hq => ?_⟩
  obtain ⟨x, H1, I1, r1, a, rfl, q⟩ := hq
  cases r1
  have fr : ∀ b ∈ [s1.heap.objs.size], FpOk X pins H1 b := fun b hb => by
    rw [List.mem_singleton.mp hb]
    exact I1.fpOk (Nat.le_refl _) (I1.hok.fresh (Nat.le_refl _))
  rcases q with ⟨xs, hx, q⟩ | ⟨xs, hx, q⟩
  · obtain ⟨its, _, pl, _⟩ := I1.list hx
    exact wpAny_pyIter_list pl.isList ⟨_, _, _, _, H1, rfl, I1.kept (t' := s1.toks) fun b o e => Heap.get?_push_of_some _ e, turn_list a _, ⟨_, Heap.get?_push_size _ rfl, rfl, rfl⟩, fr, q⟩
  · obtain ⟨its, _, pl, _⟩ := I1.tuple hx
    exact wpAny_pyIter_tuple (show s1.heap.IsTuple a its.toArray from pl) ⟨_, _, _, _, H1, rfl, I1.kept (t' := s1.toks) fun b o e => Heap.get?_push_of_some _ e, turn_tuple a _, ⟨_, Heap.get?_push_size _ rfl, rfl, rfl⟩, fr, q⟩
end

/-! ### walks of data -/
/-- the walk J hands out the data ds, as long as its source stands -/
structure JD (K : PySem.W.Frag) (J : It) (S : Hp → Prop) (ds : List PyData) : Prop where
  up : ∀ F F', Sub F F' → S F → S F'
  go : ∀ i H, S H → i < ds.length → J.go i H
  stop : ∀ H, S H → J.stop ds.length H
  yld : ∀ i H x H' (P : Plc), (∀ a, P a → H a ≠ none) → S (fz P H) → i < ds.length → J.yld i H x H' → Grow H H' ∧ ∃ d, ds[i]? = some d ∧ Dq K (fz P H') x d
theorem DqAll_at {K : PySem.W.Frag} {F : Hp} {ds : List PyData} {vs : List V} {i : Nat} {v : V} (h : DqAll K F vs ds) (e : vs[i]? = some v) : ∃ d, ds[i]? = some d ∧ Dq K F v d := by
  have hi := lt_of_some e
  rw [DpAll_len h] at hi
  obtain ⟨v', h1, h2⟩ := DpAll_get h (List.getElem?_eq_getElem hi)
  rw [e] at h1
  cases h1
  exact ⟨_, List.getElem?_eq_getElem hi, h2⟩
theorem lt_some {α : Type} {l : List α} {i : Nat} (h : i < l.length) : ∃ x, l[i]? = some x := ⟨_, List.getElem?_eq_getElem h⟩
theorem SqT.mono {K : PySem.W.Frag} {F F' : Hp} (m : Sub F F') {a : Addr} {xs : List V} (h : SqT K F a xs) : SqT K F' a xs := by
  rcases h with (h | ⟨o, h⟩) | h
  · exact .inl (.inl (m _ _ h))
  · exact .inl (.inr ⟨o, m _ _ h⟩)
  · exact .inr h
section
variable {K : PySem.W.Frag} {a b : Addr} {ds es : List PyData}
theorem jd_list : JD K (Itl K a) (fun F => ∃ vs, LsK K F a vs ∧ DqAll K F vs ds) ds where
  up := fun _ _ m ⟨vs, h1, h2⟩ => ⟨vs, LsK.mono m h1, DpAll_mono m h2⟩
  go := fun i H ⟨vs, h1, h2⟩ hi => by
    rw [← DpAll_len h2] at hi
    obtain ⟨x, hx⟩ := lt_some hi
    exact ⟨vs, x, h1.sq, hx⟩
  stop := fun H ⟨vs, h1, h2⟩ => ⟨vs, h1.sq, Nat.le_of_eq (DpAll_len h2)⟩
  yld := fun i H x H' P hP ⟨vs, h1, h2⟩ hi ⟨e, hx⟩ => by
    subst e
    exact ⟨.inl rfl, DqAll_at h2 (hx _ (LsK_fz h1).sq)⟩
theorem jd_tup : JD K (Itt K a) (fun F => ∃ vs, SqT K F a vs ∧ DqAll K F vs ds) ds where
  up := fun _ _ m ⟨vs, h1, h2⟩ => ⟨vs, SqT.mono m h1, DpAll_mono m h2⟩
  go := fun i H ⟨vs, h1, h2⟩ hi => by
    rw [← DpAll_len h2] at hi
    obtain ⟨x, hx⟩ := lt_some hi
    exact ⟨vs, x, h1, hx⟩
  stop := fun H ⟨vs, h1, h2⟩ => ⟨vs, h1, Nat.le_of_eq (DpAll_len h2)⟩
  yld := fun i H x H' P hP ⟨vs, h1, h2⟩ hi ⟨e, hx⟩ => by
    subst e
    exact ⟨.inl rfl, DqAll_at h2 (hx _ (SqT_fz h1))⟩
theorem rngL_len (lo hi : Int) : (rngL lo hi).length = (hi - lo).toNat := by unfold rngL; rw [List.length_map, List.length_range]
theorem rngL_get {lo hi : Int} {i : Nat} (h : i < (hi - lo).toNat) : (rngL lo hi)[i]? = some (.int (lo + (i : Int))) := by
  unfold rngL
  rw [List.getElem?_map, List.getElem?_range h]
  rfl
theorem jd_rng (lo hi : Int) : JD K (L2.Itr lo (hi - lo).toNat) (fun _ => True) (rngL lo hi) where
  up := fun _ _ _ h => h
  go := fun i H _ hi => by rw [rngL_len] at hi; exact hi
  stop := fun H _ => by rw [rngL_len]; exact Nat.le_refl _
  yld := fun i H x H' P hP _ hi ⟨e, hx⟩ => by
    subst e hx
    rw [rngL_len] at hi
    exact ⟨.inl rfl, _, rngL_get hi, .int _⟩
theorem enumFrom_len : ∀ (n : Nat) (ds : List PyData), (enumFrom n ds).length = ds.length
  | _, [] => rfl
  | n, _ :: r => by simp [enumFrom, enumFrom_len (n + 1) r]
theorem enumFrom_get : ∀ (n : Nat) (ds : List PyData) (i : Nat) (d : PyData), ds[i]? = some d → (enumFrom n ds)[i]? = some (.tuple [.int ((n + i : Nat) : Int), d])
  | _, [], _, _, h => by simp at h
  | n, x :: r, 0, d, h => by
    simp at h; subst h; rfl
  | n, x :: r, i + 1, d, h => by
    have := enumFrom_get (n + 1) r i d (by simpa using h)
    rw [show n + 1 + i = n + (i + 1) by omega] at this
    simpa [enumFrom] using this
theorem new_tup {P : Plc} {H : Hp} {T : Addr} {xs : List V} {ds : List PyData} (hP : ∀ a, P a → H a ≠ none) (nT : H T = none) (h : DqAll K (fz P H) xs ds) : Dq K (fz P (upd H T (.tup xs))) (.ref T) (.tuple ds) :=
  .tup (.inl (.inl (fz_new hP nT))) (DpAll_mono (sub_upd nT) h)
theorem jd_enum : JD K (Ite K a) (fun F => ∃ vs, LsK K F a vs ∧ DqAll K F vs ds) (enumFrom 0 ds) where
  up := jd_list.up
  go := fun i H ⟨vs, h1, h2⟩ hi => by
    rw [enumFrom_len, ← DpAll_len h2] at hi
    obtain ⟨x, hx⟩ := lt_some hi
    exact ⟨vs, x, h1.sq, hx⟩
  stop := fun H ⟨vs, h1, h2⟩ => ⟨vs, h1.sq, by rw [enumFrom_len, DpAll_len h2]; exact Nat.le_refl _⟩
  yld := fun i H x H' P hP ⟨vs, h1, h2⟩ hi ⟨T, y, e1, nT, e2, hx⟩ => by
    subst e1 e2
    obtain ⟨d, q1, q2⟩ := DqAll_at h2 (hx _ (LsK_fz h1).sq)
    refine ⟨.inr ⟨T, _, nT, rfl⟩, _, enumFrom_get 0 ds i d q1, ?_⟩
    rw [Nat.zero_add]
    exact new_tup hP nT (.cons (.int _) (.cons q2 .nil))
theorem jd_enumT {vs : List V} (hl : vs.length = ds.length) : JD K (IteT K a vs) (fun F => SqT K F a vs ∧ DqAll K F vs ds) (enumFrom 0 ds) where
  up := fun _ _ m ⟨h1, h2⟩ => ⟨SqT.mono m h1, DpAll_mono m h2⟩
  go := fun i H ⟨h1, h2⟩ hi => by
    rw [enumFrom_len, ← hl] at hi
    exact ⟨hi, h1⟩
  stop := fun H ⟨h1, h2⟩ => by
    rw [enumFrom_len, ← hl]
    exact ⟨rfl, h1⟩
  yld := fun i H x H' P hP ⟨h1, h2⟩ hi ⟨T, ys, e1, nT, e2, y, hy, e3⟩ => by
    subst e1 e2 e3
    obtain ⟨d, q1, q2⟩ := DqAll_at h2 hy
    refine ⟨.inr ⟨T, _, nT, rfl⟩, _, enumFrom_get 0 ds i d q1, ?_⟩
    rw [Nat.zero_add]
    exact new_tup hP nT (.cons (.int _) (.cons q2 .nil))
theorem zipL_len : ∀ (ds es : List PyData), (zipL ds es).length = min ds.length es.length
  | [], _ => by simp [zipL]
  | _ :: _, [] => by simp [zipL]
  | _ :: r, _ :: t => by simp [zipL, zipL_len r t]; try omega
theorem zipL_get : ∀ (ds es : List PyData) (i : Nat) (d e : PyData), ds[i]? = some d → es[i]? = some e → (zipL ds es)[i]? = some (.tuple [d, e])
  | [], _, _, _, _, h, _ => by simp at h
  | _ :: _, [], _, _, _, _, h => by simp at h
  | x :: r, y :: t, 0, d, e, h, h2 => by simp at h h2; subst h h2; rfl
  | x :: r, y :: t, i + 1, d, e, h, h2 => by
    have := zipL_get r t i d e (by simpa using h) (by simpa using h2)
    simpa [zipL] using this
theorem jd_zip : JD K (Itz K a b) (fun F => (∃ vs, LsK K F a vs ∧ DqAll K F vs ds) ∧ ∃ ws, LsK K F b ws ∧ DqAll K F ws es) (zipL ds es) where
  up := fun F F' m ⟨h1, h2⟩ => ⟨jd_list.up F F' m h1, jd_list.up F F' m h2⟩
  go := fun i H ⟨⟨vs, h1, h2⟩, ws, h3, h4⟩ hi => by
    rw [zipL_len] at hi
    obtain ⟨x, hx⟩ := lt_some (l := vs) (i := i) (by rw [DpAll_len h2]; omega)
    obtain ⟨y, hy⟩ := lt_some (l := ws) (i := i) (by rw [DpAll_len h4]; omega)
    exact ⟨vs, ws, x, y, h1.sq, h3.sq, hx, hy⟩
  stop := fun H ⟨⟨vs, h1, h2⟩, ws, h3, h4⟩ => ⟨vs, ws, h1.sq, h3.sq, by rw [zipL_len, DpAll_len h2, DpAll_len h4]; omega⟩
  yld := fun i H x H' P hP ⟨⟨vs, h1, h2⟩, ws, h3, h4⟩ hi ⟨T, y, z, e1, nT, e2, hx, hy⟩ => by
    subst e1 e2
    obtain ⟨d, q1, q2⟩ := DqAll_at h2 (hx _ (LsK_fz h1).sq)
    obtain ⟨e, q3, q4⟩ := DqAll_at h4 (hy _ (LsK_fz h3).sq)
    exact ⟨.inr ⟨T, _, nT, rfl⟩, _, zipL_get ds es i d e q1 q3, new_tup hP nT (.cons q2 (.cons q4 .nil))⟩
theorem jd_zipT : JD K (RZ.ItzT K a b) (fun F => (∃ vs, SqT K F a vs ∧ DqAll K F vs ds) ∧ ∃ ws, SqT K F b ws ∧ DqAll K F ws es) (zipL ds es) where
  up := fun F F' m ⟨h1, h2⟩ => ⟨jd_tup.up F F' m h1, jd_tup.up F F' m h2⟩
  go := fun i H ⟨⟨vs, h1, h2⟩, ws, h3, h4⟩ hi => by
    rw [zipL_len] at hi
    obtain ⟨x, hx⟩ := lt_some (l := vs) (i := i) (by rw [DpAll_len h2]; omega)
    obtain ⟨y, hy⟩ := lt_some (l := ws) (i := i) (by rw [DpAll_len h4]; omega)
    exact ⟨vs, ws, x, y, h1, h3, hx, hy⟩
  stop := fun H ⟨⟨vs, h1, h2⟩, ws, h3, h4⟩ => ⟨vs, ws, h1, h3, by rw [zipL_len, DpAll_len h2, DpAll_len h4]; omega⟩
  yld := fun i H x H' P hP ⟨⟨vs, h1, h2⟩, ws, h3, h4⟩ hi ⟨T, y, z, e1, nT, e2, hx, hy⟩ => by
    subst e1 e2
    obtain ⟨d, q1, q2⟩ := DqAll_at h2 (hx _ (SqT_fz h1))
    obtain ⟨e, q3, q4⟩ := DqAll_at h4 (hy _ (SqT_fz h3))
    exact ⟨.inr ⟨T, _, nT, rfl⟩, _, zipL_get ds es i d e q1 q3, new_tup hP nT (.cons q2 (.cons q4 .nil))⟩
end
/-- a walk for data -/
abbrev RJ (K : PySem.W.Frag) : Plc → Hp → It → List PyData → Prop := fun P H J ds => ∃ S, JD K J S ds ∧ S (fz P H)
def tDi (K : PySem.W.Frag) (XR : XRel) (W : WX) (m : D (List PyData)) : TI := fun σ H R => ∃ hid pa r, Sim K hid pa r σ H ∧ wp K XR W hid pa σ (RJ K) (Lv r σ) H (m r) fun J _ _ H' => R J H'
end DL
end
section
set_option maxHeartbeats 200000
set_option maxRecDepth 100000
/-! DG: targets, comprehensions. -/
namespace DL
open PySem L2

/-! ### targets -/
mutual
def tgSlots : Tg → List Nat
  | .nm i => [i]
  | .sub _ _ => []
  | .tp ts => tgsSlots ts
def tgsSlots : List Tg → List Nat
  | [] => []
  | t :: ts => tgSlots t ++ tgsSlots ts
end
/-- the slots but some are as they were -/
structure Keeps (is : List Nat) (σ σ' : L2.St) : Prop where
  len : σ'.length = σ.length
  at' : ∀ i, i ∉ is → σ'[i]? = σ[i]?
theorem Keeps.refl {is : List Nat} {σ : L2.St} : Keeps is σ σ := ⟨rfl, fun _ _ => rfl⟩
theorem Keeps.trans {is js : List Nat} {σ σ1 σ2 : L2.St} (a : Keeps is σ σ1) (b : Keeps js σ1 σ2) : Keeps (is ++ js) σ σ2 :=
  ⟨b.len.trans a.len, fun i h => (b.at' i fun z => h (List.mem_append_right _ z)).trans (a.at' i fun z => h (List.mem_append_left _ z))⟩
theorem Keeps.one {i : Nat} {v : Option V} {σ : L2.St} : Keeps [i] σ (σ.set i v) := ⟨List.length_set, fun j h => set_other fun z => h (List.mem_singleton.mpr z)⟩
def wpT (K : PySem.W.Frag) (hid : Plc) (pa : Addr) (is : List Nat) (L : Plc) (σ : L2.St) (H : Hp) (m : Res Unit) (Q : L2.St → Hp → Prop) : Prop :=
  match m with
  | .ok _ r => ∀ σ' H', Sim K hid pa r σ' H' → Ext L H (Lv r σ') H' → Keeps is σ σ' → Q σ' H'
  | _ => False
def gD (K : PySem.W.Frag) (t : Tg) : TG := fun v σ H Q => ∃ hid pa r d, Sim K hid pa r σ H ∧ Dq K (fz (fun x => hid x ∨ Lv r σ x) H) v d ∧ wpT K hid pa (tgSlots t) (Lv r σ) σ H (putT t d r) Q
def gDs (K : PySem.W.Frag) (ts : List Tg) : TGs := fun vs σ H Q => ∃ hid pa r ds, Sim K hid pa r σ H ∧ DqAll K (fz (fun x => hid x ∨ Lv r σ x) H) vs ds ∧ wpT K hid pa (tgsSlots ts) (Lv r σ) σ H (putTs ts ds r) Q
def locB (sc : Scope) (own : Str → Bool) (x : Str) : Bool := match sc.names.lookup x with
  | some .local => true
  | some .cell => own x
  | _ => false
def okName (x : Str) : Bool := !(x == ("__debug__" : Str)) && !(x == ("__classdict__" : Str))
def visB (sc : Scope) (x : Str) : Bool := match sc.names.lookup x with
  | some .local => true
  | some .cell => true
  | some .free => true
  | _ => false
mutual
def chkTg (N : List Str) (sc : Scope) (own : Str → Bool) : Tg → Expr → Bool
  | .nm i, .Name x _ => decide (N[i]? = some x) && locB sc own x
  | .sub i ix, .Subscript (.Name x _) (.Constant (.int j) _ _) _ => decide (N[i]? = some x) && visB sc x && okName x && decide (ix = j)
  | .tp ts, .Tuple es _ _ => chkTgs N sc own ts es
  | _, _ => false
def chkTgs (N : List Str) (sc : Scope) (own : Str → Bool) : List Tg → List Expr → Bool
  | [], [] => true
  | t :: ts, e :: es => chkTg N sc own t e && chkTgs N sc own ts es
  | _, _ => false
end
theorem vis_of {sc : Scope} {x : Str} (h : visB sc x = true) : Vis sc x := by
  unfold visB at h
  split at h
  · rename_i q; exact .inl q
  · rename_i q; exact .inr (.inl q)
  · rename_i q; exact .inr (.inr q)
  · cases h
theorem loc_of {sc : Scope} {own : Str → Bool} {x : Str} (h : locB sc own x = true) : sc.names.lookup x = some .local ∨ (sc.names.lookup x = some .cell ∧ own x = true) := by
  unfold locB at h
  split at h
  · rename_i q; exact .inl q
  · rename_i q; exact .inr ⟨q, h⟩
  · cases h
theorem okName_of {x : Str} (h : okName x = true) : (x == ("__debug__" : Str)) = false ∧ (x == ("__classdict__" : Str)) = false := by
  unfold okName at h
  simpa using h
theorem ixN_eq (n : Nat) (i : Int) : L2.ixN n i = ixN n i := rfl
section
variable {X : Cx} {own : Str → Bool}
theorem PG_mono {e : Expr} {t t' : TG} (h : PG X e t) (m : ∀ v σ H Q, t' v σ H Q → t v σ H Q) : PG X e t' := ⟨fun pins s σ H v u Q I r q => h.run pins s σ H v u Q I r (m v σ H Q q)⟩
theorem PGs_mono {e : List Expr} {t t' : TGs} (h : PGs X e t) (m : ∀ v σ H Q, t' v σ H Q → t v σ H Q) : PGs X e t' := ⟨fun pins s σ H v u Q I r q => h.run pins s σ H v u Q I r (m v σ H Q q)⟩
theorem tg_noStar {t : Tg} {e : Expr} {es : List Expr} {N : List Str} {sc : Scope} {env : PySem.Env} (h : chkTg N sc own t e = true) : assignEach (e :: es) env = (false, assign e env) :: assignEach es env := by
  cases e <;> first | rfl | (cases t <;> exact Bool.noConfusion h)
theorem putTs_len : ∀ {ts : List Tg} {ds : List PyData} {r r' : Evn} {u : Unit}, putTs ts ds r = .ok u r' → ts.length = ds.length
  | [], [], _, _, _, _ => rfl
  | [], _ :: _, _, _, _, h => by unfold putTs at h; cases h
  | _ :: _, [], _, _, _, h => by unfold putTs at h; cases h
  | t :: ts, d :: ds, r, r', u, h => by
    unfold putTs bnd at h
    cases e : putT t d r with
    | ok u1 r1 =>
      rw [e] at h
      have q : putTs ts ds r1 = .ok u r' := h
      simp [putTs_len q]
    | exc _ _ _ => rw [e] at h; cases h
    | bad => rw [e] at h; cases h
theorem tgs_each : ∀ {ts : List Tg} {es : List Expr} {N : List Str} {sc : Scope} {env : PySem.Env}, chkTgs N sc own ts es = true → (assignEach es env).length = ts.length ∧ (assignEach es env).findIdx? (·.1) = none
  | [], [], _, _, _, _ => ⟨rfl, rfl⟩
  | t :: ts, e :: es, N, sc, env, h => by
    have h' : (chkTg N sc own t e && chkTgs N sc own ts es) = true := h
    obtain ⟨h1, h2⟩ := Bool.and_eq_true_iff.mp h'
    obtain ⟨q1, q2⟩ := tgs_each (env := env) h2
    rw [tg_noStar h1]
    exact ⟨by simp [q1], by simp [List.findIdx?_cons, q2]⟩
  | [], _ :: _, _, _, _, h => by cases h
  | _ :: _, [], _, _, _, h => by cases h
mutual
theorem sound_Tg (hc : X.calm = true) (nd : X.N.Nodup) (ho : ∀ x, own x = true → X.fn x = true) : ∀ (t : Tg) (e : Expr), chkTg X.N X.env.scope own t e = true → PG X e (gD X.K t)
  | .nm i, e, h => by
    cases e <;> first | (exact Bool.noConfusion h) | skip
    rename_i x pos
    have h' : (decide (X.N[i]? = some x) && locB X.env.scope own x) = true := h
    obtain ⟨h1, h2⟩ := Bool.and_eq_true_iff.mp h'
    have hi := of_decide_eq_true h1
    have hl := loc_of h2
    refine PG_mono (pg_name (i := i) nd hi (hl.imp id (·.1)) (hl.symm.imp (fun z => ho x z.2) id)) fun v σ H Q q => ?_
    obtain ⟨hid, pa, r, d, S, D, w⟩ := q
    have hr : i < r.length ∨ ¬ i < r.length := Nat.lt_or_ge i r.length |>.imp id (fun z => Nat.not_lt.mpr z)
    unfold putT at w
    rcases hr with hr | hr
    · simp only [if_pos hr] at w
      exact w _ _ (S.put hr D) ⟨fun _ _ e _ => e, fun _ z => .inl (lv_set_pu z), fun _ z => z⟩ Keeps.one
    · simp only [if_neg hr] at w
      exact w.elim
  | .sub i ix, e, h => by
    cases e <;> first | (exact Bool.noConfusion h) | skip
    rename_i o y pos
    cases o <;> first | (exact Bool.noConfusion h) | skip
    rename_i x p1
    cases y <;> first | (exact Bool.noConfusion h) | skip
    rename_i c k p2
    cases c <;> first | (exact Bool.noConfusion h) | skip
    rename_i j
    have h' : (decide (X.N[i]? = some x) && visB X.env.scope x && okName x && decide (ix = j)) = true := h
    obtain ⟨h3, h4⟩ := Bool.and_eq_true_iff.mp h'
    obtain ⟨h3, h5⟩ := Bool.and_eq_true_iff.mp h3
    obtain ⟨h1, h2⟩ := Bool.and_eq_true_iff.mp h3
    have hi := of_decide_eq_true h1
    obtain rfl := of_decide_eq_true h4
    obtain ⟨o1, o2⟩ := okName_of h5
    refine PG_mono (pg_sub (pe_var hi (vis_of h2) o1 o2) pe_int set_list) fun v σ H Q q => ?_
    obtain ⟨hid, pa, r, d, S, D, w⟩ := q
    unfold putT at w
    cases e : getS r i with
    | un => simp only [e] at w; exact w.elim
    | pu _ => simp only [e] at w; exact w.elim
    | ow t ds =>
      simp only [e] at w
      cases ej : ixN ds.length ix with
      | none => simp only [ej] at w; exact w.elim
      | some j =>
        simp only [ej] at w
        have er := getS_some e (fun z => nomatch z)
        obtain ⟨a, vs, q1, q2, q3, q4, _⟩ := S.ow i t ds er
        refine ⟨.ref a, q1, a, vs, ix, j, rfl, rfl, q2, by rw [DpAll_len q4]; exact ej, ?_⟩
        exact w _ _ (S.chg er q1 (DpAll_set D j q4)) (Ext.chg er q1) Keeps.refl
  | .tp ts, e, h => by
    cases e <;> first | (exact Bool.noConfusion h) | skip
    rename_i es k pos
    have h' : chkTgs X.N X.env.scope own ts es = true := h
    obtain ⟨q1, q2⟩ := tgs_each (env := X.env) h'
    refine PG_mono (pg_tup hc (sound_Tgs hc nd ho ts es h') q1 q2) fun v σ H Q q => ?_
    obtain ⟨hid, pa, r, d, S, D, w⟩ := q
    unfold putT at w
    cases d with
    | tuple ds =>
      simp only at w
      cases D with
      | @tup a xs _ d1 d2 =>
        refine ⟨a, xs, rfl, SqT_fz d1, ?_, hid, pa, r, ds, S, d2, w⟩
        rw [DpAll_len d2]
        cases em : putTs ts ds r with
        | ok u r' =>
          exact (putTs_len em).symm
        | exc _ _ _ => rw [em] at w; exact w.elim
        | bad => rw [em] at w; exact w.elim
    | _ => exact w.elim
theorem sound_Tgs (hc : X.calm = true) (nd : X.N.Nodup) (ho : ∀ x, own x = true → X.fn x = true) : ∀ (ts : List Tg) (es : List Expr), chkTgs X.N X.env.scope own ts es = true → PGs X es (gDs X.K ts)
  | [], [], _ => PGs_mono pgs_nil fun vs σ H Q q => by
    obtain ⟨hid, pa, r, ds, S, D, w⟩ := q
    cases ds with
    | nil => cases D; exact ⟨rfl, w σ H S .refl .refl⟩
    | cons _ _ => exact w.elim
  | t :: ts, e :: es, h => by
    have h' : (chkTg X.N X.env.scope own t e && chkTgs X.N X.env.scope own ts es) = true := h
    obtain ⟨h1, h2⟩ := Bool.and_eq_true_iff.mp h'
    refine PGs_mono (pgs_cons (sound_Tg hc nd ho t e h1) (sound_Tgs hc nd ho ts es h2) (by rw [tg_noStar h1]; rfl)) fun vs σ H Q q => ?_
    obtain ⟨hid, pa, r, ds, S, D, w⟩ := q
    cases ds with
    | nil => exact w.elim
    | cons d ds =>
      cases D with
      | @cons v vr _ _ d1 d2 =>
        refine ⟨v, vr, rfl, hid, pa, r, d, S, d1, ?_⟩
        have w : wpT X.K hid pa (tgSlots t ++ tgsSlots ts) (Lv r σ) σ H (bnd (putT t d) (fun _ => putTs ts ds) r) Q := w
        unfold bnd at w
        cases em : putT t d r with
        | ok u r1 =>
          rw [em] at w
          intro σ1 H1 S1 E1 K1
          refine ⟨hid, pa, r1, ds, S1, DpAll_mono E1.sub d2, ?_⟩
          have w : wpT X.K hid pa (tgSlots t ++ tgsSlots ts) (Lv r σ) σ H (putTs ts ds r1) Q := w
          cases en : putTs ts ds r1 with
          | ok u r2 =>
            rw [en] at w
            exact fun σ2 H2 S2 E2 K2 => w σ2 H2 S2 (E1.trans E2) (K1.trans K2)
          | exc _ _ _ => rw [en] at w; exact w.elim
          | bad => rw [en] at w; exact w.elim
        | exc _ _ _ => rw [em] at w; exact w.elim
        | bad => rw [em] at w; exact w.elim
  | [], _ :: _, h => by cases h
  | _ :: _, [], h => by cases h
end
end
end DL
end
section
set_option maxHeartbeats 200000
set_option maxRecDepth 100000
/-! DH: comprehensions. -/
namespace DL
open PySem L2
theorem wipe_out {σ : L2.St} : ∀ {vs : List Nat} {i : Nat}, i ∉ vs → (L2.wipe σ vs)[i]? = σ[i]?
  | [], _, _ => rfl
  | v :: vs, i, h => by
    unfold L2.wipe
    rw [set_other fun z => h (by rw [z]; exact List.mem_cons_self)]
    exact wipe_out fun z => h (List.mem_cons_of_mem _ z)
theorem wipeE_out {r : Evn} : ∀ {vs : List Nat} {i : Nat}, i ∉ vs → (wipeE r vs)[i]? = r[i]?
  | [], _, _ => rfl
  | v :: vs, i, h => by
    unfold wipeE
    rw [set_other fun z => h (by rw [z]; exact List.mem_cons_self)]
    exact wipeE_out fun z => h (List.mem_cons_of_mem _ z)
theorem wipeE_len (r : Evn) : ∀ vs : List Nat, (wipeE r vs).length = r.length
  | [] => rfl
  | v :: vs => by unfold wipeE; rw [List.length_set, wipeE_len r vs]
theorem wipeE_in {r : Evn} : ∀ {vs : List Nat} {i : Nat} {s : Sl}, i ∈ vs → (wipeE r vs)[i]? = some s → s = .un
  | v :: vs, i, s, h, e => by
    unfold wipeE at e
    rcases set_get e with ⟨_, q⟩ | ⟨n, q⟩
    · exact q
    · exact wipeE_in ((List.mem_cons.mp h).resolve_left n) q
theorem wipe_eq {is vs : List Nat} {σ σ2 : L2.St} (k : Keeps is (L2.wipe σ vs) σ2) (h : ∀ i ∈ is, i ∈ vs) : L2.wipe σ2 vs = L2.wipe σ vs := by
  have l1 : (L2.wipe σ2 vs).length = (L2.wipe σ vs).length := by rw [wipe_length, k.len]
  refine List.ext_getElem? fun i => ?_
  by_cases hi : i ∈ vs
  · by_cases hl : i < σ.length
    · have non : ∀ τ : L2.St, i < τ.length → (L2.wipe τ vs)[i]? = some none := fun τ ht => by
        cases e : (L2.wipe τ vs)[i]? with
        | none =>
          have := List.getElem?_eq_none_iff.mp e
          rw [wipe_length] at this
          omega
        | some o =>
          cases o with
          | none => rfl
          | some x => exact absurd hi (wipe_some e).2
      rw [non σ hl, non σ2 (by rw [k.len, wipe_length]; exact hl)]
    · have h1 : (L2.wipe σ2 vs)[i]? = none := List.getElem?_eq_none_iff.mpr (by rw [wipe_length, k.len, wipe_length]; omega)
      have h2 : (L2.wipe σ vs)[i]? = none := List.getElem?_eq_none_iff.mpr (by rw [wipe_length]; omega)
      rw [h1, h2]
  · rw [wipe_out hi, k.at' i fun z => hi (h i z)]
theorem lv_wipe {r : Evn} {σ : L2.St} {vs : List Nat} {a : Addr} : Lv (wipeE r vs) (L2.wipe σ vs) a → Lv r σ a := fun ⟨i, t, ds, e1, e2⟩ => by
  have ni : i ∉ vs := fun z => by
    have := wipeE_in z e1
    cases this
  rw [wipeE_out ni] at e1
  rw [wipe_out ni] at e2
  exact ⟨i, t, ds, e1, e2⟩
theorem Sim.wipe {K : PySem.W.Frag} {hid : Plc} {pa : Addr} {r : Evn} {σ : L2.St} {H : Hp} (S : Sim K hid pa r σ H) : ∀ vs : List Nat, Sim K hid pa (wipeE r vs) (L2.wipe σ vs) H
  | [] => S
  | v :: vs => (Sim.wipe S vs).unset v none
theorem noOw_of {r : Evn} : ∀ {vs : List Nat} {i : Nat} {t : Bool} {ds : List PyData}, noOw r vs = true → i ∈ vs → getS r i ≠ .ow t ds
  | v :: vs, i, t, ds, h, hi, e => by
    unfold noOw at h
    obtain ⟨h1, h2⟩ := Bool.and_eq_true_iff.mp h
    rcases List.mem_cons.mp hi with rfl | hi
    · rw [e] at h1; cases h1
    · exact noOw_of h2 hi e
theorem backE_out {r0 r1 : Evn} : ∀ {vs : List Nat} {i : Nat}, i ∉ vs → (backE r0 r1 vs)[i]? = r1[i]?
  | [], _, _ => rfl
  | v :: vs, i, h => by
    unfold backE
    rw [set_other fun z => h (by rw [z]; exact List.mem_cons_self)]
    exact backE_out fun z => h (List.mem_cons_of_mem _ z)
theorem backE_len (r0 r1 : Evn) : ∀ vs : List Nat, (backE r0 r1 vs).length = r1.length
  | [] => rfl
  | v :: vs => by unfold backE; rw [List.length_set, backE_len r0 r1 vs]
theorem backE_in {r0 r1 : Evn} : ∀ {vs : List Nat} {i : Nat} {s : Sl}, i ∈ vs → (backE r0 r1 vs)[i]? = some s → s = getS r0 i
  | v :: vs, i, s, h, e => by
    unfold backE at e
    rcases set_get e with ⟨q1, q⟩ | ⟨n, q⟩
    · rw [q1]; exact q
    · exact backE_in ((List.mem_cons.mp h).resolve_left n) q
theorem lv_back {r0 r1 : Evn} {σ : L2.St} {vs : List Nat} (no : noOw r0 vs = true) {a : Addr} : Lv (backE r0 r1 vs) σ a → Lv (wipeE r1 vs) (L2.wipe σ vs) a := fun ⟨i, t, ds, e1, e2⟩ => by
  have ni : i ∉ vs := fun z => noOw_of no z (backE_in z e1).symm
  rw [backE_out ni] at e1
  exact ⟨i, t, ds, by rw [wipeE_out ni]; exact e1, by rw [wipe_out ni]; exact e2⟩
theorem Sim.back {K : PySem.W.Frag} {hid0 hid : Plc} {pa : Addr} {r r1 : Evn} {σ : L2.St} {H0 H : Hp} {vs : List Nat} (S0 : Sim K hid0 pa r σ H0) (no : noOw r vs = true) (S1 : Sim K hid pa (wipeE r1 vs) (L2.wipe σ vs) H)
    (sb : Sub (fz (fun x => hid0 x ∨ Lv r σ x) H0) (fz (fun x => hid x ∨ Lv (wipeE r1 vs) (L2.wipe σ vs) x) H)) : Sim K hid pa (backE r r1 vs) σ H := by
  have sb2 : Sub (fz (fun x => hid x ∨ Lv (wipeE r1 vs) (L2.wipe σ vs) x) H) (fz (fun x => hid x ∨ Lv (backE r r1 vs) σ x) H) := sub_lv fun a h => lv_back no h
  have ll : r1.length = σ.length := by have := S1.len; rw [wipeE_len, wipe_length] at this; exact this
  refine ⟨by rw [backE_len]; exact ll, fun i d e => ?_, fun i t ds e => ?_, S1.hd, fun i j t u ds es a e1 e2 p1 p2 => ?_⟩
  · by_cases hi : i ∈ vs
    · have q := backE_in hi e
      obtain ⟨v, h1, h2⟩ := S0.pu i d (getS_some q.symm (fun z => nomatch z))
      exact ⟨v, h1, Dp_mono sb2 (Dp_mono sb h2)⟩
    · rw [backE_out hi] at e
      obtain ⟨v, h1, h2⟩ := S1.pu i d (by rw [wipeE_out hi]; exact e)
      rw [wipe_out hi] at h1
      exact ⟨v, h1, Dp_mono sb2 h2⟩
  · have hi : i ∉ vs := fun z => noOw_of no z (backE_in z e).symm
    rw [backE_out hi] at e
    obtain ⟨a, ws, h1, h2, h3, h4, h5⟩ := S1.ow i t ds (by rw [wipeE_out hi]; exact e)
    rw [wipe_out hi] at h1
    exact ⟨a, ws, h1, h2, h3, DpAll_mono sb2 h4, h5⟩
  · have hi : i ∉ vs := fun z => noOw_of no z (backE_in z e1).symm
    have hj : j ∉ vs := fun z => noOw_of no z (backE_in z e2).symm
    rw [backE_out hi] at e1
    rw [backE_out hj] at e2
    exact S1.inj i j t u ds es a (by rw [wipeE_out hi]; exact e1) (by rw [wipeE_out hj]; exact e2) (by rw [wipe_out hi]; exact p1) (by rw [wipe_out hj]; exact p2)
theorem Ext.atD {L L' L'' : Plc} {H1 H4 : Hp} {D : Addr} {o : HO} (e : Ext L H1 L' H4) (n : H1 D = none) (h : ∀ x, L'' x → L' x) : Ext L H1 L'' (upd H4 D o) where
  keep := fun a u q z => by rw [upd_ne (ne_of_none q n)]; exact e.keep a u q z
  liv := fun a q => e.liv a (h a q)
  dom := fun a q => dom_upd (e.dom a q)
theorem Ext.less {L L' L'' : Plc} {H1 H4 : Hp} (e : Ext L H1 L' H4) (h : ∀ x, L'' x → L' x) : Ext L H1 L'' H4 := ⟨e.keep, fun a q => e.liv a (h a q), e.dom⟩
abbrev W0 : WX := fun _ _ _ _ => False
theorem lc_core {K : PySem.W.Frag} {XR : XRel} {W : WX} {own : List Nat} {tg : Tg} {mi : D (List PyData)} {c : D Bool} {e : D PyData} {σ : L2.St} {H : Hp} {Q : VK} {hid : Plc} {pa : Addr} {r : Evn} (S : Sim K hid pa r σ H) (hown : ∀ i ∈ tgSlots tg, i ∈ own)
    (hit : wp K XR W hid pa σ (RJ K) (Lv r σ) H (mi r) fun J xs r1 H1 => ∃ ys r2, compD own tg c e xs r1 = .ok ys r2 ∧ ∀ D H' acc, H1 D = none → H' D = some (.lst acc) → Sim K (fun x => hid x ∨ x = D) pa r2 σ H' →
      Ext (Lv r1 σ) H1 (Lv r2 σ) H' → DqAll K (fz (fun x => (hid x ∨ x = D) ∨ Lv r2 σ x) H') acc ys → Q (.ref D) H') :
    tLc (tDi K XR W mi) (gD K tg) (tDt K XR W0 c) (tD K XR W0 e) own σ H Q := by
  refine ⟨hid, pa, r, S, wp_mono hit fun J xs r1 H1 S1 E1 hJ hq => ?_⟩
  obtain ⟨SS, jd, hs⟩ := hJ
  obtain ⟨ys, rZ, hm, fin⟩ := hq
  intro D nD
  unfold compD at hm
  have hno : (noOw r1 own && decide (xs.length ≤ sizeLine)) = true := by
    by_cases q : (noOw r1 own && decide (xs.length ≤ sizeLine)) = true
    · exact q
    · rw [if_neg q] at hm; cases hm
  rw [if_pos hno] at hm
  obtain ⟨no, hlen⟩ := Bool.and_eq_true_iff.mp hno
  have hlen := of_decide_eq_true hlen
  unfold bnd nox at hm
  cases em : mapL (stepC own tg c e) xs r1 with
  | exc _ _ _ => rw [em] at hm; cases hm
  | bad => rw [em] at hm; cases hm
  | ok ys' r2 =>
  rw [em] at hm
  have hm : Res.ok ys' (backE r1 r2 own) = .ok ys rZ := hm
  cases hm
  have hidD : ∀ x, (hid x ∨ x = D) ↔ (hid x ∨ x = D) := fun _ => Iff.rfl
  have nHidD : ¬ hid D := fun z => S1.hd D z nD
  let hid' : Plc := fun x => hid x ∨ x = D
  let σw := L2.wipe σ own
  let P : Evn → Plc := fun rc x => hid' x ∨ Lv (wipeE rc own) σw x
  let INV : Nat → Hp → Prop := fun i H => i ≤ xs.length ∧ ∃ rc acc ysA ysR, Sim K hid' pa (wipeE rc own) σw H ∧ mapL (stepC own tg c e) (xs.drop i) rc = .ok ysR r2 ∧ ys = ysA ++ ysR ∧ H D = some (.lst acc) ∧ acc.length ≤ i ∧
    DqAll K (fz (P rc) H) acc ysA ∧ SS (fz (P rc) H) ∧ Ext (Lv r1 σ) H1 (Lv (wipeE rc own) σw) H
  refine ⟨fun i m H => m = xs.length - i ∧ INV i H, ⟨xs.length, by simp, Nat.zero_le _, r1, [], [], ys, ?_, by simpa using em, rfl, upd_same, Nat.le_refl _, .nil, ?_, ?_⟩, ?_⟩
  · have S2 := (S1.new (p := D) (o := .lst []) nD).wipe own
    refine ⟨S2.len, fun i d q => ?_, fun i t ds q => ?_, fun a q => ?_, S2.inj⟩
    · obtain ⟨v, h1, h2⟩ := ((S1.wipe own)).pu i d q
      refine ⟨v, h1, Dp_mono (fun a o z => ?_) h2⟩
      obtain ⟨z1, z2⟩ := fz_some.mp z
      have ne : a ≠ D := ne_of_none z2 nD
      exact fz_some.mpr ⟨fun w => z1 (w.imp (fun w => w.resolve_right ne) id), by rw [upd_ne ne]; exact z2⟩
    · obtain ⟨a, vs, h1, h2, h3, h4, h5⟩ := ((S1.wipe own)).ow i t ds q
      have ne : a ≠ D := ne_of_none h2 nD
      refine ⟨a, vs, h1, by rw [upd_ne ne]; exact h2, fun w => h3 (w.resolve_right ne), DpAll_mono (fun b o z => ?_) h4, h5⟩
      obtain ⟨z1, z2⟩ := fz_some.mp z
      have ne : b ≠ D := ne_of_none z2 nD
      exact fz_some.mpr ⟨fun w => z1 (w.imp (fun w => w.resolve_right ne) id), by rw [upd_ne ne]; exact z2⟩
    · rcases q with q | q
      · exact S2.hd a q
      · rw [q, upd_same]; exact fun z => nomatch z
  · refine jd.up _ _ (fun a o z => ?_) hs
    obtain ⟨z1, z2⟩ := fz_some.mp z
    have ne : a ≠ D := ne_of_none z2 nD
    refine fz_some.mpr ⟨fun w => ?_, by rw [upd_ne ne]; exact z2⟩
    rcases w with w | w
    · exact z1 (.inl (w.resolve_right ne))
    · exact z1 (.inr (lv_wipe w))
  · exact (Ext.refl).atD nD fun x h => lv_wipe h
  · intro i m H2 hI
    obtain ⟨rfl, hi, rc, acc, ysA, ysR, Sc, hmR, hys, hD, hacc, dA, sS, eX⟩ := hI
    have sSH : SS H2 := jd.up _ _ fz_sub sS
    by_cases hlt : i < xs.length
    · refine .inr ⟨jd.go i H2 sSH hlt, INV (i + 1), fun H' h => ⟨_, by omega, rfl, h⟩, fun v H3 hy => ?_⟩
      obtain ⟨g3, d, ed, dv⟩ := jd.yld i H2 v H3 (P rc) Sc.held sS hlt hy
      have hdrop : xs.drop i = d :: xs.drop (i + 1) := by
        rw [List.drop_eq_getElem_cons hlt]
        rw [List.getElem?_eq_getElem hlt] at ed
        rw [Option.some.inj ed]
      rw [hdrop] at hmR
      have hmR : bnd (stepC own tg c e d) (fun o => bnd (mapL (stepC own tg c e) (xs.drop (i + 1))) fun ys => ret (match o with | some y => y :: ys | none => ys)) rc = .ok ysR r2 := hmR
      -- the step
      have S3 : Sim K hid' pa (wipeE rc own) σw H3 := Sc.grow g3
      refine ⟨hid', pa, wipeE rc own, d, S3, dv, ?_⟩
      unfold bnd at hmR
      cases es : stepC own tg c e d rc with
      | exc _ _ _ => rw [es] at hmR; cases hmR
      | bad => rw [es] at hmR; cases hmR
      | ok o rc2 =>
      rw [es] at hmR
      simp only at hmR
      cases er : mapL (stepC own tg c e) (xs.drop (i + 1)) rc2 with
      | exc _ _ _ => rw [er] at hmR; cases hmR
      | bad => rw [er] at hmR; cases hmR
      | ok ysT r2' =>
      rw [er] at hmR
      simp only [ret, Res.ok.injEq] at hmR
      obtain ⟨hyR, rfl⟩ := hmR
      unfold stepC bnd at es
      simp only at es
      cases ep : putT tg d (wipeE rc own) with
      | exc _ _ _ => rw [ep] at es; cases es
      | bad => rw [ep] at es; cases es
      | ok u rA =>
      rw [ep] at es
      simp only at es
      intro σ2 H4 S4 E4 K4
      have hw : L2.wipe σ2 own = L2.wipe σ own := wipe_eq K4 hown
      refine ⟨hw, hid', pa, rA, S4, ?_⟩
      cases ec : c rA with
      | exc _ _ _ => rw [ec] at es; cases es
      | bad => rw [ec] at es; cases es
      | ok t rB =>
      rw [ec] at es
      simp only at es
      intro _ H5 S5 E5 _
      have kD : ∀ {L : Plc} {Ha : Hp} {rb : Evn} {σb : L2.St} {Hb Hc : Hp} {rc' : Evn} {σc : L2.St}, Sim K hid' pa rb σb Hb → Ext (Lv rb σb) Hb (Lv rc' σc) Hc → Hb D = some (.lst acc) → Hc D = some (.lst acc) := fun {L Ha rb σb Hb Hc rc' σc} Sb Eb q =>
        Eb.keep D _ q fun z => by
          obtain ⟨_, _, w⟩ := Sb.lv_some z
          exact w (.inr rfl)
      have d3 : H3 D = some (.lst acc) := by
        rcases g3 with rfl | ⟨p, o', n, rfl⟩
        · exact hD
        · rw [upd_ne (ne_of_none hD n)]; exact hD
      have d4 : H4 D = some (.lst acc) := kD (L := hid) (Ha := H3) S3 E4 d3
      have d5 : H5 D = some (.lst acc) := kD (L := hid) (Ha := H3) S4 E5 d4
      have x5 : Ext (Lv r1 σ) H1 (Lv rB σ2) H5 := ((eX.trans g3.ext).trans E4).trans E5
      have up5 : Sub (fz (P rc) H2) (fz (fun x => hid' x ∨ Lv rB σ2 x) H5) := fun a u q => E5.sub a u (E4.sub a u (g3.sub a u q))
      cases t with
      | false =>
        simp only [Bool.false_eq_true, if_false, ret, Res.ok.injEq] at es
        obtain ⟨rfl, rfl⟩ := es
        simp only [Bool.false_eq_true, if_false]
        have s6 : Sub (fz (fun x => hid' x ∨ Lv rB σ2 x) H5) (fz (P rB) H5) := sub_lv fun a h => by
          have h' : Lv (wipeE rB own) (L2.wipe σ2 own) a := by rw [hw]; exact h
          exact lv_wipe h'
        refine ⟨hlt, rB, acc, ysA, ysT, ?_, er, by rw [hys, ← hyR], d5, Nat.le_succ_of_le hacc, DpAll_mono (fun a u q => s6 a u (up5 a u q)) dA, jd.up _ _ (fun a u q => s6 a u (up5 a u q)) sS, x5.less fun a h => ?_⟩
        · have := S5.wipe own
          rw [hw] at this
          exact this
        · have h' : Lv (wipeE rB own) (L2.wipe σ2 own) a := by rw [hw]; exact h
          exact lv_wipe h'
      | true =>
        simp only [if_true] at es ⊢
        refine ⟨hid', pa, rB, S5, ?_⟩
        cases ee : e rB with
        | exc _ _ _ => rw [ee] at es; cases es
        | bad => rw [ee] at es; cases es
        | ok y rC =>
        rw [ee] at es
        simp only [ret, Res.ok.injEq] at es
        obtain ⟨rfl, rfl⟩ := es
        intro yv H6 S6 E6 D6
        have d6 : H6 D = some (.lst acc) := kD (L := hid) (Ha := H3) S5 E6 d5
        refine ⟨acc, d6, by omega, hlt, rC, acc ++ [yv], ysA ++ [y], ysT, ?_, er, by rw [hys, ← hyR]; simp, upd_same, by rw [List.length_append]; exact Nat.succ_le_succ hacc, ?_, ?_, ?_⟩
        · have S7 := S6.wipe own
          rw [hw] at S7
          refine S7.heap (fun a o na q => by rw [upd_ne fun z => na (.inr z)]; exact q) fun a q => ?_
          by_cases z : a = D
          · rw [z, upd_same]; exact fun z => nomatch z
          · rw [upd_ne z]; exact S7.hd a q
        all_goals
          have s7 : Sub (fz (fun x => hid' x ∨ Lv rC σ2 x) H6) (fz (P rC) (upd H6 D (.lst (acc ++ [yv])))) := fun a u q => by
            obtain ⟨q1, q2⟩ := fz_some.mp q
            refine fz_some.mpr ⟨fun w => q1 (w.imp id fun h => ?_), by rw [upd_ne fun z => q1 (.inl (.inr z))]; exact q2⟩
            have h' : Lv (wipeE rC own) (L2.wipe σ2 own) a := by rw [hw]; exact h
            exact lv_wipe h'
        · exact DpAll_app (DpAll_mono (fun a u q => s7 a u (E6.sub a u (up5 a u q))) dA) (.cons (Dp_mono s7 D6) .nil)
        · exact jd.up _ _ (fun a u q => s7 a u (E6.sub a u (up5 a u q))) sS
        · refine (x5.trans E6).atD nD fun a h => ?_
          have h' : Lv (wipeE rC own) (L2.wipe σ2 own) a := by rw [hw]; exact h
          exact lv_wipe h'
    · have hi' : i = xs.length := by omega
      subst hi'
      rw [List.drop_length] at hmR
      simp only [mapL, ret, Res.ok.injEq] at hmR
      obtain ⟨rfl, rfl⟩ := hmR
      rw [List.append_nil] at hys
      subst hys
      refine .inl ⟨jd.stop H2 sSH, fin D H2 acc nD hD (Sim.back S1 no Sc fun a u q => ?_) (eX.less fun a h => lv_back no h) (DpAll_mono (sub_lv fun a h => lv_back no h) dA)⟩
      obtain ⟨q1, q2⟩ := fz_some.mp q
      have ne : a ≠ D := ne_of_none q2 nD
      refine fz_some.mpr ⟨fun w => ?_, eX.keep a u q2 fun z => q1 (.inr z)⟩
      rcases w with w | w
      · exact q1 (.inl (w.resolve_right ne))
      · rcases eX.liv a w with z | z
        · exact q1 (.inr z)
        · rw [q2] at z; cases z
end DL
end
section
set_option maxHeartbeats 200000
set_option maxRecDepth 100000
/-! DI: calls of defs. -/
namespace DL
open PySem L2

/-- the values in the parameters' order -/
def arr {α : Type} (kw : List Nat) (l : List α) : List α := if kw = [] then l else kw.filterMap fun i => l[i]?
theorem vals_pick {vs : List V} {us : List Value} (h : Vals vs us) : ∀ kw : List Nat, Vals (kw.filterMap fun i => vs[i]?) (kw.filterMap fun i => us[i]?)
  | [] => .nil
  | i :: kw => by
    have ih := vals_pick h kw
    cases e : vs[i]? with
    | none =>
      have e2 := Vals.none_of h e
      simp only [List.filterMap_cons, e, e2]
      exact ih
    | some v =>
      obtain ⟨u, e2, r⟩ := h.get e
      simp only [List.filterMap_cons, e, e2]
      exact .cons r ih
theorem vals_arr {vs : List V} {us : List Value} (h : Vals vs us) (kw : List Nat) : Vals (arr kw vs) (arr kw us) := by
  unfold arr
  by_cases e : kw = []
  · rw [if_pos e, if_pos e]; exact h
  · rw [if_neg e, if_neg e]; exact vals_pick h kw
structure Tab where
  fns : List Str
  shapes : List (Nat × Nat × List Str × List Nat)
  cons : List (Str × Cn)
  np : List Nat
/-- what is known of the def number f -/
structure FnFact (X : Cx) (XR : XRel) (G : Fns) (T : Tab) (f : Nat) (x : Str) (a : Addr) (fd : FuncData) (ps : List Str) (k : Nat) : Prop where
  mg : X.mg x = some (.ref a)
  kp : PySem.W.keepIn X.K (.ref a) = true
  room : Room k X.A
  run : FnG X.prog X.w X.K X.mg X.base (L2.CX X.prog X.w) k a fd ps (spD X.K XR (G f))
  bind : ∀ (s : Shared) (us : List Value), X.K.In s.heap → us.length = ps.length → BindsTo s fd ⟨us, []⟩ (ps.zip us)
  bindK : ∀ (n : Nat) (ks : List Str) (kw : List Nat), (f, n, ks, kw) ∈ T.shapes → ∀ (s : Shared) (us ws : List Value), X.K.In s.heap → us.length = n → ws.length = ks.length → BindsTo s fd ⟨us, ks.zip ws⟩ (ps.zip (arr kw (us ++ ws)))
section
variable {X : Cx} {XR : XRel} {G : Fns} {T : Tab} {f : Nat} {x : Str} {a : Addr} {fd : FuncData} {ps : List Str} {k : Nat} {W : WX} {sp : Sp}
/-- the def at a is run on values -/
theorem run_G {pins : List (Addr × Obj)} {σ : L2.St} {H : Hp} {s : Shared} {Q : VK} {us : List Value} {vs : List V} {pos : List Value} {kws : List (Str × Value)} (F : FnG X.prog X.w X.K X.mg X.base (L2.CX X.prog X.w) k a fd ps sp) (hr : Room k X.A) (hg : X.A.guards = some [])
    (tk : Takes X W) (b : BindsTo s fd ⟨pos, kws⟩ (ps.zip us)) (I : Inv X pins σ H s) (r : Vals vs us) (hl : vs.length = ps.length) (h : sp vs H Q (fun C d H' => W C d σ H')) :
    wpAny (model X.prog X.w) X.A (call (.ref a) pos kws) (EP X pins σ Q) X.xe s := by
  refine wpAny_call (codeAny_mono (F X.A X.stack s H _ us vs Q _ hr hg I.env0 b r hl h) fun z s' hz => ?_)
  match z, hz with
  | .error e, hz => exact passAt tk σ pins H s e s' I hz
  | .ok (.ret u), hz => exact I.after hz
theorem star_plain {es : List Expr} {env : PySem.Env} {pos : Pos} (h : ∀ e ∈ es, ∀ rest, starEach (e :: rest) env = (false, eval e env) :: starEach rest env) : (backTo pos (starEach es env)).any (·.1) = false := by
  induction es with
  | nil => rfl
  | cons e es ih =>
    rw [h e List.mem_cons_self]
    have := ih fun e' h' => h e' (List.mem_cons_of_mem _ h')
    unfold backTo at this ⊢
    simpa using this
def tG (sp : Sp) (n : Nat) (g : List V → List V) (W : WX) (t : TA) : TE := fun σ H Q => t σ H fun vs H1 => (g vs).length = n ∧ sp (g vs) H1 Q (fun C d H' => W C d σ H')
/-- f(e, ..) -/
theorem pe_G {p pos : Pos} {es : List Expr} {t : TA} (F : FnFact X XR G T f x a fd ps k) (hg : X.A.guards = some []) (tk : Takes X W) (gl : Gl X x) (hdb : (x == ("__debug__" : Str)) = false) (hs : ∀ e ∈ es, ∀ rest, starEach (e :: rest) X.env = (false, eval e X.env) :: starEach rest X.env)
    (ha : PA X es t) (h0 : es = [] → ∀ σ H Q, t σ H Q → Q [] H) : PE X (.Call (.Name x p) es [] pos) (tG (spD X.K XR (G f)) ps.length id W t) := by
  refine ⟨fun pins s σ H Q I h => wpAny_Call_Name_kw (ld_glob I gl F.mg ?_ hdb)⟩
  cases es with
  | nil =>
    obtain ⟨hl, hsp⟩ := h0 rfl σ H _ h
    exact PySem.W.callWith_K0 I.kIn F.kp (run_G F.run F.room hg tk (F.bind s [] I.kIn hl) I .nil hl hsp)
  | cons e rest =>
    refine PySem.W.callWith_K (h₀ := X.base) I.ok.mod.kin F.kp (thn (ha.run pos pins s σ H _ I h) fun us s1 hq => ?_) (hs e List.mem_cons_self rest) (star_plain fun e' h' => hs e' (List.mem_cons_of_mem _ h'))
    obtain ⟨vs, H1, I1, r1, hl, hsp⟩ := hq
    exact ⟨I1.kIn, run_G F.run F.room hg tk (F.bind s1 us I1.kIn (by rw [← r1.length]; exact hl)) I1 r1 hl hsp⟩
theorem kw_all (pos : Pos) (env : PySem.Env) : ∀ (kws : List Keyword), kws.all (·.arg.isSome) = true → (backToKw pos (keywordEach kws env)).all (·.1.isSome) = true ∧ (backToKw pos (keywordEach kws env)).any (·.1.isNone) = false ∧
    (backToKw pos (keywordEach kws env)).filterMap (·.1) = kws.filterMap (·.arg)
  | [], _ => ⟨rfl, rfl, rfl⟩
  | ⟨nm, e, p⟩ :: r, h => by
    have h' : (nm.isSome && r.all (·.arg.isSome)) = true := h
    obtain ⟨h1, h2⟩ := Bool.and_eq_true_iff.mp h'
    obtain ⟨q1, q2, q3⟩ := kw_all pos env r h2
    cases nm with
    | none => cases h1
    | some n =>
      unfold backToKw at q1 q2 q3 ⊢
      simp only [keywordEach, List.map_cons, List.all_cons, List.any_cons, List.filterMap_cons]
      exact ⟨by simpa using q1, by simpa using q2, by rw [q3]⟩
theorem kw_len : ∀ {kws : List Keyword}, kws.all (·.arg.isSome) = true → (kws.filterMap (·.arg)).length = kws.length
  | [], _ => rfl
  | ⟨nm, e, p⟩ :: r, h => by
    have h' : (nm.isSome && r.all (·.arg.isSome)) = true := h
    obtain ⟨h1, h2⟩ := Bool.and_eq_true_iff.mp h'
    cases nm with
    | none => cases h1
    | some n => simp [kw_len h2]
/-- positional arguments, then keywords -/
def tAK (t : TA) (n : Nat) (tk : TA) : TA := fun σ H Q => t σ H fun vs H1 => vs.length = n ∧ tk σ H1 fun ws H2 => Q (vs ++ ws) H2
/-- f(e, .., k = v, ..) -/
theorem pe_GK {p pos : Pos} {es : List Expr} {kws : List Keyword} {kw : List Nat} {t u : TA} (F : FnFact X XR G T f x a fd ps k) (hg : X.A.guards = some []) (tk : Takes X W) (gl : Gl X x) (hdb : (x == ("__debug__" : Str)) = false)
    (hs : ∀ e ∈ es, ∀ rest, starEach (e :: rest) X.env = (false, eval e X.env) :: starEach rest X.env) (hk : kws.all (·.arg.isSome) = true) (hm : (f, es.length, kws.filterMap (·.arg), kw) ∈ T.shapes)
    (ha : PA X es t) (h0 : es = [] → ∀ σ H Q, t σ H Q → Q [] H) (hu : L2.PK X kws u) (hlk : ∀ σ H Q, u σ H Q → u σ H fun ws H1 => ws.length = kws.length ∧ Q ws H1) : PE X (.Call (.Name x p) es kws pos) (tG (spD X.K XR (G f)) ps.length (arr kw) W (tAK t es.length u)) := by
  refine ⟨fun pins s σ H Q I h => wpAny_Call_Name_kw (ld_glob I gl F.mg ?_ hdb)⟩
  obtain ⟨k1, k2, k3⟩ := kw_all pos X.env kws hk
  have fin : ∀ (s2 : Shared) (H2 : Hp) (us ws : List Value) (vs zs : List V), Inv X pins σ H2 s2 → Vals vs us → Vals zs ws → vs.length = es.length → zs.length = kws.length →
      ((arr kw (vs ++ zs)).length = ps.length ∧ spD X.K XR (G f) (arr kw (vs ++ zs)) H2 Q (fun C d H' => W C d σ H')) → wpAny (model X.prog X.w) X.A (call (.ref a) us ((kws.filterMap (·.arg)).zip ws)) (EP X pins σ Q) X.xe s2 := by
    intro s2 H2 us ws vs zs I2 r1 r2 l1 l2 hq
    exact run_G F.run F.room hg tk (F.bindK _ _ _ hm s2 us ws I2.kIn (by rw [← r1.length, l1]) (by rw [← r2.length, l2, kw_len hk])) I2 (vals_arr (r1.append r2) kw) hq.1 hq.2
  cases es with
  | nil =>
    obtain ⟨hl, hsp⟩ := h0 rfl σ H _ h
    refine PySem.W.callWith_KW0 (h₀ := X.base) I.ok.mod.kin F.kp k1 (thn (hu.run pos pins s σ H _ I (hlk _ _ _ hsp)) fun ws s2 hq => ?_) (by rw [k2]; rfl)
    obtain ⟨zs, H2, I2, r2, l2, hq⟩ := hq
    refine ⟨I2.kIn, ?_⟩
    rw [k3]
    exact fin s2 H2 [] ws [] zs I2 .nil r2 rfl l2 hq
  | cons e rest =>
    have pl := star_plain (pos := pos) hs
    refine PySem.W.callWith_KW (h₀ := X.base) I.ok.mod.kin F.kp k1 (thn (ha.run pos pins s σ H _ I h) fun us s1 hq => ?_) (by rw [pl, k2]; rfl) (hs e List.mem_cons_self rest)
    obtain ⟨vs, H1, I1, r1, hl, hsp⟩ := hq
    refine thn (hu.run pos pins s1 σ H1 _ I1 (hlk _ _ _ hsp)) fun ws s2 hq => ?_
    obtain ⟨zs, H2, I2, r2, l2, hq⟩ := hq
    refine ⟨I2.kIn, ?_⟩
    rw [k3]
    exact fin s2 H2 us ws vs zs I2 r1 r2 hl l2 hq
end
end DL
end
section
set_option maxHeartbeats 200000
set_option maxRecDepth 100000
/-! DJ: what a call means. -/
namespace DL
open PySem L2
section
variable {K : PySem.W.Frag} {XR : XRel} {W : WX}
/-- a new list's reading -/
def wpF (K : PySem.W.Frag) (XR : XRel) (W : WX) (hid : Plc) (pa : Addr) (σ : L2.St) (L : Plc) (H : Hp) (m : Res (List PyData)) (Q : Addr → Evn → Hp → Prop) : Prop :=
  match m with
  | .ok ds r => ∀ p ws H', H p = none → H' p = some (.lst ws) → Sim K (fun x => hid x ∨ x = p) pa r σ H' → Ext L H (Lv r σ) H' → DqAll K (fz (fun x => (hid x ∨ x = p) ∨ Lv r σ x) H') ws ds → Q p r H'
  | .exc c fs r => ∀ C d H', Sim K hid pa r σ H' → Ext L H (Lv r σ) H' → XR c fs (fz (fun x => hid x ∨ Lv r σ x) H') C d H' → W C d σ H'
  | .bad => False
def tF (K : PySem.W.Frag) (XR : XRel) (W : WX) (m : D (List PyData)) : TE := fun σ H Q => ∃ hid pa r, Sim K hid pa r σ H ∧ wpF K XR W hid pa σ (Lv r σ) H (m r) fun p _ H' => Q (.ref p) H'
/-- arguments, one behind another -/
def tAr (K : PySem.W.Frag) (XR : XRel) (W : WX) (G : Fns) : List Ar → TA
  | [] => tNil
  | .val e :: l => tCons (tD K XR W (den G e)) (tAr K XR W G l)
  | .ref i :: l => tCons (tVar i) (tAr K XR W G l)
  | .fre e :: l => tCons (tF K XR W (denF G e)) (tAr K XR W G l)
theorem tD_imp {m : D PyData} {σ : L2.St} {H : Hp} {Q Q' : VK} (h : tD K XR W m σ H Q) (q : ∀ v H', Q v H' → Q' v H') : tD K XR W m σ H Q' := by
  obtain ⟨hid, pa, r, S, w⟩ := h
  exact ⟨hid, pa, r, S, wp_mono w fun v a r H' _ _ _ h => q v H' h⟩
theorem tF_imp {m : D (List PyData)} {σ : L2.St} {H : Hp} {Q Q' : VK} (h : tF K XR W m σ H Q) (q : ∀ v H', Q v H' → Q' v H') : tF K XR W m σ H Q' := by
  obtain ⟨hid, pa, r, S, w⟩ := h
  refine ⟨hid, pa, r, S, ?_⟩
  unfold wpF at w ⊢
  cases e : m r with
  | ok ds r1 => rw [e] at w; exact fun p ws H' a b c d e => q _ _ (w p ws H' a b c d e)
  | exc c fs r1 => rw [e] at w; exact w
  | bad => rw [e] at w; exact w
theorem tAr_imp {G : Fns} : ∀ {l : List Ar} {σ : L2.St} {H : Hp} {Q Q' : List V → Hp → Prop}, tAr K XR W G l σ H Q → (∀ vs H', vs.length = l.length → Q vs H' → Q' vs H') → tAr K XR W G l σ H Q'
  | [], σ, H, Q, Q', h, q => q [] H rfl h
  | .val e :: l, σ, H, Q, Q', h, q => tD_imp (show tD K XR W (den G e) σ H _ from h) fun v H1 h1 => tAr_imp (show tAr K XR W G l σ H1 _ from h1) fun vs H' hl h2 => q _ _ (by simp [hl]) h2
  | .ref i :: l, σ, H, Q, Q', h, q => let ⟨v, e, h1⟩ := (show ∃ v, σ[i]? = some (some v) ∧ _ from h); ⟨v, e, tAr_imp (show tAr K XR W G l σ H _ from h1) fun vs H' hl h2 => q _ _ (by simp [hl]) h2⟩
  | .fre e :: l, σ, H, Q, Q', h, q => tF_imp (Q := fun v H1 => tAr K XR W G l σ H1 fun vs H2 => Q (v :: vs) H2) h fun v H1 h1 => tAr_imp h1 fun vs H' hl h2 => q _ _ (by simp [hl]) h2
theorem tAr_app {G : Fns} : ∀ {l1 l2 : List Ar} {σ : L2.St} {H : Hp} {Q : List V → Hp → Prop}, tAr K XR W G (l1 ++ l2) σ H Q → tAr K XR W G l1 σ H fun vs H1 => vs.length = l1.length ∧ tAr K XR W G l2 σ H1 fun ws H2 => Q (vs ++ ws) H2
  | [], l2, σ, H, Q, h => ⟨rfl, h⟩
  | .val e :: l, l2, σ, H, Q, h => tD_imp (show tD K XR W (den G e) σ H _ from h) fun v H1 h1 => tAr_imp (tAr_app (l1 := l) (show tAr K XR W G (l ++ l2) σ H1 _ from h1)) fun vs H' hl h2 => ⟨by simp [hl], h2.2⟩
  | .ref i :: l, l2, σ, H, Q, h => let ⟨v, e, h1⟩ := (show ∃ v, σ[i]? = some (some v) ∧ _ from h); ⟨v, e, tAr_imp (tAr_app (l1 := l) (show tAr K XR W G (l ++ l2) σ H _ from h1)) fun vs H' hl h2 => ⟨by simp [hl], h2.2⟩⟩
  | .fre e :: l, l2, σ, H, Q, h => by
    show tF K XR W (denF G e) σ H fun v H1 => tAr K XR W G l σ H1 fun vs H2 => (v :: vs).length = l.length + 1 ∧ tAr K XR W G l2 σ H2 fun ws H3 => Q (v :: vs ++ ws) H3
    exact tF_imp (Q := fun v H1 => tAr K XR W G (l ++ l2) σ H1 fun vs H2 => Q (v :: vs) H2) h fun v H1 h1 => tAr_imp (tAr_app h1) fun vs H' hl h2 => ⟨by simp [hl], h2.2⟩

/-! ### the arguments' data -/
def FrA : List Aw → List V → Plc
  | .fr _ :: l, v :: vs => fun x => v = .ref x ∨ FrA l vs x
  | _ :: l, _ :: vs => FrA l vs
  | _, _ => fun _ => False
/-- new lists are apart -/
def FrD : List Aw → List V → Prop
  | .fr _ :: l, v :: vs => (∀ p, v = .ref p → ¬ FrA l vs p) ∧ FrD l vs
  | _ :: l, _ :: vs => FrD l vs
  | _, _ => True
/-- arguments as they are known: F the heap that is seen, r and σ the caller's -/
inductive AwR (K : PySem.W.Frag) (F : Hp) (Z : Plc) (r : Evn) (σ : L2.St) (H : Hp) : List V → List Aw → Prop
  | nil : AwR K F Z r σ H [] []
  | pu {v : V} {d : PyData} {vs : List V} {l : List Aw} : Dq K F v d → AwR K F Z r σ H vs l → AwR K F Z r σ H (v :: vs) (.pu d :: l)
  | rf {v : V} {i : Nat} {vs : List V} {l : List Aw} : σ[i]? = some (some v) → AwR K F Z r σ H vs l → AwR K F Z r σ H (v :: vs) (.rf i :: l)
  | fr {p : Addr} {ws : List V} {ds : List PyData} {vs : List V} {l : List Aw} : Z p → H p = some (.lst ws) → DqAll K F ws ds → AwR K F Z r σ H vs l → AwR K F Z r σ H (.ref p :: vs) (.fr ds :: l)
theorem AwR.mono {F F' H : Hp} {Z Z' : Plc} {r : Evn} {σ : L2.St} (m : Sub F F') (z : ∀ x, Z x → Z' x) : ∀ {vs : List V} {l : List Aw}, AwR K F Z r σ H vs l → AwR K F' Z' r σ H vs l
  | _, _, .nil => .nil
  | _, _, .pu a t => .pu (Dp_mono m a) (AwR.mono m z t)
  | _, _, .rf a t => .rf a (AwR.mono m z t)
  | _, _, .fr a b c t => .fr (z _ a) b (DpAll_mono m c) (AwR.mono m z t)
def wpA (K : PySem.W.Frag) (XR : XRel) (W : WX) (hid : Plc) (pa : Addr) (σ : L2.St) (L : Plc) (H : Hp) (m : Res (List Aw)) (Q : List V → List Aw → Evn → Hp → Prop) : Prop :=
  match m with
  | .ok l r => ∀ vs H', Sim K (fun x => hid x ∨ FrA l vs x) pa r σ H' → Ext L H (Lv r σ) H' → (∀ x, FrA l vs x → H x = none) → FrD l vs → AwR K (fz (fun x => (hid x ∨ FrA l vs x) ∨ Lv r σ x) H') (FrA l vs) r σ H' vs l → Q vs l r H'
  | .exc c fs r => ∀ C d H', Sim K hid pa r σ H' → Ext L H (Lv r σ) H' → XR c fs (fz (fun x => hid x ∨ Lv r σ x) H') C d H' → W C d σ H'
  | .bad => False
theorem wpF_later {hid : Plc} {pa : Addr} {σ : L2.St} {L L1 : Plc} {H H1 : Hp} {m : Res (List PyData)} {Q : Addr → Evn → Hp → Prop} (h : wpF K XR W hid pa σ L H m Q) (e : Ext L H L1 H1) : wpF K XR W hid pa σ L1 H1 m Q := by
  cases m with
  | ok ds r =>
    intro p ws H' n a b c d
    refine h p ws H' ?_ a b (e.trans c) d
    cases q : H p with
    | none => rfl
    | some o => exact absurd n (e.dom p (by rw [q]; exact fun z => nomatch z))
  | exc c fs r => exact fun C d H' S E D => h C d H' S (e.trans E) D
  | bad => exact h
theorem back_none {L L1 : Plc} {H H1 : Hp} (e : Ext L H L1 H1) {p : Addr} (n : H1 p = none) : H p = none := by
  cases q : H p with
  | none => rfl
  | some o => exact absurd n (e.dom p (by rw [q]; exact fun z => nomatch z))
theorem wpA_later {hid : Plc} {pa : Addr} {σ : L2.St} {L L1 : Plc} {H H1 : Hp} {m : Res (List Aw)} {Q : List V → List Aw → Evn → Hp → Prop} (h : wpA K XR W hid pa σ L H m Q) (e : Ext L H L1 H1) : wpA K XR W hid pa σ L1 H1 m Q := by
  cases m with
  | ok ds r => exact fun vs H' a b c d f => h vs H' a (e.trans b) (fun x q => back_none e (c x q)) d f
  | exc c fs r => exact fun C d H' S E D => h C d H' S (e.trans E) D
  | bad => exact h
theorem sub_plc' {P P' : Plc} {H2 : Hp} (h : ∀ x, P' x → P x) : Sub (fz P H2) (fz P' H2) := fun a o e => by
  obtain ⟨n, e⟩ := fz_some.mp e
  exact fz_some.mpr ⟨fun z => n (h a z), e⟩
/-- what the arguments' meaning wants is what their reading asks -/
theorem denA_tAr {G : Fns} (hX : ∀ c fs F F' C d H, Sub F F' → XR c fs F C d H → XR c fs F' C d H) : ∀ {l : List Ar} {hid : Plc} {pa : Addr} {σ : L2.St} {H : Hp} {r : Evn} {Q : List V → List Aw → Evn → Hp → Prop} {Q' : List V → Hp → Prop}, Sim K hid pa r σ H → wpA K XR W hid pa σ (Lv r σ) H (denA G l r) Q →
    (∀ vs l' r' H', Sim K (fun x => hid x ∨ FrA l' vs x) pa r' σ H' → Ext (Lv r σ) H (Lv r' σ) H' → (∀ x, FrA l' vs x → H x = none) → FrD l' vs → AwR K (fz (fun x => (hid x ∨ FrA l' vs x) ∨ Lv r' σ x) H') (FrA l' vs) r' σ H' vs l' → Q vs l' r' H' → Q' vs H') → tAr K XR W G l σ H Q'
  | [], hid, pa, σ, H, r, Q, Q', S, w, q => by
    have S' : Sim K (fun x => hid x ∨ FrA [] ([] : List V) x) pa r σ H := by
      refine ⟨S.len, fun i d e => ?_, fun i t ds e => ?_, fun a h => S.hd a (h.resolve_right id), S.inj⟩
      · obtain ⟨v, h1, h2⟩ := S.pu i d e
        exact ⟨v, h1, Dp_mono (fun a o z => by obtain ⟨z1, z2⟩ := fz_some.mp z; exact fz_some.mpr ⟨fun w => z1 (w.imp (fun w => w.resolve_right id) id), z2⟩) h2⟩
      · obtain ⟨a, vs, h1, h2, h3, h4, h5⟩ := S.ow i t ds e
        exact ⟨a, vs, h1, h2, fun z => h3 (z.resolve_right id), DpAll_mono (fun a o z => by obtain ⟨z1, z2⟩ := fz_some.mp z; exact fz_some.mpr ⟨fun w => z1 (w.imp (fun w => w.resolve_right id) id), z2⟩) h4, h5⟩
    exact q [] [] r H S' .refl (fun x z => z.elim) trivial .nil (w [] H S' .refl (fun x z => z.elim) trivial .nil)
  | .val e :: l, hid, pa, σ, H, r, Q, Q', S, w, q => by
    refine ⟨hid, pa, r, S, ?_⟩
    have w : wpA K XR W hid pa σ (Lv r σ) H (bnd (den G e) (fun x => bnd (denA G l) fun ys => ret (.pu x :: ys)) r) Q := w
    unfold bnd at w
    cases ed : den G e r with
    | bad => rw [ed] at w; exact w.elim
    | exc c fs r1 => rw [ed] at w; exact w
    | ok d r1 =>
      rw [ed] at w
      intro v H1 S1 E1 D1
      have w := wpA_later w E1
      simp only at w
      refine denA_tAr hX (Q := fun vs l' r' H' => Q (v :: vs) (.pu d :: l') r' H') S1 ?_ fun vs l' r' H' S2 E2 n2 f2 A2 hq => q (v :: vs) (.pu d :: l') r' H' S2 (E1.trans E2) (fun x z => back_none E1 (n2 x z)) f2 ?_ hq
      · cases ea : denA G l r1 with
        | bad => rw [ea] at w; exact w.elim
        | exc c fs r2 => rw [ea] at w; exact w
        | ok l' r2 =>
          rw [ea] at w
          intro vs H2 S2 E2 n2 f2 A2
          refine w (v :: vs) H2 S2 E2 n2 f2 (.pu (Dp_mono (fun a o z => ?_) D1) A2)
          obtain ⟨z1, z2⟩ := fz_some.mp z
          obtain ⟨y1, y2⟩ := fz_some.mp (E2.sub (hid := hid) a o z)
          refine fz_some.mpr ⟨fun w => ?_, y2⟩
          rcases w with (w | w) | w
          · exact y1 (.inl w)
          · rw [n2 a w] at z2; cases z2
          · exact y1 (.inr w)
      · refine .pu (Dp_mono (fun a o z => ?_) D1) A2
        obtain ⟨z1, z2⟩ := fz_some.mp z
        obtain ⟨y1, y2⟩ := fz_some.mp (E2.sub (hid := hid) a o z)
        refine fz_some.mpr ⟨fun w => ?_, y2⟩
        rcases w with (w | w) | w
        · exact y1 (.inl w)
        · rw [n2 a w] at z2; cases z2
        · exact y1 (.inr w)
  | .ref i :: l, hid, pa, σ, H, r, Q, Q', S, w, q => by
    have w : wpA K XR W hid pa σ (Lv r σ) H (match getS r i with | .ow _ _ => (bnd (denA G l) fun ys => ret (.rf i :: ys)) r | _ => .bad) Q := w
    cases es : getS r i with
    | un => rw [es] at w; exact w.elim
    | pu d => rw [es] at w; exact w.elim
    | ow t ds =>
      rw [es] at w
      obtain ⟨a, _, e1, _⟩ := S.ow i t ds (getS_some es (fun z => nomatch z))
      refine ⟨.ref a, e1, ?_⟩
      have w : wpA K XR W hid pa σ (Lv r σ) H (bnd (denA G l) (fun ys => ret (.rf i :: ys)) r) Q := w
      unfold bnd at w
      refine denA_tAr hX (Q := fun vs l' r' H' => Q (.ref a :: vs) (.rf i :: l') r' H') S ?_ fun vs l' r' H' S2 E2 n2 f2 A2 hq => q (.ref a :: vs) (.rf i :: l') r' H' S2 E2 n2 f2 (.rf e1 A2) hq
      cases ea : denA G l r with
      | bad => rw [ea] at w; exact w.elim
      | exc c fs r2 => rw [ea] at w; exact w
      | ok l' r2 =>
        rw [ea] at w
        exact fun vs H2 S2 E2 n2 f2 A2 => w (.ref a :: vs) H2 S2 E2 n2 f2 (.rf e1 A2)
  | .fre e :: l, hid, pa, σ, H, r, Q, Q', S, w, q => by
    show tF K XR W (denF G e) σ H fun v H1 => tAr K XR W G l σ H1 fun vs H2 => Q' (v :: vs) H2
    refine ⟨hid, pa, r, S, ?_⟩
    have w : wpA K XR W hid pa σ (Lv r σ) H (bnd (denF G e) (fun x => bnd (denA G l) fun ys => ret (.fr x :: ys)) r) Q := w
    unfold bnd at w
    cases ed : denF G e r with
    | bad => rw [ed] at w; exact w.elim
    | exc c fs r1 => rw [ed] at w; exact w
    | ok ds r1 =>
      rw [ed] at w
      intro p ws H1 np hp S1 E1 D1
      simp only at w
      have eqp : ∀ (l' : List Aw) (vs : List V) (x : Addr), ((hid x ∨ x = p) ∨ FrA l' vs x) → (hid x ∨ FrA (.fr ds :: l') (.ref p :: vs) x) := fun l' vs x h => h.elim (fun h => h.imp id fun h => .inl (by rw [h])) fun h => .inr (.inr h)
      have eqp' : ∀ (l' : List Aw) (vs : List V) (x : Addr), (hid x ∨ FrA (.fr ds :: l') (.ref p :: vs) x) → ((hid x ∨ x = p) ∨ FrA l' vs x) := fun l' vs x h => h.elim (fun h => .inl (.inl h)) fun h => h.elim (fun h => .inl (.inr (V.ref.inj h).symm)) .inr
      have step : ∀ (vs : List V) (l' : List Aw) (r2 : Evn) (H2 : Hp), Sim K (fun x => (hid x ∨ x = p) ∨ FrA l' vs x) pa r2 σ H2 → Ext (Lv r1 σ) H1 (Lv r2 σ) H2 → (∀ x, FrA l' vs x → H1 x = none) → FrD l' vs →
          AwR K (fz (fun x => ((hid x ∨ x = p) ∨ FrA l' vs x) ∨ Lv r2 σ x) H2) (FrA l' vs) r2 σ H2 vs l' →
          Sim K (fun x => hid x ∨ FrA (.fr ds :: l') (.ref p :: vs) x) pa r2 σ H2 ∧ Ext (Lv r σ) H (Lv r2 σ) H2 ∧ (∀ x, FrA (.fr ds :: l') (.ref p :: vs) x → H x = none) ∧ FrD (.fr ds :: l') (.ref p :: vs) ∧
          AwR K (fz (fun x => (hid x ∨ FrA (.fr ds :: l') (.ref p :: vs) x) ∨ Lv r2 σ x) H2) (FrA (.fr ds :: l') (.ref p :: vs)) r2 σ H2 (.ref p :: vs) (.fr ds :: l') := by
        intro vs l' r2 H2 S2 E2 n2 f2 A2
        have hp2 : H2 p = some (.lst ws) := E2.keep p _ hp fun z => by
          obtain ⟨_, _, z⟩ := S1.lv_some z
          exact z (.inr rfl)
        refine ⟨S2.less (eqp' l' vs), E1.trans E2, fun x z => ?_, ⟨fun x ex z => ?_, f2⟩, .fr (.inl rfl) hp2 (DpAll_mono (fun a o z => ?_) D1) (A2.mono (sub_plc' fun x z => z.imp (eqp' l' vs x) id) fun x z => .inr z)⟩
        · rcases z with z | z
          · rw [← V.ref.inj z]; exact np
          · exact back_none E1 (n2 x z)
        · rw [← V.ref.inj ex] at z
          rw [n2 p z] at hp; cases hp
        · obtain ⟨z1, z2⟩ := fz_some.mp z
          obtain ⟨y1, y2⟩ := fz_some.mp (E2.sub (hid := fun x => hid x ∨ x = p) a o z)
          refine fz_some.mpr ⟨fun w => ?_, y2⟩
          rcases w with w | w
          · rcases eqp' l' vs a w with w | w
            · exact y1 (.inl w)
            · rw [n2 a w] at z2; cases z2
          · exact y1 (.inr w)
      refine denA_tAr hX (Q := fun vs l' r2 H2 => Q (.ref p :: vs) (.fr ds :: l') r2 H2) S1 ?_ fun vs l' r2 H2 S2 E2 n2 f2 A2 hq => ?_
      · cases ea : denA G l r1 with
        | bad => rw [ea] at w; exact w.elim
        | exc c fs r2 =>
          rw [ea] at w
          exact fun C d H' S2 E2 x => w C d H' (S2.less fun x z => .inl z) (E1.trans E2) (hX _ _ _ _ _ _ _ (sub_plc' fun x z => z.imp (fun z => .inl z) id) x)
        | ok l' r2 =>
          rw [ea] at w
          intro vs H2 S2 E2 n2 f2 A2
          obtain ⟨a1, a2, a3, a4, a5⟩ := step vs l' r2 H2 S2 E2 n2 f2 A2
          exact w (.ref p :: vs) H2 a1 a2 a3 a4 a5
      · obtain ⟨a1, a2, a3, a4, a5⟩ := step vs l' r2 H2 S2 E2 n2 f2 A2
        exact q (.ref p :: vs) (.fr ds :: l') r2 H2 a1 a2 a3 a4 a5 hq
end
end DL
end
section
set_option maxHeartbeats 200000
set_option maxRecDepth 100000
/-! DK: a call, from its arguments to its answer. -/
namespace DL
open PySem L2
section
variable {K : PySem.W.Frag} {XR : XRel} {W : WX}
theorem AwR_at {F : Hp} {Z : Plc} {r : Evn} {σ : L2.St} {H : Hp} : ∀ {vs : List V} {l : List Aw} {i : Nat} {x : Aw}, AwR K F Z r σ H vs l → l[i]? = some x → ∃ v, vs[i]? = some v ∧ ∀ {vs' l'}, AwR K F Z r σ H vs' l' → AwR K F Z r σ H (v :: vs') (x :: l')
  | _, _, _, _, .nil, e => by simp at e
  | _, _, 0, x, .pu a t, e => by simp at e; subst e; exact ⟨_, rfl, .pu a⟩
  | _, _, 0, x, .rf a t, e => by simp at e; subst e; exact ⟨_, rfl, .rf a⟩
  | _, _, 0, x, .fr z a b t, e => by simp at e; subst e; exact ⟨_, rfl, .fr z a b⟩
  | _, _, i + 1, x, .pu a t, e => by obtain ⟨v, h1, h2⟩ := AwR_at (i := i) t (by simpa using e); exact ⟨v, by simpa using h1, h2⟩
  | _, _, i + 1, x, .rf a t, e => by obtain ⟨v, h1, h2⟩ := AwR_at (i := i) t (by simpa using e); exact ⟨v, by simpa using h1, h2⟩
  | _, _, i + 1, x, .fr z a b t, e => by obtain ⟨v, h1, h2⟩ := AwR_at (i := i) t (by simpa using e); exact ⟨v, by simpa using h1, h2⟩
theorem AwR_pick {F : Hp} {Z : Plc} {r : Evn} {σ : L2.St} {H : Hp} {vs : List V} {l : List Aw} (A : AwR K F Z r σ H vs l) : ∀ {kw : List Nat} {l' : List Aw}, pickA l kw = some l' → AwR K F Z r σ H (kw.filterMap fun i => vs[i]?) l'
  | [], _, e => by cases e; exact .nil
  | i :: kw, l', e => by
    unfold pickA at e
    cases e1 : l[i]? with
    | none => rw [e1] at e; cases e
    | some x =>
      cases e2 : pickA l kw with
      | none => rw [e1, e2] at e; cases e
      | some t =>
        rw [e1, e2] at e
        cases e
        obtain ⟨v, h1, h2⟩ := AwR_at A e1
        simp only [List.filterMap_cons, h1]
        exact h2 (AwR_pick A e2)
theorem AwR_perm {F : Hp} {Z : Plc} {r : Evn} {σ : L2.St} {H : Hp} {vs : List V} {l l' : List Aw} {kw : List Nat} (A : AwR K F Z r σ H vs l) (e : perm kw l = some l') : AwR K F Z r σ H (arr kw vs) l' := by
  unfold perm at e
  unfold arr
  by_cases h : kw = []
  · rw [if_pos h] at e ⊢; cases e; exact A
  · rw [if_neg h] at e ⊢; exact AwR_pick A e
/-- no owned argument -/
theorem av_none {P Z hc : Plc} {pc : Addr} {r : Evn} {σ : L2.St} {H : Hp} : ∀ {vs : List V} {l : List Aw} {avs : List Av}, AwR K (fz P H) Z r σ H vs l → owns l = 0 → avOf r l = some avs →
    AvR K P hc pc H vs avs ∧ (∀ ds, Av.ow ds ∉ avs) ∧ ∀ out, backA r out l = r
  | _, _, avs, .nil, _, e => by cases e; exact ⟨.nil, fun ds h => by simp at h, fun out => rfl⟩
  | _, _, avs, .pu a t, h, e => by
    obtain ⟨z, e1, e2⟩ := opt_map (show (avOf r _).map _ = some avs from e)
    obtain ⟨q1, q2, q3⟩ := av_none (hc := hc) (pc := pc) t h e1
    subst e2
    refine ⟨.pu a q1, fun ds z => ?_, q3⟩
    rcases List.mem_cons.mp z with z | z
    · cases z
    · exact q2 ds z
  | _, _, avs, .rf a t, h, e => by simp [owns] at h
  | _, _, avs, .fr z a b t, h, e => by simp [owns] at h
/-- one owned argument -/
theorem av_one {Z hid : Plc} {pa : Addr} {r : Evn} {σ : L2.St} {H : Hp} (S : Sim K hid pa r σ H) :
    ∀ {vs : List V} {l : List Aw} {avs : List Av}, AwR K (fz (fun x => hid x ∨ Lv r σ x) H) Z r σ H vs l → owns l = 1 → avOf r l = some avs →
    ∃ (pc : Addr) (ds0 : List PyData), (∀ hc : Plc, ¬ hc pc → AvR K (fun x => hid x ∨ Lv r σ x) hc pc H vs avs) ∧ (∀ ds, Av.ow ds ∈ avs → ds = ds0) ∧ Av.ow ds0 ∈ avs ∧
      ((∃ (i : Nat) (t : Bool), r[i]? = some (.ow t ds0) ∧ σ[i]? = some (some (.ref pc)) ∧ ∀ out, backA r out l = r.set i (.ow t out)) ∨ (Z pc ∧ ∀ out, backA r out l = r))
  | _, _, avs, .nil, h, e => by simp [owns] at h
  | _, _, avs, .pu a t, h, e => by
    obtain ⟨z, e1, e2⟩ := opt_map (show (avOf r _).map _ = some avs from e)
    obtain ⟨pc, ds0, q1, q2, q3, q4⟩ := av_one S t h e1
    subst e2
    refine ⟨pc, ds0, fun hc n => .pu a (q1 hc n), fun ds z => ?_, List.mem_cons_of_mem _ q3, q4⟩
    rcases List.mem_cons.mp z with z | z
    · cases z
    · exact q2 ds z
  | _, _, avs, .rf (v := v) (i := i) (l := tl) a t, h, e => by
    have h0 : owns tl = 0 := by simpa [owns] using h
    have e : (match getS r i with | .ow _ ds => (avOf r tl).map (.ow ds :: ·) | _ => none) = some avs := e
    cases es : getS r i with
    | un => rw [es] at e; cases e
    | pu d => rw [es] at e; cases e
    | ow tg ds =>
      rw [es] at e
      obtain ⟨z, e1, e2⟩ := opt_map e
      have er := getS_some es (fun z => nomatch z)
      obtain ⟨b, ws, b1, b2, b3, b4, b5⟩ := S.ow i tg ds er
      rw [a] at b1
      cases b1
      have hn : ∀ hc : Plc, AvR K (fun x => hid x ∨ Lv r σ x) hc b H _ z ∧ (∀ ds, Av.ow ds ∉ z) ∧ ∀ out, backA r out tl = r := fun hc => av_none t h0 e1
      subst e2
      refine ⟨b, ds, fun hc n => .ow b2 n b4 (hn hc).1, fun ds' z => ?_, List.mem_cons_self, .inl ⟨i, tg, er, a, fun out => ?_⟩⟩
      · rcases List.mem_cons.mp z with z | z
        · cases z; rfl
        · exact absurd z ((hn hid).2.1 ds')
      · show backA (match getS r i with | .ow t _ => r.set i (.ow t out) | _ => r) out tl = _
        rw [es]
        exact back0 h0
  | _, _, avs, .fr (p := p) (ds := ds) (l := tl) z a b t, h, e => by
    have h0 : owns tl = 0 := by simpa [owns] using h
    obtain ⟨y, e1, e2⟩ := opt_map (show (avOf r tl).map _ = some avs from e)
    have hn : ∀ hc : Plc, AvR K (fun x => hid x ∨ Lv r σ x) hc p H _ y ∧ (∀ ds, Av.ow ds ∉ y) ∧ ∀ out, backA r out tl = r := fun hc => av_none t h0 e1
    subst e2
    refine ⟨p, ds, fun hc n => .ow a n b (hn hc).1, fun ds' z => ?_, List.mem_cons_self, .inr ⟨z, fun out => (hn hid).2.2 out⟩⟩
    rcases List.mem_cons.mp z with z | z
    · cases z; rfl
    · exact absurd z ((hn hid).2.1 ds')
where
  back0 {r : Evn} {out : List PyData} : ∀ {l : List Aw}, owns l = 0 → backA r out l = r
  | [], _ => rfl
  | .pu _ :: l, h => back0 (l := l) h
  | .rf _ :: _, h => by simp [owns] at h
  | .fr _ :: _, h => by simp [owns] at h
end
end DL
end
section
set_option maxHeartbeats 200000
set_option maxRecDepth 100000
/-! DM: a call's core. -/
namespace DL
open PySem L2
section
variable {K : PySem.W.Frag} {XR : XRel} {hid hid2 : Plc} {pa : Addr} {r : Evn} {σ : L2.St} {H H2 : Hp}
theorem Sim.to (S : Sim K hid pa r σ H) (k : ∀ a o, ¬ hid a → H a = some o → ¬ hid2 a ∧ H2 a = some o) (hd : ∀ a, hid2 a → H2 a ≠ none) : Sim K hid2 pa r σ H2 := by
  have sb : Sub (fz (fun x => hid x ∨ Lv r σ x) H) (fz (fun x => hid2 x ∨ Lv r σ x) H2) := fun a o e => by
    obtain ⟨n, e⟩ := fz_some.mp e
    obtain ⟨k1, k2⟩ := k a o (fun z => n (.inl z)) e
    exact fz_some.mpr ⟨fun z => z.elim k1 fun z => n (.inr z), k2⟩
  refine ⟨S.len, fun i d e => ?_, fun i t ds e => ?_, hd, S.inj⟩
  · obtain ⟨v, h1, h2⟩ := S.pu i d e
    exact ⟨v, h1, Dp_mono sb h2⟩
  · obtain ⟨a, vs, h1, h2, h3, h4, h5⟩ := S.ow i t ds e
    obtain ⟨k1, k2⟩ := k a _ h3 h2
    exact ⟨a, vs, h1, k2, k1, DpAll_mono sb h4, h5⟩
theorem lv_set {i : Nat} {t : Bool} {ds ds' : List PyData} (e : r[i]? = some (.ow t ds)) {b : Addr} : Lv (r.set i (.ow t ds')) σ b → Lv r σ b := fun ⟨j, u, es, e1, e2⟩ => by
  rcases set_get e1 with ⟨rfl, q⟩ | ⟨q, e1⟩
  · exact ⟨j, t, ds, e, e2⟩
  · exact ⟨j, u, es, e1, e2⟩
theorem Sim.chgTo (S : Sim K hid pa r σ H) {i : Nat} {t : Bool} {ds ds' : List PyData} {a : Addr} {vs' : List V} (e : r[i]? = some (.ow t ds)) (ea : σ[i]? = some (some (.ref a)))
    (k : ∀ b o, b ≠ a → ¬ hid b → H b = some o → ¬ hid2 b ∧ H2 b = some o) (ha : H2 a = some (.lst vs')) (na : ¬ hid2 a) (hd : ∀ a, hid2 a → H2 a ≠ none) (h : DqAll K (fz (fun x => hid2 x ∨ Lv r σ x) H2) vs' ds') :
    Sim K hid2 pa (r.set i (.ow t ds')) σ H2 := by
  have lva : Lv r σ a := ⟨i, t, ds, e, ea⟩
  have sb : Sub (fz (fun x => hid x ∨ Lv r σ x) H) (fz (fun x => hid2 x ∨ Lv (r.set i (.ow t ds')) σ x) H2) := fun b o q => by
    obtain ⟨n, q⟩ := fz_some.mp q
    obtain ⟨k1, k2⟩ := k b o (fun z => n (.inr (by rw [z]; exact lva))) (fun z => n (.inl z)) q
    exact fz_some.mpr ⟨fun z => z.elim k1 fun z => n (.inr (lv_set e z)), k2⟩
  have sb' : Sub (fz (fun x => hid2 x ∨ Lv r σ x) H2) (fz (fun x => hid2 x ∨ Lv (r.set i (.ow t ds')) σ x) H2) := sub_lv fun b h => lv_set e h
  have sl : ∀ {j : Nat} {u : Bool} {es : List PyData}, (r.set i (.ow t ds'))[j]? = some (.ow u es) → ∃ u' es', r[j]? = some (.ow u' es') := fun {j u es} q => by
    rcases set_get q with ⟨rfl, _⟩ | ⟨_, q⟩
    · exact ⟨_, _, e⟩
    · exact ⟨_, _, q⟩
  refine ⟨by rw [List.length_set]; exact S.len, fun j d q => ?_, fun j u es q => ?_, hd, fun j l u u' es es' b q1 q2 p1 p2 => ?_⟩
  · rcases set_get q with ⟨_, q⟩ | ⟨_, q⟩
    · cases q
    · obtain ⟨v, z1, z2⟩ := S.pu j d q
      exact ⟨v, z1, Dp_mono sb z2⟩
  · rcases set_get q with ⟨rfl, zz⟩ | ⟨n, q⟩
    · cases zz
      obtain ⟨b, ws, z1, z2, z3, z4, z5⟩ := S.ow j t ds e
      rw [ea] at z1; cases z1
      exact ⟨a, vs', ea, ha, na, DpAll_mono sb' h, z5⟩
    · obtain ⟨b, ws, z1, z2, z3, z4, z5⟩ := S.ow j u es q
      have nb : b ≠ a := fun z => by
        subst z
        exact n (S.inj j i u t es ds b q e z1 ea)
      obtain ⟨k1, k2⟩ := k b _ nb z3 z2
      exact ⟨b, ws, z1, k2, k1, DpAll_mono sb z4, z5⟩
  · obtain ⟨_, _, q1'⟩ := sl q1
    obtain ⟨_, _, q2'⟩ := sl q2
    exact S.inj j l _ _ _ _ b q1' q2' p1 p2
theorem AvR_mono {P P' hc : Plc} {pc : Addr} (m : Sub (fz P H) (fz P' H)) : ∀ {vs : List V} {avs : List Av}, AvR K P hc pc H vs avs → AvR K P' hc pc H vs avs
  | _, _, .nil => .nil
  | _, _, .pu a t => .pu (Dp_mono m a) (AvR_mono m t)
  | _, _, .ow a n b t => .ow a n (DpAll_mono m b) (AvR_mono m t)
theorem RvR_mono {P P' : Plc} {v : V} {rv : RV} (m : Sub (fz P H2) (fz P' H2)) (h : RvR K P H H2 v rv) : RvR K P' H H2 v rv := by
  cases rv with
  | pu d => exact Dp_mono m h
  | fr ds =>
    obtain ⟨p, ws, h1, h2, h3, h4⟩ := h
    exact ⟨p, ws, h1, h2, h3, DpAll_mono m h4⟩
theorem sub_plc {P P' : Plc} (h : ∀ x, P' x → P x) : Sub (fz P H) (fz P' H) := fun a o e => by
  obtain ⟨n, e⟩ := fz_some.mp e
  exact fz_some.mpr ⟨fun z => n (h a z), e⟩
theorem call_core {G : Fns} {f : Nat} {kw : List Nat} {l : List Aw} {vs : List V} {Q : VK} {E : XK} (hX : ∀ c fs F F' C d H, Sub F F' → XR c fs F C d H → XR c fs F' C d H)
    (S : Sim K (fun x => hid x ∨ FrA l vs x) pa r σ H) (A : AwR K (fz (fun x => (hid x ∨ FrA l vs x) ∨ Lv r σ x) H) (FrA l vs) r σ H vs l)
    (w : match callA G f kw l r with
      | .ok rv r2 => ∀ v H2, Sim K (fun x => hid x ∨ FrV rv v x) pa r2 σ H2 → Ext (fun x => Lv r σ x ∨ FrA l vs x) H (Lv r2 σ) H2 → RvR K (fun x => (hid x ∨ FrV rv v x) ∨ Lv r2 σ x) H H2 v rv → Q v H2
      | .exc c fs r2 => ∀ C d H2, Sim K hid pa r2 σ H2 → Ext (fun x => Lv r σ x ∨ FrA l vs x) H (Lv r2 σ) H2 → XR c fs (fz (fun x => hid x ∨ Lv r2 σ x) H2) C d H2 → E C d H2
      | .bad => False) : spD K XR (G f) (arr kw vs) H Q E := by
  unfold callA at w
  cases ep : perm kw l with
  | none => rw [ep] at w; exact w.elim
  | some l' =>
  rw [ep] at w
  simp only at w
  have ho : owns l' ≤ 1 := by
    by_cases q : owns l' ≤ 1
    · exact q
    · rw [if_neg q] at w; exact w.elim
  rw [if_pos ho] at w
  cases ea : avOf r l' with
  | none => rw [ea] at w; exact w.elim
  | some avs =>
  rw [ea] at w
  simp only at w
  have A' := AwR_perm A ep
  let P : Plc := fun x => (hid x ∨ FrA l vs x) ∨ Lv r σ x
  -- the callee's view, and what stands behind the call
  have main : ∃ (hc : Plc) (pc : Addr), (∀ a, hc a → H a ≠ none) ∧ AvR K (fun x => hc x ∨ OwA avs pc x) hc pc H (arr kw vs) avs ∧ (∀ x, P x → hc x ∨ OwA avs pc x) ∧
      ∀ (out : List PyData) (fr : Plc) (H2 : Hp), (∀ x, fr x → H x = none ∧ H2 x ≠ none) → Back K hc pc avs H H2 out fr → Sim K (fun x => hid x ∨ fr x) pa (backA r out l') σ H2 ∧ Ext (fun x => Lv r σ x ∨ FrA l vs x) H (Lv (backA r out l') σ) H2 ∧
        ∀ x, Lv (backA r out l') σ x → Lv r σ x := by
    have hP : ∀ a, P a → H a ≠ none := S.held
    have hk2 : ∀ {pc : Addr} {H2 : Hp} {out : List PyData} {fr hc : Plc}, Back K hc pc avs H H2 out fr → ∀ a, H a ≠ none → H2 a ≠ none := fun {pc H2 out fr hc} B a h => by
      by_cases z : OwA avs pc a
      · obtain ⟨ws, e, _⟩ := B.out z.2
        rw [z.1, e]; exact fun z => nomatch z
      · cases q : H a with
        | none => exact absurd q h
        | some o => rw [B.keep a o q z]; exact fun z => nomatch z
    rcases Nat.lt_or_ge (owns l') 1 with h0 | h1
    · have h0 : owns l' = 0 := by omega
      have q := fun pc => av_none (hc := P) (pc := pc) A' h0 ea
      obtain ⟨q1, q2, q3⟩ := q 0
      have noOwA : ∀ x, ¬ OwA avs 0 x := fun x z => by obtain ⟨ds, z⟩ := z.2; exact q2 ds z
      refine ⟨P, 0, hP, AvR_mono (sub_plc fun x z => z.elim id fun z => absurd z (noOwA x)) q1, fun x z => .inl z, fun out fr H2 hfr B => ?_⟩
      rw [q3]
      refine ⟨S.to (fun a o n e => ⟨fun z => ?_, B.keep a o e (noOwA a)⟩) (fun a z => ?_), ⟨fun a o e _ => B.keep a o e (noOwA a), fun a z => .inl (.inl z), hk2 B⟩, fun x z => z⟩
      · rcases z with z | z
        · exact n (.inl z)
        · rw [(hfr a z).1] at e; cases e
      · rcases z with z | z
        · exact hk2 B a (S.hd a (.inl z))
        · exact (hfr a z).2
    · have h1 : owns l' = 1 := by omega
      obtain ⟨pc, ds0, q1, q2, q3, q4⟩ := av_one S A' h1 ea
      have isOw : ∀ x, OwA avs pc x ↔ x = pc := fun x => ⟨fun z => z.1, fun z => ⟨z, ds0, q3⟩⟩
      have pcP : P pc := by
        rcases q4 with ⟨i, t, e1, e2, _⟩ | ⟨z, _⟩
        · exact .inr ⟨i, t, ds0, e1, e2⟩
        · exact .inl (.inr z)
      have cov : ∀ x, P x → (P x ∧ x ≠ pc) ∨ OwA avs pc x := fun x z => by
        by_cases e : x = pc
        · exact .inr ((isOw x).mpr e)
        · exact .inl ⟨z, e⟩
      have cov' : ∀ x, (P x ∧ x ≠ pc) ∨ OwA avs pc x → P x := fun x z => z.elim (·.1) fun z => by rw [(isOw x).mp z]; exact pcP
      refine ⟨fun x => P x ∧ x ≠ pc, pc, fun a z => hP a z.1, AvR_mono (sub_plc cov') (q1 _ fun z => z.2 rfl), cov, fun out fr H2 hfr B => ?_⟩
      obtain ⟨ws, o1, o2⟩ := B.out ⟨ds0, q3⟩
      have kp : ∀ a o, a ≠ pc → H a = some o → H2 a = some o := fun a o n e => B.keep a o e fun z => n ((isOw a).mp z)
      have frn : ∀ a o, H a = some o → ¬ fr a := fun a o e z => by rw [(hfr a z).1] at e; cases e
      have hd2 : ∀ a, (hid a ∨ fr a) → H2 a ≠ none := fun a z => z.elim (fun z => hk2 B a (S.hd a (.inl z))) fun z => (hfr a z).2
      rcases q4 with ⟨i, t, e1, e2, e3⟩ | ⟨z, e3⟩
      · rw [e3]
        obtain ⟨b, bs, b1, b2, b3, _, _⟩ := S.ow i t ds0 e1
        rw [e2] at b1
        cases b1
        refine ⟨S.chgTo e1 e2 (fun b o nb n e => ⟨fun z => z.elim (fun z => n (.inl z)) (frn b o e), kp b o nb e⟩) o1 (fun z => z.elim (fun z => b3 (.inl z)) (frn _ _ b2)) hd2 (DpAll_mono (sub_plc fun x z => ?_) o2), ⟨fun a o e n => kp a o (fun z => n (.inl ?_)) e, fun a z => .inl (.inl (lv_set e1 z)), hk2 B⟩, fun x z => lv_set e1 z⟩
        · rcases z with (z | z) | z
          · exact .inl (cov x (.inl (.inl z)))
          · exact .inr z
          · exact .inl (cov x (.inr z))
        · rw [z]; exact ⟨i, t, ds0, e1, e2⟩
      · rw [e3]
        refine ⟨S.to (fun a o n e => ⟨fun w => w.elim (fun w => n (.inl w)) (frn a o e), kp a o (fun w => n (.inr (by rw [w]; exact z))) e⟩) hd2, ⟨fun a o e n => kp a o (fun w => n (.inr (by rw [w]; exact z))) e, fun a z => .inl (.inl z), hk2 B⟩, fun x z => z⟩
  obtain ⟨hc, pc, m1, m2, m3, m4⟩ := main
  refine ⟨hc, pc, avs, m1, m2, ?_⟩
  cases eg : G f avs with
  | bad => rw [eg] at w; exact w.elim
  | ok rv out =>
    rw [eg] at w
    intro v H2 B R
    have hfr : ∀ x, FrV rv v x → H x = none ∧ H2 x ≠ none := fun x z => by
      cases rv with
      | pu d => exact z.elim
      | fr ds =>
        obtain ⟨p, ws, r1, r2, r3, _⟩ := R
        have z' : v = .ref x := z
        rw [r1] at z'
        rw [← V.ref.inj z']
        exact ⟨r2, by rw [r3]; exact fun z => nomatch z⟩
    obtain ⟨n1, n2, n3⟩ := m4 out _ H2 hfr B
    refine w v H2 n1 n2 (RvR_mono (sub_plc fun x z => ?_) R)
    rcases z with (z | z) | z
    · exact .inl (m3 x (.inl (.inl z)))
    · exact .inr z
    · exact .inl (m3 x (.inr (n3 x z)))
  | exc c fs out =>
    rw [eg] at w
    intro C d H2 B x
    obtain ⟨n1, n2, n3⟩ := m4 out (fun _ => False) H2 (fun x z => z.elim) B
    refine w C d H2 (n1.less fun x z => .inl z) n2 (hX _ _ _ _ _ _ _ (sub_plc fun x z => ?_) x)
    rcases z with z | z
    · exact m3 x (.inl (.inl z))
    · exact m3 x (.inr (n3 x z))
end
end DL
end
section
set_option maxHeartbeats 200000
set_option maxRecDepth 100000
/-! DN: the text and the small language. -/
namespace DL
open PySem L2

def Pr.nm : Pr → Str
  | .len => "len" | .abs => "abs" | .max => "max" | .min => "min" | .int => "int" | .sum => "sum" | .any => "any" | .all => "all" | .sorted => "sorted" | .list => "list" | .tuple => "tuple" | .repr => "repr" | .divmod => "divmod"
def Pr.val : Pr → Value
  | .len => .builtin "len" | .abs => .builtin "abs" | .max => .builtin "max" | .min => .builtin "min" | .int => .type "int" | .sum => .builtin "sum" | .any => .builtin "any" | .all => .builtin "all" | .sorted => .builtin "sorted"
  | .list => .type "list" | .tuple => .type "tuple" | .repr => .builtin "repr" | .divmod => .builtin "divmod"
def Kd.nm : Kd → Str
  | .kint => "int" | .kbool => "bool" | .kstr => "str" | .klist => "list" | .ktuple => "tuple" | .kdict => "dict"
def Kd.ty : Kd → String
  | .kint => "int" | .kbool => "bool" | .kstr => "str" | .klist => "list" | .ktuple => "tuple" | .kdict => "dict"
def bltNames : List Str := ["len", "abs", "max", "min", "int", "sum", "any", "all", "sorted", "list", "tuple", "repr", "divmod", "bool", "str", "dict", "isinstance", "range", "enumerate", "zip", "set"]
def glbl (sc : Scope) (x : Str) : Bool := decide (sc.names.lookup x = some .globalImplicit) && !(x == ("__debug__" : Str))
def cnB : Cn → Const → Bool
  | .non, .none => true
  | .bl b, .bool c => b == c
  | .int i, .int j => decide (i = j)
  | .str x, .str y => decide (x = y)
  | _, _ => false
def noMark : Expr → Bool
  | .Set _ _ _ => false
  | _ => true
def tgOk (own : List Nat) : Tg → Bool
  | t => (tgSlots t).all fun i => own.contains i
def isTup : Tg → Bool
  | .tp _ => true
  | _ => false
mutual
def noSub : Tg → Bool
  | .nm _ => true
  | .sub _ _ => false
  | .tp ts => noSubs ts
def noSubs : List Tg → Bool
  | [] => true
  | t :: ts => noSub t && noSubs ts
end
mutual
def chkE (T : Tab) (N : List Str) (sc : Scope) : Ex → Expr → Bool
  | .cst c, .Constant k _ _ => cnB c k
  | .var i, .Name x _ => decide (N[i]? = some x) && visB sc x && okName x
  | .glb x c, .Name y _ => decide (x = y) && glbl sc x && decide ((x, c) ∈ T.cons)
  | .tup es, .Tuple xs _ _ => chkL T N sc es xs
  | .lst es, .List xs _ => chkL T N sc es xs
  | .bin o a b, .BinOp x op y _ => decide (o.op = op) && chkE T N sc a x && chkE T N sc b y
  | .neg a, .UnaryOp .USub x _ => chkE T N sc a x
  | .cmp o a b, .Compare x [op] [y] _ => decide (o.op = op) && noMark y && chkE T N sc a x && chkE T N sc b y
  | .chn o1 o2 a b c, .Compare x [p, q] [y, z] _ => decide (o1.op = p) && decide (o2.op = q) && noMark y && noMark z && chkE T N sc a x && chkE T N sc b y && chkE T N sc c z
  | .nt a, .UnaryOp .Not x _ => chkE T N sc a x
  | .an a b, .BoolOp .And (x :: y :: r) p => chkE T N sc a x && (match r with | [] => chkE T N sc b y | _ :: _ => chkE T N sc b (.BoolOp .And (y :: r) p))
  | .orr a b, .BoolOp .Or (x :: y :: r) p => chkE T N sc a x && (match r with | [] => chkE T N sc b y | _ :: _ => chkE T N sc b (.BoolOp .Or (y :: r) p))
  | .ite c a b, .IfExp t x y _ => chkE T N sc c t && chkE T N sc a x && chkE T N sc b y
  | .idx a i, .Subscript x y _ => chkE T N sc a x && chkE T N sc i y
  | .slc a lo hi, .Subscript x (.Slice l h none _) _ => chkE T N sc a x && chkO T N sc lo l && chkO T N sc hi h
  | .itm i m, .Subscript (.Name x _) y _ => decide (N[i]? = some x) && visB sc x && okName x && chkE T N sc m y
  | .peek p i, .Call (.Name f _) [.Name x _] [] _ => decide (f = p.nm) && glbl sc f && decide (N[i]? = some x) && visB sc x && okName x
  | .rev a, .Subscript x (.Slice none none (some (.UnaryOp .USub (.Constant (.int i) _ _) _)) _) _ => decide (i = 1) && chkE T N sc a x
  | .prim p es, .Call (.Name f _) xs [] _ => decide (f = p.nm) && glbl sc f && !xs.isEmpty && chkL T N sc es xs
  | .lrng none b, .Call (.Name f _) [.Call (.Name g _) [y] [] _] [] _ => decide (f = "list") && glbl sc f && decide (g = "range") && glbl sc g && chkE T N sc b y
  | .lrng (some a) b, .Call (.Name f _) [.Call (.Name g _) [x, y] [] _] [] _ => decide (f = "list") && glbl sc f && decide (g = "range") && glbl sc g && chkE T N sc a x && chkE T N sc b y
  | .isi a [k], .Call (.Name f _) [x, .Name t _] [] _ => decide (f = "isinstance") && glbl sc f && decide (t = k.nm) && glbl sc t && chkE T N sc a x
  | .isi a [k, j], .Call (.Name f _) [x, .Tuple [.Name t _, .Name u _] _ _] [] _ => decide (f = "isinstance") && glbl sc f && decide (t = k.nm) && glbl sc t && decide (u = j.nm) && glbl sc u && chkE T N sc a x
  | .call f args kw, .Call (.Name x _) xs ks _ => decide (T.fns[f]? = some x) && glbl sc x && (match ks with
      | [] => decide (kw = []) && decide (T.np[f]? = some args.length) && chkA T N sc args xs
      | _ :: _ => ks.all (·.arg.isSome) && decide (kw ≠ []) && decide (T.np[f]? = some kw.length) && kw.all (fun i => decide (i < args.length)) && decide ((f, xs.length, ks.filterMap (·.arg), kw) ∈ T.shapes) && chkA T N sc args (xs ++ ks.map (·.value)))
  | .comp tg it c e own, .ListComp elt [⟨t, iter, ifs, 0⟩] scope _ => blkC N sc scope (own.map fun i => (N.getD i "", i)) && decide (∀ i ∈ own, i < N.length) && tgOk own tg && chkTg N (relS scope sc) (fun x => scope.names.lookup x == some .cell) tg t &&
      chkI T N sc it t iter && (match c, ifs with
        | none, [] => true
        | some c, [x] => chkE T N (relS scope sc) c x
        | _, _ => false) && chkE T N (relS scope sc) e elt
  | _, _ => false
def chkL (T : Tab) (N : List Str) (sc : Scope) : List Ex → List Expr → Bool
  | [], [] => true
  | e :: es, x :: xs => chkE T N sc e x && chkL T N sc es xs
  | _, _ => false
def chkO (T : Tab) (N : List Str) (sc : Scope) : Option Ex → Option Expr → Bool
  | none, none => true
  | some e, some x => chkE T N sc e x
  | _, _ => false
def chkA (T : Tab) (N : List Str) (sc : Scope) : List Ar → List Expr → Bool
  | [], [] => true
  | .val e :: l, x :: xs => chkE T N sc e x && chkA T N sc l xs
  | .ref i :: l, .Name x _ :: xs => decide (N[i]? = some x) && visB sc x && okName x && chkA T N sc l xs
  | .fre e :: l, x :: xs => chkE T N sc e x && chkA T N sc l xs
  | _, _ => false
def chkI (T : Tab) (N : List Str) (sc : Scope) : Itr → Expr → Expr → Bool
  | .over e, _, x => noMark x && chkE T N sc e x
  | .rng b, _, .Call (.Name g _) [y] [] _ => decide (g = "range") && glbl sc g && chkE T N sc b y
  | .rng2 a b, _, .Call (.Name g _) [x, y] [] _ => decide (g = "range") && glbl sc g && chkE T N sc a x && chkE T N sc b y
  | .enum e, .Tuple _ _ _, .Call (.Name g _) [x] [] _ => decide (g = "enumerate") && glbl sc g && chkE T N sc e x
  | .zip a b, .Tuple _ _ _, .Call (.Name g _) [x, y] [] _ => decide (g = "zip") && glbl sc g && chkE T N sc a x && chkE T N sc b y
  | _, _, _ => false
end
/-- what is known where an expression stands -/
structure TabOk (X : Cx) (T : Tab) (G : Fns) (XR : XRel) : Prop where
  calm : X.calm = true
  nd : X.N.Nodup
  hu : X.A.units + 65 < cLine
  gd : X.A.guards = some []
  blt : ∀ x ∈ bltNames, X.mg x = none
  con : ∀ x c, (x, c) ∈ T.cons → ∃ v u, X.mg x = some u ∧ RelV v u ∧ ∀ H, Dq X.K H v c.d
  fn : ∀ f x, T.fns[f]? = some x → ∃ a fd ps k, FnFact X XR G T f x a fd ps k ∧ T.np[f]? = some ps.length
  mono : ∀ c fs F F' C d H, Sub F F' → XR c fs F C d H → XR c fs F' C d H
theorem TabOk.blk {X : Cx} {T : Tab} {G : Fns} {XR : XRel} (ok : TabOk X T G XR) (s : Shared) (H : Hp) (scope : Scope) (cenv : PySem.Env) (fp : List Addr) : TabOk (X.blk s H scope cenv fp) T G XR :=
  ⟨ok.calm, ok.nd, ok.hu, ok.gd, ok.blt, ok.con, fun f x h => let ⟨a, fd, ps, k, F, q⟩ := ok.fn f x h; ⟨a, fd, ps, k, ⟨F.mg, F.kp, F.room, F.run, F.bind, F.bindK⟩, q⟩, ok.mono⟩
/-- no star -/
def noStar : Expr → Bool
  | .Starred _ _ => false
  | _ => true
theorem star_of {e : Expr} {env : PySem.Env} (h : noStar e = true) (rest : List Expr) : starEach (e :: rest) env = (false, eval e env) :: starEach rest env := by
  cases e <;> first | rfl | (exact Bool.noConfusion h)
theorem chkE_star {T : Tab} {N : List Str} {sc : Scope} {m : Ex} {e : Expr} (h : chkE T N sc m e = true) : noStar e = true := by
  cases e <;> first | rfl | (cases m <;> first | exact Bool.noConfusion h | (simp [chkE] at h))
theorem glbl_of {sc : Scope} {x : Str} (h : glbl sc x = true) : sc.names.lookup x = some .globalImplicit ∧ (x == ("__debug__" : Str)) = false := by
  unfold glbl at h
  obtain ⟨h1, h2⟩ := Bool.and_eq_true_iff.mp h
  exact ⟨of_decide_eq_true h1, by simpa using h2⟩
end DL
end
section
set_option maxHeartbeats 200000
set_option maxRecDepth 100000
/-! DO: each kind of expression, from its parts. -/
namespace DL
open PySem L2
theorem bnd_assoc {α β γ : Type} (m : D α) (f : α → D β) (g : β → D γ) : bnd (bnd m f) g = bnd m fun x => bnd (f x) g := by
  funext r
  unfold bnd
  cases m r <;> rfl
theorem bnd_ret {α β : Type} (a : α) (f : α → D β) : bnd (ret a) f = f a := rfl
theorem bnd_bad {α β : Type} (f : α → D β) : bnd (fun _ => Res.bad) f = fun _ => Res.bad := rfl
theorem bnd_ext {α β : Type} {m : D α} {f g : α → D β} (h : ∀ x, f x = g x) : bnd m f = bnd m g := by rw [funext h]
/-- a value's truth -/
abbrev tden (m : D PyData) : D Bool := bnd m fun x => lift (truD x)
section
variable {X : Cx} {K : PySem.W.Frag} {XR : XRel} {W : WX} {hid : Plc} {pa : Addr} {σ : L2.St} {H : Hp} {r : Evn}
theorem tD_bnd {α β : Type} {R' : Plc → Hp → β → α → Prop} {m : D PyData} {f : PyData → D α} {Q : β → α → Evn → Hp → Prop} (S : Sim K hid pa r σ H) (h : wp K XR W hid pa σ R' (Lv r σ) H (bnd m f r) Q) :
    tD K XR W m σ H fun v H1 => ∃ r1 d, Sim K hid pa r1 σ H1 ∧ Ext (Lv r σ) H (Lv r1 σ) H1 ∧ Dq K (fz (fun x => hid x ∨ Lv r1 σ x) H1) v d ∧ wp K XR W hid pa σ R' (Lv r1 σ) H1 (f d r1) Q :=
  ⟨hid, pa, r, S, wp_mono (wp_bnd h) fun v d r1 H1 S1 E1 D1 w => ⟨r1, d, S1, E1, D1, w⟩⟩
theorem tDs_bnd {α β : Type} {R' : Plc → Hp → β → α → Prop} {m : D (List PyData)} {f : List PyData → D α} {Q : β → α → Evn → Hp → Prop} (S : Sim K hid pa r σ H) (h : wp K XR W hid pa σ R' (Lv r σ) H (bnd m f r) Q) :
    tDs K XR W m σ H fun v H1 => ∃ r1 d, Sim K hid pa r1 σ H1 ∧ Ext (Lv r σ) H (Lv r1 σ) H1 ∧ DqAll K (fz (fun x => hid x ∨ Lv r1 σ x) H1) v d ∧ wp K XR W hid pa σ R' (Lv r1 σ) H1 (f d r1) Q :=
  ⟨hid, pa, r, S, wp_mono (wp_bnd h) fun v d r1 H1 S1 E1 D1 w => ⟨r1, d, S1, E1, D1, w⟩⟩
theorem tDt_bnd {α β : Type} {R' : Plc → Hp → β → α → Prop} {m : D Bool} {f : Bool → D α} {Q : β → α → Evn → Hp → Prop} (S : Sim K hid pa r σ H) (h : wp K XR W hid pa σ R' (Lv r σ) H (bnd m f r) Q) :
    tDt K XR W m σ H fun d H1 => ∃ r1, Sim K hid pa r1 σ H1 ∧ Ext (Lv r σ) H (Lv r1 σ) H1 ∧ wp K XR W hid pa σ R' (Lv r1 σ) H1 (f d r1) Q :=
  ⟨hid, pa, r, S, wp_mono (wp_bnd h) fun _ d r1 H1 S1 E1 _ w => ⟨r1, S1, E1, w⟩⟩
theorem tD_bnd2 {α β : Type} {R' : Plc → Hp → β → α → Prop} {m1 m2 : D PyData} {f : PyData → PyData → D α} {Q : β → α → Evn → Hp → Prop} (S : Sim K hid pa r σ H) (h : wp K XR W hid pa σ R' (Lv r σ) H (bnd m1 (fun x => bnd m2 (f x)) r) Q) :
    tD K XR W m1 σ H fun v H1 => tD K XR W m2 σ H1 fun u H2 => ∃ r2 d e, Sim K hid pa r2 σ H2 ∧ Dq K (fz (fun x => hid x ∨ Lv r2 σ x) H2) v d ∧ Dq K (fz (fun x => hid x ∨ Lv r2 σ x) H2) u e ∧ wp K XR W hid pa σ R' (Lv r2 σ) H2 (f d e r2) Q :=
  tD_imp (tD_bnd S h) fun v H1 ⟨r1, d, S1, E1, D1, w⟩ => tD_imp (tD_bnd S1 w) fun u H2 ⟨r2, e, S2, E2, D2, w2⟩ => ⟨r2, d, e, S2, Dp_mono E2.sub D1, D2, w2⟩
theorem tDs_imp {m : D (List PyData)} {Q Q' : List V → Hp → Prop} (h : tDs K XR W m σ H Q) (q : ∀ v H', Q v H' → Q' v H') : tDs K XR W m σ H Q' := by
  obtain ⟨hid, pa, r, S, w⟩ := h
  exact ⟨hid, pa, r, S, wp_mono w fun v a r H' _ _ _ h => q v H' h⟩
theorem tDt_imp {m : D Bool} {Q Q' : Bool → Hp → Prop} (h : tDt K XR W m σ H Q) (q : ∀ v H', Q v H' → Q' v H') : tDt K XR W m σ H Q' := by
  obtain ⟨hid, pa, r, S, w⟩ := h
  exact ⟨hid, pa, r, S, wp_mono w fun v a r H' _ _ _ h => q a H' h⟩
/-- the pair of promises of an expression -/
def SE (X : Cx) (G : Fns) (XR : XRel) (W : WX) (m : Ex) (e : Expr) : Prop := PE X e (tD X.K XR W (den G m)) ∧ PT X e (tDt X.K XR W (tden (den G m)))
theorem tru_of {m : D PyData} {Q : Bool → Hp → Prop} (h : tDt K XR W (tden m) σ H Q) : tD K XR W m σ H fun x H' => ∃ k, TruV K x H' k ∧ Q k H' := by
  obtain ⟨hid, pa, r, S, w⟩ := h
  refine tD_imp (tD_bnd S w) fun v H1 ⟨r1, d, S1, E1, D1, w1⟩ => ?_
  obtain ⟨k, ek, q⟩ := wp_lift S1 w1
  exact ⟨k, tru_dp D1 ek, q () H1 (.inl rfl) trivial⟩
/-- an expression whose truth is that of its value -/
theorem se_of {G : Fns} {m : Ex} {e : Expr} (h : PE X e (tD X.K XR W (den G m))) (he : ∀ whole, isTrue e X.env whole = (do let v ← whole; standAt e.pos; holding [v] (truthy v))) : SE X G XR W m e :=
  ⟨h, PT_mono (pt_truth h he) fun _ _ _ q => tru_of q⟩
section
variable {G : Fns}
theorem se_cst {c : Cn} {k : Const} {j : Nat} {pos : Pos} (h : cnB c k = true) : PE X (.Constant k j pos) (tD X.K XR W (den G (.cst c))) := by
  have key : ∀ v : V, (∀ F, Dq X.K F v c.d) → PE X (.Constant k j pos) (tC v) → PE X (.Constant k j pos) (tD X.K XR W (den G (.cst c))) := fun v hv hp =>
    PE_mono hp fun σ H Q ⟨hid, pa, r, S, w⟩ => by
      have w : wp X.K XR W hid pa σ (R1 X.K) (Lv r σ) H (ret c.d r) fun v _ _ H' => Q v H' := w
      exact wp_ret S (.inl rfl) (hv _) w
  cases c <;> cases k <;> first | (exact Bool.noConfusion h) | skip
  · exact key .non (fun _ => .non) pe_non
  · rename_i b c
    obtain rfl : b = c := by simpa [cnB] using h
    exact key _ (fun _ => .bl b) pe_bl
  · rename_i b c
    obtain rfl : b = c := of_decide_eq_true h
    exact key _ (fun _ => .int b) pe_int
  · rename_i b c
    obtain rfl : b = c := of_decide_eq_true h
    exact key _ (fun _ => .str b) pe_str
theorem getS_lt {i : Nat} {s : Sl} (h : getS r i = s) (n : s ≠ .un) : i < r.length := lt_of_some (getS_some h n)
theorem se_var {i : Nat} {x : Str} {pos : Pos} (h1 : X.N[i]? = some x) (h2 : visB X.env.scope x = true) (h3 : okName x = true) : PE X (.Name x pos) (tD X.K XR W (den G (.var i))) := by
  obtain ⟨o1, o2⟩ := okName_of h3
  refine PE_mono (pe_var h1 (vis_of h2) o1 o2) fun σ H Q ⟨hid, pa, r, S, w⟩ => ?_
  have w : wp X.K XR W hid pa σ (R1 X.K) (Lv r σ) H (rdV i r) fun v _ _ H' => Q v H' := w
  unfold rdV at w
  cases es : getS r i with
  | un => simp only [es] at w; exact w.elim
  | pu d =>
    simp only [es] at w
    obtain ⟨v, e1, e2⟩ := S.pu i d (getS_some es (fun z => nomatch z))
    exact ⟨v, e1, w v H S .refl e2⟩
  | ow t ds =>
    cases t with
    | true => simp only [es] at w; exact w.elim
    | false =>
      simp only [es] at w
      obtain ⟨v, e1, e2, e3⟩ := S.frz (getS_some es (fun z => nomatch z))
      exact ⟨v, e1, w v H e3 ⟨fun _ _ q _ => q, fun a z => .inl (lv_fr z), fun _ z => z⟩ e2⟩
theorem se_glb {x : Str} {c : Cn} {pos : Pos} {u : Value} {v : V} (gl : Gl X x) (hdb : (x == ("__debug__" : Str)) = false) (mg : X.mg x = some u) (rv : RelV v u) (hd : ∀ H, Dq X.K H v c.d) : PE X (.Name x pos) (tD X.K XR W (den G (.glb x c))) :=
  ⟨fun pins s σ H Q I h => ld_glob I gl mg ⟨v, H, I, rv, by
    obtain ⟨hid, pa, r, S, w⟩ := h
    have w : wp X.K XR W hid pa σ (R1 X.K) (Lv r σ) H (ret c.d r) fun v _ _ H' => Q v H' := w
    exact wp_ret S (.inl rfl) (hd _) w⟩ hdb⟩
theorem wp_if {α β : Type} {R : Plc → Hp → β → α → Prop} {L : Plc} {c : Prop} [Decidable c] {a : α} {Q : β → α → Evn → Hp → Prop} (h : wp K XR W hid pa σ R L H ((if c then ret a else fun _ => Res.bad) r) Q) : c ∧ wp K XR W hid pa σ R L H (ret a r) Q := by
  by_cases q : c
  · rw [if_pos q] at h; exact ⟨q, h⟩
  · rw [if_neg q] at h; exact h.elim
theorem se_tup {ms : List Ex} {es : List Expr} {k : Nat} {pos : Pos} (h : PA X es (tDs X.K XR W (denL G ms))) : PE X (.Tuple es k pos) (tD X.K XR W (den G (.tup ms))) :=
  PE_mono (pe_tup h) fun σ H Q ⟨hid, pa, r, S, w⟩ => tDs_imp (tDs_bnd S (show wp X.K XR W hid pa σ (R1 X.K) (Lv r σ) H (bnd (denL G ms) (fun ds => if ds.length ≤ sizeLine then ret (.tuple ds) else fun _ => .bad) r) _ from w)) fun vs H1 ⟨r1, ds, S1, E1, D1, w1⟩ => by
    obtain ⟨hl, w1⟩ := wp_if w1
    refine ⟨by rw [DpAll_len D1]; exact hl, fun p np => wp_ret S1 (.inr ⟨p, _, np, rfl⟩) (.tup (.inl (.inl (fz_new S1.held np))) (DpAll_mono (sub_upd np) D1)) w1⟩
theorem se_lst {ms : List Ex} {es : List Expr} {pos : Pos} (h : PA X es (tDs X.K XR W (denL G ms))) : PE X (.List es pos) (tD X.K XR W (den G (.lst ms))) :=
  PE_mono (pe_lst h) fun σ H Q ⟨hid, pa, r, S, w⟩ => tDs_imp (tDs_bnd S (show wp X.K XR W hid pa σ (R1 X.K) (Lv r σ) H (bnd (denL G ms) (fun ds => if ds.length ≤ sizeLine then ret (.list ds) else fun _ => .bad) r) _ from w)) fun vs H1 ⟨r1, ds, S1, E1, D1, w1⟩ => by
    obtain ⟨hl, w1⟩ := wp_if w1
    refine ⟨by rw [DpAll_len D1]; exact hl, fun p np => wp_ret S1 (.inr ⟨p, _, np, rfl⟩) (.lst (.inl (.inl (fz_new S1.held np))) (DpAll_mono (sub_upd np) D1)) w1⟩
/-- two operands -/
theorem to_op {f : Value → Value → Sem Value} {g : PyData → PyData → Option PyData} {m1 m2 : D PyData} {Q : VK} {e1 e2 : Expr}
    (h : tD K XR W (bnd m1 fun x => bnd m2 fun y => lift (g x y)) σ H Q) : tOp (fun x y H Q => ∃ (P : Addr → Prop) (d e z : PyData), (∀ a, P a → H a ≠ none) ∧ Dq K (fz P H) x d ∧ Dq K (fz P H) y e ∧ g d e = some z ∧ ∀ v H', Grow H H' → Dq K (fz P H') v z → Q v H') (tD K XR W m1) (tD K XR W m2) σ H Q := by
  obtain ⟨hid, pa, r, S, w⟩ := h
  refine tD_imp (tD_bnd2 S w) fun v H1 h1 => tD_imp h1 fun u H2 ⟨r2, d, e, S2, D1, D2, w2⟩ => ?_
  obtain ⟨z, ez, q⟩ := wp_lift S2 w2
  exact ⟨_, d, e, z, S2.held, D1, D2, ez, fun v H' g D => q v H' g D⟩
theorem se_bin {o : Bop} {m1 m2 : Ex} {a b : Expr} {pos : Pos} (ha : PE X a (tD X.K XR W (den G m1))) (hb : PE X b (tD X.K XR W (den G m2))) : PE X (.BinOp a o.op b pos) (tD X.K XR W (den G (.bin o m1 m2))) :=
  PE_mono (pe_op (opd_bin o) ha hb) fun σ H Q h => to_op (e1 := a) (e2 := b) (f := binaryOp o.op) h
theorem se_neg {m : Ex} {a : Expr} {pos : Pos} (ha : PE X a (tD X.K XR W (den G m))) : PE X (.UnaryOp .USub a pos) (tD X.K XR W (den G (.neg m))) :=
  PE_mono (pe_un un_neg ha) fun σ H Q ⟨hid, pa, r, S, w⟩ => tD_imp (tD_bnd S (show wp X.K XR W hid pa σ (R1 X.K) (Lv r σ) H (bnd (den G m) _ r) _ from w)) fun v H1 ⟨r1, d, S1, E1, D1, w1⟩ => by
    cases d with
    | int i =>
      cases D1
      exact ⟨i, rfl, wp_ret S1 (.inl rfl) (.int _) w1⟩
    | _ => exact w1.elim
theorem cmp_mark {o : Cop} {b : Expr} (h : noMark b = true) : behindInMarks o.op b = false := by
  cases b <;> first | rfl | (exact Bool.noConfusion h)
theorem cmpD_bool {o : Cop} {d e z : PyData} (h : cmpD o d e = some z) : ∃ b, z = .bool b := by
  unfold cmpD at h
  split at h <;> first
    | (cases h; exact ⟨_, rfl⟩)
    | (split at h <;> cases h; exact ⟨_, rfl⟩)
    | (cases h)
theorem to_test {f : Value → Value → Sem Value} {o : Cop} {m1 m2 : D PyData} {Q : Bool → Hp → Prop}
    (h : tDt K XR W (tden (bnd m1 fun x => bnd m2 fun y => lift (cmpD o x y))) σ H Q) : tTest (tOp (fun x y H Q => ∃ (P : Addr → Prop) (d e z : PyData), (∀ a, P a → H a ≠ none) ∧ Dq K (fz P H) x d ∧ Dq K (fz P H) y e ∧ cmpD o d e = some z ∧ ∀ v H', Grow H H' → Dq K (fz P H') v z → Q v H') (tD K XR W m1) (tD K XR W m2)) σ H Q := by
  obtain ⟨hid, pa, r, S, w⟩ := h
  rw [show tden (bnd m1 fun x => bnd m2 fun y => lift (cmpD o x y)) = bnd m1 fun x => bnd m2 fun y => bnd (lift (cmpD o x y)) fun z => lift (truD z) by
    unfold tden; rw [bnd_assoc]; exact bnd_ext fun x => bnd_assoc _ _ _] at w
  refine tD_imp (tD_bnd2 S w) fun v H1 h1 => tD_imp h1 fun u H2 ⟨r2, d, e, S2, D1, D2, w2⟩ => ?_
  cases ez : cmpD o d e with
  | none => rw [ez] at w2; exact w2.elim
  | some z =>
    obtain ⟨k, rfl⟩ := cmpD_bool ez
    rw [ez] at w2
    refine ⟨_, d, e, _, S2.held, D1, D2, ez, fun v H' g D => ?_⟩
    cases D
    exact ⟨k, rfl, wp_ret (R := R0) (v := ()) S2 g trivial (show wp K XR W hid pa σ R0 (Lv r2 σ) H2 (ret k r2) _ from w2)⟩
theorem se_cmp {o : Cop} {m1 m2 : Ex} {a b : Expr} {pos : Pos} (hu : X.A.units + 65 < cLine) (hm : noMark b = true) (ha : PE X a (tD X.K XR W (den G m1))) (hb : PE X b (tD X.K XR W (den G m2))) : SE X G XR W (.cmp o m1 m2) (.Compare a [o.op] [b] pos) :=
  ⟨PE_mono (pe_cmpR (opd_cmp hu o) ha hb (cmp_mark hm)) fun σ H Q h => to_op (e1 := a) (e2 := b) (f := compareOp o.op) h, PT_mono (pt_cmpR (opd_cmp hu o) ha hb (cmp_mark hm)) fun σ H Q h => to_test (f := compareOp o.op) h⟩
end
end
end DL
end
section
set_option maxHeartbeats 200000
set_option maxRecDepth 100000
/-! DP: more kinds of expressions. -/
namespace DL
open PySem L2
section
variable {X : Cx} {K : PySem.W.Frag} {XR : XRel} {W : WX} {hid : Plc} {pa : Addr} {σ : L2.St} {H : Hp} {r : Evn} {G : Fns}
theorem wp_l {α β : Type} {R : Plc → Hp → β → α → Prop} {L : Plc} {o : Option α} {a : α} {Q : β → α → Evn → Hp → Prop} (e : o = some a) (h : wp K XR W hid pa σ R L H (lift o r) Q) : wp K XR W hid pa σ R L H (ret a r) Q := by
  rw [e] at h; exact h
/-- a op b op' c: as far as the second comparison -/
theorem chn_core {o1 o2 : Cop} {m1 m2 m3 : D PyData} {α β : Type} {R' : Plc → Hp → β → α → Prop} {f : PyData → D α} {Q : β → α → Evn → Hp → Prop} {Q' : VK} (S : Sim K hid pa r σ H)
    (w : wp K XR W hid pa σ R' (Lv r σ) H (bnd m1 (fun x => bnd m2 fun y => bnd (lift (cmpD o1 x y)) fun z => match z with | .bool true => bnd m3 fun w => bnd (lift (cmpD o2 y w)) f | .bool false => f (.bool false) | _ => fun _ => .bad) r) Q)
    (q : ∀ v z r1 H1, Sim K hid pa r1 σ H1 → (∃ b, z = .bool b) → Dq K (fz (fun x => hid x ∨ Lv r1 σ x) H1) v z → wp K XR W hid pa σ R' (Lv r1 σ) H1 (f z r1) Q → Q' v H1) :
    tChain (fun x y H Q => ∃ (P : Addr → Prop) (d e z : PyData), (∀ a, P a → H a ≠ none) ∧ Dq K (fz P H) x d ∧ Dq K (fz P H) y e ∧ cmpD o1 d e = some z ∧ ∀ v H', Grow H H' → Dq K (fz P H') v z → Q v H')
      (fun x y H Q => ∃ (P : Addr → Prop) (d e z : PyData), (∀ a, P a → H a ≠ none) ∧ Dq K (fz P H) x d ∧ Dq K (fz P H) y e ∧ cmpD o2 d e = some z ∧ ∀ v H', Grow H H' → Dq K (fz P H') v z → Q v H') (tD K XR W m1) (tD K XR W m2) (tD K XR W m3) σ H Q' := by
  refine tD_imp (tD_bnd2 S w) fun v H1 h1 => tD_imp h1 fun u H2 ⟨r2, d, e, S2, D1, D2, w2⟩ => ?_
  cases ez : cmpD o1 d e with
  | none => rw [ez] at w2; exact w2.elim
  | some z =>
  obtain ⟨k, rfl⟩ := cmpD_bool ez
  rw [ez] at w2
  refine ⟨_, d, e, _, S2.held, D1, D2, ez, fun v H3 g D => ?_⟩
  cases D
  refine ⟨k, rfl, ?_⟩
  cases k with
  | false =>
    rw [if_neg Bool.false_ne_true]
    have S3 := S2.grow g
    exact q _ _ r2 H3 S3 ⟨_, rfl⟩ (.bl _) (wp_later (show wp K XR W hid pa σ R' (Lv r2 σ) H2 (f (.bool false) r2) Q from w2) g.ext)
  | true =>
    rw [if_pos rfl]
    have S3 := S2.grow g
    have w3 : wp K XR W hid pa σ R' (Lv r2 σ) H3 (bnd m3 (fun w => bnd (lift (cmpD o2 e w)) f) r2) Q := wp_later (show wp K XR W hid pa σ R' (Lv r2 σ) H2 _ Q from w2) g.ext
    refine tD_imp (tD_bnd S3 w3) fun y H4 ⟨r4, dy, S4, E4, D4, w4⟩ => ?_
    cases ez2 : cmpD o2 e dy with
    | none => rw [ez2] at w4; exact w4.elim
    | some z2 =>
    rw [ez2] at w4
    refine ⟨_, e, dy, _, S4.held, Dp_mono E4.sub (Dp_mono g.sub D2), D4, ez2, fun v H5 g5 D5 => ?_⟩
    exact q _ _ r4 H5 (S4.grow g5) (cmpD_bool ez2) D5 (wp_later (show wp K XR W hid pa σ R' (Lv r4 σ) H4 (f z2 r4) Q from w4) g5.ext)
theorem chn_den {o1 o2 : Cop} {a b c : Ex} : den G (.chn o1 o2 a b c) = bnd (den G a) fun x => bnd (den G b) fun y => bnd (lift (cmpD o1 x y)) fun z => match z with | .bool true => bnd (den G c) fun w => bnd (lift (cmpD o2 y w)) ret | .bool false => ret (.bool false) | _ => fun _ => .bad := by
  show (bnd (den G a) fun x => bnd (den G b) fun y => bnd (lift (cmpD o1 x y)) fun z => match z with | .bool true => bnd (den G c) fun w => lift (cmpD o2 y w) | .bool false => ret (.bool false) | _ => fun _ => .bad) = _
  refine bnd_ext fun x => bnd_ext fun y => bnd_ext fun z => ?_
  split
  · refine bnd_ext fun w => ?_
    cases cmpD o2 y w <;> rfl
  · rfl
  · rfl
theorem chn_tden {o1 o2 : Cop} {a b c : Ex} : tden (den G (.chn o1 o2 a b c)) = bnd (den G a) fun x => bnd (den G b) fun y => bnd (lift (cmpD o1 x y)) fun z => match z with | .bool true => bnd (den G c) fun w => bnd (lift (cmpD o2 y w)) fun z => lift (truD z) | .bool false => lift (truD (.bool false)) | _ => fun _ => .bad := by
  unfold tden
  rw [chn_den, bnd_assoc]
  refine bnd_ext fun x => ?_
  rw [bnd_assoc]
  refine bnd_ext fun y => ?_
  rw [bnd_assoc]
  refine bnd_ext fun z => ?_
  split
  · rw [bnd_assoc]
    refine bnd_ext fun w => ?_
    rw [bnd_assoc]; rfl
  · rfl
  · rfl
theorem lastMark_of {o1 o2 : Cop} {b c : Expr} (hm : noMark c = true) : lastMarks [o1.op, o2.op] [b, c] = false := cmp_mark hm
theorem se_chn {o1 o2 : Cop} {m1 m2 m3 : Ex} {a b c : Expr} {pos : Pos} (hu : X.A.units + 65 < cLine) (hm : noMark c = true) (ha : PE X a (tD X.K XR W (den G m1))) (hb : PE X b (tD X.K XR W (den G m2))) (hc : PE X c (tD X.K XR W (den G m3))) :
    SE X G XR W (.chn o1 o2 m1 m2 m3) (.Compare a [o1.op, o2.op] [b, c] pos) := by
  refine ⟨PE_mono (pe_chain (opd_cmp hu o1) (opd_cmp hu o2) ha hb hc (lastMark_of hm)) fun σ H Q ⟨hid, pa, r, S, w⟩ => ?_, PT_mono (pt_chain (opd_cmp hu o1) (opd_cmp hu o2) ha hb hc (lastMark_of hm)) fun σ H Q ⟨hid, pa, r, S, w⟩ => ?_⟩
  · rw [chn_den] at w
    exact chn_core S w fun v z r1 H1 S1 _ D1 w1 => wp_ret S1 (.inl rfl) D1 w1
  · rw [chn_tden] at w
    refine chn_core (f := fun z => lift (truD z)) S w fun v z r1 H1 S1 ⟨b, eb⟩ D1 w1 => ?_
    subst eb
    cases D1
    exact ⟨b, rfl, wp_ret (R := R0) (v := ()) S1 (.inl rfl) trivial (show wp X.K XR W _ _ _ R0 _ H1 (ret b r1) _ from w1)⟩
/-! ### not, and, or, if -/
theorem nt_tden {a : Ex} : tden (den G (.nt a)) = bnd (tden (den G a)) fun t => ret (!t) := by
  show bnd (bnd (den G a) fun x => bnd (lift (truD x)) fun t => ret (.bool (!t))) (fun x => lift (truD x)) = bnd (bnd (den G a) fun x => lift (truD x)) fun t => ret (!t)
  rw [bnd_assoc, bnd_assoc]
  refine bnd_ext fun x => ?_
  rw [bnd_assoc]; rfl
theorem se_nt {m : Ex} {a : Expr} {pos : Pos} (h : SE X G XR W m a) : SE X G XR W (.nt m) (.UnaryOp .Not a pos) := by
  refine ⟨PE_mono (pe_notT h.1) fun σ H Q ⟨hid, pa, r, S, w⟩ => ?_, PT_mono (pt_not h.2) fun σ H Q ⟨hid, pa, r, S, w⟩ => ?_⟩
  · refine tD_imp (tD_bnd S (show wp X.K XR W hid pa σ (R1 X.K) (Lv r σ) H (bnd (den G m) _ r) _ from w)) fun v H1 ⟨r1, d, S1, E1, D1, w1⟩ => ?_
    cases et : truD d with
    | none => rw [et] at w1; exact w1.elim
    | some k =>
      rw [et] at w1
      exact ⟨k, tru_dp D1 et, wp_ret S1 (.inl rfl) (.bl _) (show wp X.K XR W _ _ _ (R1 X.K) _ H1 (ret (.bool (!k)) r1) _ from w1)⟩
  · rw [nt_tden] at w
    exact tDt_imp (tDt_bnd S w) fun b H1 ⟨r1, S1, E1, w1⟩ => wp_ret (R := R0) (v := ()) S1 (.inl rfl) trivial w1
theorem an_tden {a b : Ex} : tden (den G (.an a b)) = bnd (tden (den G a)) fun t => if t then tden (den G b) else ret false := by
  show bnd (bnd (den G a) fun x => bnd (lift (truD x)) fun t => if t then den G b else ret x) (fun x => lift (truD x)) = bnd (bnd (den G a) fun x => lift (truD x)) fun t => if t then tden (den G b) else ret false
  rw [bnd_assoc, bnd_assoc]
  refine bnd_ext fun x => ?_
  rw [bnd_assoc]
  cases e : truD x with
  | none => rfl
  | some k =>
    cases k with
    | true => rfl
    | false =>
      show lift (truD x) = ret false
      rw [e]; rfl
theorem orr_tden {a b : Ex} : tden (den G (.orr a b)) = bnd (tden (den G a)) fun t => if t then ret true else tden (den G b) := by
  show bnd (bnd (den G a) fun x => bnd (lift (truD x)) fun t => if t then ret x else den G b) (fun x => lift (truD x)) = bnd (bnd (den G a) fun x => lift (truD x)) fun t => if t then ret true else tden (den G b)
  rw [bnd_assoc, bnd_assoc]
  refine bnd_ext fun x => ?_
  rw [bnd_assoc]
  cases e : truD x with
  | none => rfl
  | some k =>
    cases k with
    | false => rfl
    | true =>
      show lift (truD x) = ret true
      rw [e]; rfl
theorem ite_tden {c a b : Ex} : tden (den G (.ite c a b)) = bnd (tden (den G c)) fun t => if t then tden (den G a) else tden (den G b) := by
  show bnd (bnd (den G c) fun x => bnd (lift (truD x)) fun t => if t then den G a else den G b) (fun x => lift (truD x)) = bnd (bnd (den G c) fun x => lift (truD x)) fun t => if t then tden (den G a) else tden (den G b)
  rw [bnd_assoc, bnd_assoc]
  refine bnd_ext fun x => ?_
  rw [bnd_assoc]
  refine bnd_ext fun k => ?_
  cases k <;> rfl
theorem ite_den {c a b : Ex} : den G (.ite c a b) = bnd (tden (den G c)) fun t => if t then den G a else den G b := by
  show (bnd (den G c) fun x => bnd (lift (truD x)) fun t => if t then den G a else den G b) = _
  rw [bnd_assoc]
theorem pw_of {op : BoolOp} {es : List Expr} {pos : Pos} {t : TT} (h : PT X (.BoolOp op es pos) t) : PW X (.BoolOp op es pos) t := ⟨fun wh pins s σ H Q I q => h.run pins s σ H Q I q⟩
theorem se_an {m1 m2 : Ex} {a b : Expr} {rest : List Expr} {pos : Pos} (ha : SE X G XR W m1 a) (hb : SE X G XR W m2 (.BoolOp .And (b :: rest) pos)) : SE X G XR W (.an m1 m2) (.BoolOp .And (a :: b :: rest) pos) := by
  refine ⟨PE_mono (pe_andT ha.1 hb.1) fun σ H Q ⟨hid, pa, r, S, w⟩ => ?_, PT_mono (PW.pt (pw_and ha.2 (pw_of hb.2))) fun σ H Q ⟨hid, pa, r, S, w⟩ => ?_⟩
  · refine tD_imp (tD_bnd S (show wp X.K XR W hid pa σ (R1 X.K) (Lv r σ) H (bnd (den G m1) _ r) _ from w)) fun v H1 ⟨r1, d, S1, E1, D1, w1⟩ => ?_
    cases et : truD d with
    | none => rw [et] at w1; exact w1.elim
    | some k =>
      rw [et] at w1
      refine ⟨k, tru_dp D1 et, ?_⟩
      cases k with
      | true => rw [if_pos rfl]; exact ⟨hid, pa, r1, S1, w1⟩
      | false => rw [if_neg Bool.false_ne_true]; exact wp_ret S1 (.inl rfl) D1 (show wp X.K XR W _ _ _ (R1 X.K) _ H1 (ret d r1) _ from w1)
  · rw [an_tden] at w
    refine tDt_imp (tDt_bnd S w) fun b H1 ⟨r1, S1, E1, w1⟩ => ?_
    cases b with
    | true => rw [if_pos rfl] at w1 ⊢; exact ⟨hid, pa, r1, S1, w1⟩
    | false => rw [if_neg Bool.false_ne_true] at w1 ⊢; exact wp_ret (R := R0) (v := ()) S1 (.inl rfl) trivial w1
theorem se_orr {m1 m2 : Ex} {a b : Expr} {rest : List Expr} {pos : Pos} (ha : SE X G XR W m1 a) (hb : SE X G XR W m2 (.BoolOp .Or (b :: rest) pos)) : SE X G XR W (.orr m1 m2) (.BoolOp .Or (a :: b :: rest) pos) := by
  refine ⟨PE_mono (pe_orT ha.1 hb.1) fun σ H Q ⟨hid, pa, r, S, w⟩ => ?_, PT_mono (PW.pt (pw_or ha.2 (pw_of hb.2))) fun σ H Q ⟨hid, pa, r, S, w⟩ => ?_⟩
  · refine tD_imp (tD_bnd S (show wp X.K XR W hid pa σ (R1 X.K) (Lv r σ) H (bnd (den G m1) _ r) _ from w)) fun v H1 ⟨r1, d, S1, E1, D1, w1⟩ => ?_
    cases et : truD d with
    | none => rw [et] at w1; exact w1.elim
    | some k =>
      rw [et] at w1
      refine ⟨k, tru_dp D1 et, ?_⟩
      cases k with
      | false => rw [if_neg Bool.false_ne_true]; exact ⟨hid, pa, r1, S1, w1⟩
      | true => rw [if_pos rfl]; exact wp_ret S1 (.inl rfl) D1 (show wp X.K XR W _ _ _ (R1 X.K) _ H1 (ret d r1) _ from w1)
  · rw [orr_tden] at w
    refine tDt_imp (tDt_bnd S w) fun b H1 ⟨r1, S1, E1, w1⟩ => ?_
    cases b with
    | false => rw [if_neg Bool.false_ne_true] at w1 ⊢; exact ⟨hid, pa, r1, S1, w1⟩
    | true => rw [if_pos rfl] at w1 ⊢; exact wp_ret (R := R0) (v := ()) S1 (.inl rfl) trivial w1
/-- one operand -/
theorem se_one {op : BoolOp} {m : Ex} {a : Expr} {pos : Pos} (h : SE X G XR W m a) : SE X G XR W m (.BoolOp op [a] pos) := by
  refine ⟨pe_one h.1, ?_⟩
  cases op with
  | And => exact (pw_and1 h.2).pt
  | Or => exact (pw_or1 h.2).pt
def tIfT (c t u : TT) : TT := fun σ H Q => c σ H fun b H1 => if b = true then t σ H1 Q else u σ H1 Q
theorem pt_ifExp {c a b : Expr} {pos : Pos} {tc ta tb : TT} (hc : PT X c tc) (ha : PT X a ta) (hb : PT X b tb) : PT X (.IfExp c a b pos) (tIfT tc ta tb) := by
  refine ⟨fun pins s σ H Q I h => ?_⟩
  show wpAny (model X.prog X.w) X.A (isTrue c X.env (eval c X.env) >>= fun d => if d = true then isTrue a X.env (eval a X.env) else isTrue b X.env (eval b X.env)) (TP X pins σ Q) X.xe s
  refine wpAny_bind (thn (hc.run pins s σ H _ I h) fun d s1 ⟨H1, I1, q1⟩ => ?_)
  cases d with
  | true => exact ha.run pins s1 σ H1 Q I1 q1
  | false => exact hb.run pins s1 σ H1 Q I1 q1
theorem se_ite {m1 m2 m3 : Ex} {c a b : Expr} {pos : Pos} (hc : SE X G XR W m1 c) (ha : SE X G XR W m2 a) (hb : SE X G XR W m3 b) : SE X G XR W (.ite m1 m2 m3) (.IfExp c a b pos) := by
  refine ⟨PE_mono (pe_ifExp hc.2 ha.1 hb.1) fun σ H Q ⟨hid, pa, r, S, w⟩ => ?_, PT_mono (pt_ifExp hc.2 ha.2 hb.2) fun σ H Q ⟨hid, pa, r, S, w⟩ => ?_⟩
  · rw [ite_den] at w
    refine tDt_imp (tDt_bnd S w) fun b H1 ⟨r1, S1, E1, w1⟩ => ?_
    cases b with
    | true => rw [if_pos rfl] at w1 ⊢; exact ⟨hid, pa, r1, S1, w1⟩
    | false => rw [if_neg Bool.false_ne_true] at w1 ⊢; exact ⟨hid, pa, r1, S1, w1⟩
  · rw [ite_tden] at w
    refine tDt_imp (tDt_bnd S w) fun b H1 ⟨r1, S1, E1, w1⟩ => ?_
    cases b with
    | true => rw [if_pos rfl] at w1 ⊢; exact ⟨hid, pa, r1, S1, w1⟩
    | false => rw [if_neg Bool.false_ne_true] at w1 ⊢; exact ⟨hid, pa, r1, S1, w1⟩
end
end DL
end
section
set_option maxHeartbeats 200000
set_option maxRecDepth 100000
/-! DQ: subscripts, built-in calls. -/
namespace DL
open PySem L2
section
variable {X : Cx} {K : PySem.W.Frag} {XR : XRel} {W : WX} {hid : Plc} {pa : Addr} {σ : L2.St} {H : Hp} {r : Evn} {G : Fns}
theorem plain_ix {T : Tab} {N : List Str} {sc : Scope} {m : Ex} {e : Expr} (h : chkE T N sc m e = true) : PlainIx e := by
  intro o i
  cases e <;> first | rfl | (cases m <;> first | exact Bool.noConfusion h | (simp [chkE] at h))
theorem atI_dq {F : Hp} {vs : List V} {ds : List PyData} {i : Int} {d : PyData} (h : DqAll K F vs ds) (e : atD ds i = some d) : ∃ v, atI vs i = some v ∧ Dq K F v d := by
  unfold atD at e
  obtain ⟨j, e1, e2⟩ := opt_bind e
  obtain ⟨v, q1, q2⟩ := DpAll_get h e2
  refine ⟨v, ?_, q2⟩
  rw [← DpAll_len h] at e1
  unfold atI
  rw [ixN_eq, e1]
  exact q1
theorem se_idx {m1 m2 : Ex} {a b : Expr} {pos : Pos} (ha : PE X a (tD X.K XR W (den G m1))) (hb : PE X b (tD X.K XR W (den G m2))) (hp : PlainIx b) : PE X (.Subscript a b pos) (tD X.K XR W (den G (.idx m1 m2))) :=
  PE_mono (pe_ix (IxR.or ix_list ix_tup) ha hb hp) fun σ H Q ⟨hid, pa, r, S, w⟩ => by
    refine tD_imp (tD_bnd2 (f := fun x y => lift (idxD x y)) S w) fun v H1 h1 => tD_imp h1 fun u H2 ⟨r2, d, e, S2, D1, D2, w2⟩ => ?_
    obtain ⟨z, ez, q⟩ := wp_lift S2 w2
    unfold idxD at ez
    split at ez
    · cases D2
      cases D1 with
      | lst q1 q2 =>
        obtain ⟨v, z1, z2⟩ := atI_dq q2 ez
        exact .inl ⟨_, _, _, v, rfl, rfl, SqL_fz q1, z1, q _ _ (.inl rfl) z2⟩
    · cases D2
      cases D1 with
      | tup q1 q2 =>
        obtain ⟨v, z1, z2⟩ := atI_dq q2 ez
        exact .inr ⟨_, _, _, v, rfl, rfl, SqT_fz q1, z1, q _ _ (.inl rfl) z2⟩
    · cases ez
/-- a part of a slice -/
def tOo (K : PySem.W.Frag) (XR : XRel) (W : WX) (m : D (Option Int)) : TO := fun σ H Q => ∃ hid pa r, Sim K hid pa r σ H ∧ wp K XR W hid pa σ R0 (Lv r σ) H (m r) fun _ o _ H' => Q o H'
theorem PO_mono {e : Option Expr} {t t' : TO} (h : PO X e t) (m : ∀ σ H Q, t' σ H Q → t σ H Q) : PO X e t' := ⟨fun pins s σ H Q I q => h.run pins s σ H Q I (m σ H Q q)⟩
theorem tOo_imp {m : D (Option Int)} {Q Q' : Option Int → Hp → Prop} (h : tOo K XR W m σ H Q) (q : ∀ v H', Q v H' → Q' v H') : tOo K XR W m σ H Q' := by
  obtain ⟨hid, pa, r, S, w⟩ := h
  exact ⟨hid, pa, r, S, wp_mono w fun v a r H' _ _ _ h => q a H' h⟩
theorem tOo_bnd {α β : Type} {R' : Plc → Hp → β → α → Prop} {m : D (Option Int)} {f : Option Int → D α} {Q : β → α → Evn → Hp → Prop} (S : Sim K hid pa r σ H) (h : wp K XR W hid pa σ R' (Lv r σ) H (bnd m f r) Q) :
    tOo K XR W m σ H fun d H1 => ∃ r1, Sim K hid pa r1 σ H1 ∧ Ext (Lv r σ) H (Lv r1 σ) H1 ∧ wp K XR W hid pa σ R' (Lv r1 σ) H1 (f d r1) Q :=
  ⟨hid, pa, r, S, wp_mono (wp_bnd h) fun _ d r1 H1 S1 E1 _ w => ⟨r1, S1, E1, w⟩⟩
theorem so_none : PO X none (tOo X.K XR W (denO G none)) := PO_mono po_none fun σ H Q ⟨hid, pa, r, S, w⟩ => wp_ret (R := R0) (v := ()) S (.inl rfl) trivial (show wp X.K XR W hid pa σ R0 (Lv r σ) H (ret none r) _ from w)
theorem so_some {m : Ex} {e : Expr} (h : PE X e (tD X.K XR W (den G m))) : PO X (some e) (tOo X.K XR W (denO G (some m))) := PO_mono (po_some h) fun σ H Q ⟨hid, pa, r, S, w⟩ => by
  refine tD_imp (tD_bnd S (show wp X.K XR W hid pa σ R0 (Lv r σ) H (bnd (den G m) _ r) _ from w)) fun v H1 ⟨r1, d, S1, E1, D1, w1⟩ => ?_
  cases d with
  | int i =>
    cases D1
    exact ⟨i, rfl, wp_ret (R := R0) (v := ()) S1 (.inl rfl) trivial w1⟩
  | _ => exact w1.elim
theorem cut_dq {F : Hp} {vs : List V} {ds : List PyData} (h : DqAll K F vs ds) (lo hi : Option Int) : DqAll K F (cutV vs lo hi) (cutD ds lo hi) := by
  have e := DpAll_len h
  unfold cutV cutD
  rw [show HT.sIx vs.length 0 lo = sIx ds.length 0 lo by rw [e]; cases lo <;> rfl, show HT.sIx vs.length vs.length hi = sIx ds.length ds.length hi by rw [e]; cases hi <;> rfl]
  exact DpAll_take _ (DpAll_drop _ h)
theorem cut_full {α : Type} {xs : List α} {i j : Nat} (h1 : i = 0) (h2 : j = xs.length) : (xs.drop i).take (j - i) = xs := by
  subst h1 h2
  simp
theorem se_slc {m : Ex} {l h : Option Ex} {e : Expr} {lo hi : Option Expr} {p2 pos : Pos} (he : PE X e (tD X.K XR W (den G m))) (hl : PO X lo (tOo X.K XR W (denO G l))) (hh : PO X hi (tOo X.K XR W (denO G h))) :
    PE X (.Subscript e (.Slice lo hi none p2) pos) (tD X.K XR W (den G (.slc m l h))) :=
  PE_mono (pe_slice (SlR.or sl_list sl_tupA) he hl hh) fun σ H Q ⟨hid, pa, r, S, w⟩ => by
    refine tD_imp (tD_bnd S (show wp X.K XR W hid pa σ (R1 X.K) (Lv r σ) H (bnd (den G m) (fun x => bnd (denO G l) fun l => bnd (denO G h) fun h => lift (slcD x l h)) r) _ from w)) fun v H1 ⟨r1, d, S1, E1, D1, w1⟩ => ?_
    refine tOo_imp (tOo_bnd S1 w1) fun o1 H2 ⟨r2, S2, E2, w2⟩ => tOo_imp (tOo_bnd S2 w2) fun o2 H3 ⟨r3, S3, E3, w3⟩ => ?_
    obtain ⟨z, ez, q⟩ := wp_lift S3 w3
    have D3 := Dp_mono E3.sub (Dp_mono E2.sub D1)
    unfold slcD at ez
    split at ez
    · cases ez
      cases D3 with
      | lst q1 q2 => exact .inl ⟨_, _, rfl, SqL_fz q1, fun p np => q _ _ (.inr ⟨p, _, np, rfl⟩) (.lst (.inl (.inl (fz_new S3.held np))) (DpAll_mono (sub_upd np) (cut_dq q2 _ _)))⟩
    · cases ez
      cases D3 with
      | tup q1 q2 =>
        refine .inr ⟨_, _, rfl, SqT_fz q1, fun ⟨z1, z2⟩ => q _ _ (.inl rfl) (.tup q1 ?_), fun _ p np => q _ _ (.inr ⟨p, _, np, rfl⟩) (.tup (.inl (.inl (fz_new S3.held np))) (DpAll_mono (sub_upd np) (cut_dq q2 _ _)))⟩
        have e := DpAll_len q2
        rw [e] at z1 z2
        unfold cutD
        rw [cut_full (by cases o1 <;> exact z1) (by cases o2 <;> exact z2)]
        exact q2
    · cases ez
theorem se_rev {m : Ex} {e : Expr} {k : Nat} {p1 p2 p3 pos : Pos} (he : PE X e (tD X.K XR W (den G m))) : PE X (.Subscript e (.Slice none none (some (.UnaryOp .USub (.Constant (.int 1) k p1) p2)) p3) pos) (tD X.K XR W (den G (.rev m))) :=
  PE_mono (pe_revL he) fun σ H Q ⟨hid, pa, r, S, w⟩ => by
    refine tD_imp (tD_bnd S (show wp X.K XR W hid pa σ (R1 X.K) (Lv r σ) H (bnd (den G m) _ r) _ from w)) fun v H1 ⟨r1, d, S1, E1, D1, w1⟩ => ?_
    cases d with
    | list ds =>
      cases D1 with
      | lst q1 q2 => exact ⟨_, _, rfl, SqL_fz q1, fun p np => wp_ret S1 (.inr ⟨p, _, np, rfl⟩) (.lst (.inl (.inl (fz_new S1.held np))) (DpAll_mono (sub_upd np) (DpAll_rev q2))) w1⟩
    | _ => exact w1.elim
/-! ### built-in functions -/
theorem cd_prim (p : Pr) (hc : X.calm = true) (hu : X.A.units + 65 < cLine) (hg : X.A.guards = some []) : CallD X p.val (primD p) := by
  cases p
  · exact cd_len
  · exact cd_abs
  · exact cd_max hc
  · exact cd_min hc
  · exact cd_int
  · exact cd_sum hc
  · exact cd_any hc
  · exact cd_all hc
  · exact cd_sorted hu
  · exact cd_list
  · exact cd_tuple
  · exact cd_repr hg hu
  · exact cd_divmod
theorem se_prim {p : Pr} {ms : List Ex} {e : Expr} {es : List Expr} {np pos : Pos} (hc : X.calm = true) (hu : X.A.units + 65 < cLine) (hg : X.A.guards = some []) (gl : Gl X p.nm) (hm : X.mg p.nm = none)
    (hs : ∀ e' ∈ e :: es, noStar e' = true) (ha : PA X (e :: es) (tDs X.K XR W (denL G ms))) : PE X (.Call (.Name p.nm np) (e :: es) [] pos) (tD X.K XR W (den G (.prim p ms))) := by
  have s1 := star_of (env := X.env) (hs e List.mem_cons_self) es
  have s2 : (backTo pos (starEach es X.env)).any (·.1) = false := star_plain fun e' h' rest => star_of (hs e' (List.mem_cons_of_mem _ h')) rest
  have key : PE X (.Call (.Name p.nm np) (e :: es) [] pos) (tCB (fun xs H Q => ∃ (P : Addr → Prop) (ds : List PyData) (z : PyData), (∀ a, P a → H a ≠ none) ∧ DqAll X.K (fz P H) xs ds ∧ primD p ds = some z ∧ ∀ v H', Grow H H' → Dq X.K (fz P H') v z → Q v H') (tDs X.K XR W (denL G ms))) := by
    have hh := cd_prim p hc hu hg
    cases p
    all_goals first
      | exact pe_callB hh gl hm (by decide +kernel) ha (by decide) (by decide) s1 s2
      | exact pe_callTy hh gl hm (by decide +kernel) ha (by decide) (by decide) s1 s2
  refine PE_mono key fun σ H Q ⟨hid, pa, r, S, w⟩ => ?_
  refine tDs_imp (tDs_bnd S (show wp X.K XR W hid pa σ (R1 X.K) (Lv r σ) H (bnd (denL G ms) (fun ds => lift (primD p ds)) r) _ from w)) fun vs H1 ⟨r1, ds, S1, E1, D1, w1⟩ => ?_
  obtain ⟨z, ez, q⟩ := wp_lift S1 w1
  exact ⟨_, ds, z, S1.held, D1, ez, q⟩
theorem se_itm {i : Nat} {x : Str} {px : Pos} {m : Ex} {b : Expr} {pos : Pos} (h1 : X.N[i]? = some x) (h2 : visB X.env.scope x = true) (h3 : okName x = true) (hb : PE X b (tD X.K XR W (den G m))) (hp : PlainIx b) : PE X (.Subscript (.Name x px) b pos) (tD X.K XR W (den G (.itm i m))) := by
  obtain ⟨o1, o2⟩ := okName_of h3
  refine PE_mono (pe_ix ix_list (pe_var h1 (vis_of h2) o1 o2) hb hp) fun σ H Q ⟨hid, pa, r, S, w⟩ => ?_
  have w : wp X.K XR W hid pa σ (R1 X.K) (Lv r σ) H (isOw i (bnd (den G m) fun y => atOw i y) r) (fun v _ _ H' => Q v H') := w
  unfold isOw at w
  cases es : getS r i with
  | un => rw [es] at w; exact w.elim
  | pu d => rw [es] at w; exact w.elim
  | ow t ds =>
    rw [es] at w
    simp only at w
    obtain ⟨a, vs, e1, e2, _⟩ := S.ow i t ds (getS_some es (fun z => nomatch z))
    refine ⟨.ref a, e1, tD_imp (tD_bnd S w) fun y H2 ⟨r2, e, S2, E2, D2, w2⟩ => ?_⟩
    unfold atOw at w2
    cases es2 : getS r2 i with
    | un => rw [es2] at w2; exact w2.elim
    | pu d => rw [es2] at w2; exact w2.elim
    | ow t2 ds2 =>
      rw [es2] at w2
      obtain ⟨b', vs2, b1, b2, b3, b4, b5⟩ := S2.ow i t2 ds2 (getS_some es2 (fun z => nomatch z))
      rw [e1] at b1
      cases b1
      cases e with
      | int k =>
        simp only at w2
        cases ea : atD ds2 k with
        | none => rw [ea] at w2; exact w2.elim
        | some d =>
          rw [ea] at w2
          obtain ⟨v, z1, z2⟩ := atI_dq b4 ea
          cases D2
          exact ⟨a, vs2, k, v, rfl, rfl, .inl (.inl b2), z1, w2 v H2 S2 .refl z2⟩
      | _ => exact w2.elim
theorem flat_dq {F F' : Hp} {v : V} {z : PyData} (h : flatD z = true) (D : Dq K F v z) : Dq K F' v z := by
  cases D with
  | non => exact .non
  | bl b => exact .bl b
  | int i => exact .int i
  | str x => exact .str x
  | lst _ _ => cases h
  | tup _ _ => cases h
theorem se_peek {p : Pr} {i : Nat} {x : Str} {np px pos : Pos} (hc : X.calm = true) (hu : X.A.units + 65 < cLine) (hg : X.A.guards = some []) (gl : Gl X p.nm) (hm : X.mg p.nm = none) (h1 : X.N[i]? = some x) (h2 : visB X.env.scope x = true) (h3 : okName x = true) :
    PE X (.Call (.Name p.nm np) [.Name x px] [] pos) (tD X.K XR W (den G (.peek p i))) := by
  obtain ⟨o1, o2⟩ := okName_of h3
  have ha : PA X [.Name x px] (tCons (tVar i) tNil) := pa_cons (pe_var h1 (vis_of h2) o1 o2) pa_nil rfl
  have key : PE X (.Call (.Name p.nm np) [.Name x px] [] pos) (tCB (fun xs H Q => ∃ (P : Addr → Prop) (ds : List PyData) (z : PyData), (∀ a, P a → H a ≠ none) ∧ DqAll X.K (fz P H) xs ds ∧ primD p ds = some z ∧ ∀ v H', Grow H H' → Dq X.K (fz P H') v z → Q v H') (tCons (tVar i) tNil)) := by
    have hh := cd_prim p hc hu hg
    cases p
    all_goals first
      | exact pe_callB hh gl hm (by decide +kernel) ha (by decide) (by decide) rfl rfl
      | exact pe_callTy hh gl hm (by decide +kernel) ha (by decide) (by decide) rfl rfl
  refine PE_mono key fun σ H Q ⟨hid, pa, r, S, w⟩ => ?_
  have w : wp X.K XR W hid pa σ (R1 X.K) (Lv r σ) H (peekD p i r) (fun v _ _ H' => Q v H') := w
  unfold peekD at w
  cases es : getS r i with
  | un => rw [es] at w; exact w.elim
  | pu d => rw [es] at w; exact w.elim
  | ow t ds =>
    rw [es] at w
    simp only at w
    obtain ⟨a, vs, e1, e2, e3, e4, _⟩ := S.ow i t ds (getS_some es (fun z => nomatch z))
    cases ez : primD p [.list ds] with
    | none => rw [ez] at w; exact w.elim
    | some z =>
      rw [ez] at w
      simp only at w
      by_cases hf : flatD z = true
      · rw [if_pos hf] at w
        have sb : Sub (fz (fun x => hid x ∨ Lv r σ x) H) (fz (fun x => (hid x ∨ Lv r σ x) ∧ x ≠ a) H) := fun b o q => by
          obtain ⟨n, q⟩ := fz_some.mp q
          exact fz_some.mpr ⟨fun y => n y.1, q⟩
        exact ⟨.ref a, e1, _, [.list ds], z, fun b y => S.held b y.1, .cons (.lst (.inl (.inl (fz_some.mpr ⟨fun y => y.2 rfl, e2⟩))) (DpAll_mono sb e4)) .nil, ez, fun v H' g D => w v H' (S.grow g) g.ext (flat_dq hf D)⟩
      · rw [if_neg hf] at w; exact w.elim
theorem rgOk_of {a b : Int} (h : rgOk a b = true) : RgOk a b := by
  unfold rgOk at h
  simp only [Bool.and_eq_true, decide_eq_true_eq] at h
  exact ⟨h.1.1.1.1, h.1.1.1.2, h.1.1.2, h.1.2, h.2⟩
theorem rng_dq {F : Hp} {a b : Int} : DqAll K F (rgV a b) (rngL a b) := by
  unfold rgV rngL
  generalize List.range (b - a).toNat = l
  induction l with
  | nil => exact .nil
  | cons i l ih => exact .cons (.int _) ih
theorem se_lrng1 {m : Ex} {b : Expr} {np np2 pos pos2 : Pos} (hc : X.calm = true) (g1 : Gl X "list") (m1 : X.mg "list" = none) (g2 : Gl X "range") (m2 : X.mg "range" = none) (hs : noStar b = true) (hb : PE X b (tD X.K XR W (den G m))) :
    PE X (.Call (.Name "list" np) [.Call (.Name "range" np2) [b] [] pos2] [] pos) (tD X.K XR W (den G (.lrng none m))) :=
  PE_mono (pe_listRg hc g1 m1 (prg_1 g2 m2 hb (star_of hs []))) fun σ H Q ⟨hid, pa, r, S, w⟩ => by
    refine tD_imp (tD_bnd S (show wp X.K XR W hid pa σ (R1 X.K) (Lv r σ) H (bnd (den G m) _ r) _ from w)) fun v H1 ⟨r1, d, S1, E1, D1, w1⟩ => ?_
    cases d with
    | int j =>
      cases D1
      obtain ⟨hl, w1⟩ := wp_if (show wp X.K XR W hid pa σ (R1 X.K) (Lv r1 σ) H1 ((if rgOk 0 j then ret (.list (rngL 0 j)) else fun _ => .bad) r1) _ from w1)
      exact ⟨j, rfl, rgOk_of hl, fun p np => wp_ret S1 (.inr ⟨p, _, np, rfl⟩) (.lst (.inl (.inl (fz_new S1.held np))) rng_dq) w1⟩
    | _ => exact w1.elim
theorem se_lrng2 {m1 m2 : Ex} {a b : Expr} {np np2 pos pos2 : Pos} (hc : X.calm = true) (g1 : Gl X "list") (mm1 : X.mg "list" = none) (g2 : Gl X "range") (mm2 : X.mg "range" = none) (hsa : noStar a = true) (hs : noStar b = true) (ha : PE X a (tD X.K XR W (den G m1))) (hb : PE X b (tD X.K XR W (den G m2))) :
    PE X (.Call (.Name "list" np) [.Call (.Name "range" np2) [a, b] [] pos2] [] pos) (tD X.K XR W (den G (.lrng (some m1) m2))) :=
  PE_mono (pe_listRg hc g1 mm1 (prg_2 g2 mm2 ha hb (star_of hsa [b]) (star_of hs []) (by rw [star_of hs]; rfl))) fun σ H Q ⟨hid, pa, r, S, w⟩ => by
    have w : wp X.K XR W hid pa σ (R1 X.K) (Lv r σ) H (bnd (bnd (den G m1) fun x => match x with | .int i => ret (some i) | _ => fun _ => .bad) (fun lo => bnd (den G m2) fun y => match y with | .int j => if rgOk (lo.getD 0) j then ret (.list (rngL (lo.getD 0) j)) else fun _ => .bad | _ => fun _ => .bad) r) _ := w
    rw [bnd_assoc] at w
    refine tD_imp (tD_bnd S w) fun v H1 ⟨r1, d, S1, E1, D1, w1⟩ => ?_
    cases d with
    | int i =>
      cases D1
      refine tD_imp (tD_bnd S1 (show wp X.K XR W hid pa σ (R1 X.K) (Lv r1 σ) H1 (bnd (den G m2) _ r1) _ from w1)) fun u H2 ⟨r2, e, S2, E2, D2, w2⟩ => ?_
      cases e with
      | int j =>
        cases D2
        obtain ⟨hl, w2⟩ := wp_if (show wp X.K XR W hid pa σ (R1 X.K) (Lv r2 σ) H2 ((if rgOk i j then ret (.list (rngL i j)) else fun _ => .bad) r2) _ from w2)
        exact ⟨i, j, rfl, rfl, rgOk_of hl, fun p np => wp_ret S2 (.inr ⟨p, _, np, rfl⟩) (.lst (.inl (.inl (fz_new S2.held np))) rng_dq) w2⟩
      | _ => exact w2.elim
    | _ => exact w1.elim
end
end DL
end
section
set_option maxHeartbeats 200000
set_option maxRecDepth 100000
/-! DR: isinstance. -/
namespace DL
open PySem L2
def tyS : PyData → String
  | .none => "NoneType"
  | .bool _ => "bool"
  | .int _ => "int"
  | .str _ => "str"
  | .list _ => "list"
  | .tuple _ => "tuple"
  | .dict _ => "dict"
def nodict : PyData → Prop
  | .dict _ => False
  | _ => True
section
variable {X : Cx} {K : PySem.W.Frag} {XR : XRel} {W : WX} {hid : Plc} {pa : Addr} {σ : L2.St} {H : Hp} {r : Evn} {G : Fns}
theorem dq_ty {P : Plc} {v : V} {d : PyData} (h : Dq K (fz P H) v d) : TyX K H v (.type (tyS d)) := by
  cases h with
  | non => exact .base .non
  | bl b => exact .base (.bl b)
  | int i => exact .base (.int i)
  | str x => exact .base (.str x)
  | lst h1 h2 =>
    rcases LsK_fz h1 with (h | ⟨o, h⟩) | ⟨its, n, h, _⟩
    · exact .base (.lst h)
    · exact .base (.frz h)
    · exact .kList h rfl
  | tup h1 h2 =>
    rcases SqT_fz h1 with (h | ⟨o, h⟩) | ⟨o, its, n, h, hc, _⟩
    · exact .base (.tup h)
    · exact .fTuple h
    · exact .kTuple h hc
theorem kit_ty (k : Kd) : ∀ d : PyData, True → nodict d → PySem.W.kitOne K (.type (tyS d)) (.type k.ty) = some (isK k d) := by
  intro d _ nd
  have a : ∀ (t c : String) (b : Bool), (t == c) = false → PySem.W.kitMeta c = true → (fastBuiltinMro t).map (·.contains (.type c)) = some b → PySem.W.kitOne K (.type t) (.type c) = some b := fun t c b h1 h2 h3 => by
    unfold PySem.W.kitOne
    have : (Value.type t == Value.type c) = false := by
      have : t ≠ c := by simpa using h1
      simpa using this
    rw [if_neg (by rw [this]; decide)]
    unfold PySem.W.kitCls
    simp only [h2, if_true]
    exact h3
  have b : ∀ t : String, PySem.W.kitOne K (.type t) (.type t) = some true := fun t => by
    unfold PySem.W.kitOne
    rw [if_pos (by simp)]
  cases d
  case dict => exact nd.elim
  all_goals
    cases k
    all_goals first
      | exact b _
      | exact a _ _ _ (by dsimp only [tyS, Kd.ty]; decide) (by dsimp only [Kd.ty]; decide +kernel) (by dsimp only [tyS, Kd.ty, isK]; decide +kernel)
theorem dq_nodict {P : Plc} {v : V} {d : PyData} (h : Dq K (fz P H) v d) : nodict d := by
  cases h <;> trivial
theorem kd_boot (k : Kd) : bootBuiltins k.nm = some (.type k.ty) := by cases k <;> decide +kernel
theorem pe_kd {k : Kd} {p : Pos} (gl : Gl X k.nm) (hm : X.mg k.nm = none) : PE X (.Name k.nm p) (tC (.ty k.ty)) :=
  ⟨fun pins s σ H Q I h => ld_blt I gl hm (kd_boot k) ⟨.ty k.ty, H, I, rfl, h⟩ (by cases k <;> decide) (by cases k <;> decide)⟩
theorem se_isi1 {m : Ex} {k : Kd} {e : Expr} {p1 p2 pos : Pos} (g1 : Gl X "isinstance") (m1 : X.mg "isinstance" = none) (g2 : Gl X k.nm) (m2 : X.mg k.nm = none) (hs : noStar e = true) (he : PE X e (tD X.K XR W (den G m))) :
    PE X (.Call (.Name "isinstance" p1) [e, .Name k.nm p2] [] pos) (tD X.K XR W (den G (.isi m [k]))) :=
  PE_mono (pe_callB call_isi g1 m1 PyProof.Rows.boot_isinstance (pa_cons he (pa_cons (pe_kd g2 m2) pa_nil rfl) (star_of hs _)) (by decide) (by decide) (star_of hs _) rfl) fun σ H Q ⟨hid, pa, r, S, w⟩ => by
    refine tD_imp (tD_bnd S (show wp X.K XR W hid pa σ (R1 X.K) (Lv r σ) H (bnd (den G m) (fun x => ret (.bool ([k].any fun k => isK k x))) r) _ from w)) fun v H1 ⟨r1, d, S1, E1, D1, w1⟩ => ?_
    refine ⟨v, .ty k.ty, .type (tyS d), .type k.ty, isK k d, rfl, .ty _, dq_ty D1, kit_ty k d trivial (dq_nodict D1), ?_⟩
    have e : ([k].any fun k => isK k d) = isK k d := by simp
    rw [e] at w1
    exact wp_ret S1 (.inl rfl) (.bl _) w1
theorem se_isi2 {m : Ex} {k j : Kd} {e : Expr} {kk : Nat} {p1 p2 p3 p4 pos : Pos} (g1 : Gl X "isinstance") (m1 : X.mg "isinstance" = none) (g2 : Gl X k.nm) (m2 : X.mg k.nm = none) (g3 : Gl X j.nm) (m3 : X.mg j.nm = none) (hs : noStar e = true) (he : PE X e (tD X.K XR W (den G m))) :
    PE X (.Call (.Name "isinstance" p1) [e, .Tuple [.Name k.nm p2, .Name j.nm p3] kk p4] [] pos) (tD X.K XR W (den G (.isi m [k, j]))) :=
  PE_mono (pe_callB call_isiT g1 m1 PyProof.Rows.boot_isinstance (pa_cons he (pa_cons (pe_tup (pa_cons (pe_kd g2 m2) (pa_cons (pe_kd g3 m3) pa_nil rfl) rfl)) pa_nil rfl) (star_of hs _)) (by decide) (by decide) (star_of hs _) rfl) fun σ H Q ⟨hid, pa, r, S, w⟩ => by
    refine tD_imp (tD_bnd S (show wp X.K XR W hid pa σ (R1 X.K) (Lv r σ) H (bnd (den G m) (fun x => ret (.bool ([k, j].any fun k => isK k x))) r) _ from w)) fun v H1 ⟨r1, d, S1, E1, D1, w1⟩ => ?_
    refine ⟨by show 2 ≤ sizeLine; decide, fun p np => ?_⟩
    have g : Grow H1 (upd H1 p (.tup [.ty k.ty, .ty j.ty])) := .inr ⟨p, _, np, rfl⟩
    refine ⟨v, p, _, .type (tyS d), [.type k.ty, .type j.ty], (isK k d || isK j d), rfl, upd_same, .cons (.ty _) (.cons (.ty _) .nil), dq_ty (Dp_mono g.sub D1), ?_, ?_⟩
    · have q1 := kit_ty (K := X.K) k d trivial (dq_nodict D1)
      have q2 := kit_ty (K := X.K) j d trivial (dq_nodict D1)
      unfold PySem.W.kitAny
      rw [q1]
      cases isK k d with
      | true => rfl
      | false =>
        simp only [PySem.W.kitAny]
        rw [q2]
        cases isK j d <;> rfl
    · have e : ([k, j].any fun k => isK k d) = (isK k d || isK j d) := by simp
      rw [e] at w1
      exact wp_ret S1 g (.bl _) w1
end
end DL
end
section
set_option maxHeartbeats 200000
set_option maxRecDepth 100000
/-! DS: iterators, comprehensions, calls of defs. -/
namespace DL
open PySem L2
section
variable {X : Cx} {K : PySem.W.Frag} {XR : XRel} {W : WX} {hid : Plc} {pa : Addr} {σ : L2.St} {H : Hp} {r : Evn} {G : Fns}
theorem PI_mono {tg e : Expr} {t t' : TI} (h : PI X tg e t) (m : ∀ σ H R, t' σ H R → t σ H R) : PI X tg e t' := ⟨fun pins s σ H R I q => h.run pins s σ H R I (m σ H R q)⟩
theorem items_seq {P : Plc} {v : V} {d : PyData} {ds : List PyData} (D : Dq K (fz P H) v d) (e : itemsD d = some ds) :
    ∃ a xs, v = .ref a ∧ ((LsK K (fz P H) a xs ∧ DqAll K (fz P H) xs ds) ∨ (SqT K (fz P H) a xs ∧ DqAll K (fz P H) xs ds)) := by
  cases D with
  | lst q1 q2 => cases e; exact ⟨_, _, rfl, .inl ⟨q1, q2⟩⟩
  | tup q1 q2 => cases e; exact ⟨_, _, rfl, .inr ⟨q1, q2⟩⟩
  | _ => cases e
theorem si_over {tg e : Expr} {m : Ex} (he : PE X e (tD X.K XR W (den G m))) : PI X tg e (tDi X.K XR W (denI G (.over m))) :=
  PI_mono (pi_seqD he) fun σ H R ⟨hid, pa, r, S, w⟩ => by
    refine tD_imp (tD_bnd S (show wp X.K XR W hid pa σ (RJ X.K) (Lv r σ) H (bnd (den G m) (fun x => lift (itemsD x)) r) _ from w)) fun v H1 ⟨r1, d, S1, E1, D1, w1⟩ => ?_
    obtain ⟨ds, ez, q⟩ := wp_lift S1 w1
    obtain ⟨a, xs, rfl, z⟩ := items_seq D1 ez
    refine ⟨a, rfl, ?_⟩
    rcases z with ⟨q1, q2⟩ | ⟨q1, q2⟩
    · exact .inl ⟨xs, SqL_fz q1, q _ _ (.inl rfl) ⟨_, jd_list, xs, q1, q2⟩⟩
    · exact .inr ⟨xs, SqT_fz q1, q _ _ (.inl rfl) ⟨_, jd_tup, xs, q1, q2⟩⟩
theorem si_rng {tg b : Expr} {m : Ex} {p pos : Pos} (g : Gl X "range") (hm : X.mg "range" = none) (hs : noStar b = true) (hb : PE X b (tD X.K XR W (den G m))) : PI X tg (.Call (.Name "range" p) [b] [] pos) (tDi X.K XR W (denI G (.rng m))) :=
  PI_mono (pi_range1 g hm (pa_cons hb pa_nil (star_of hs [])) (star_of hs [])) fun σ H R ⟨hid, pa, r, S, w⟩ => by
    refine tD_imp (tD_bnd S (show wp X.K XR W hid pa σ (RJ X.K) (Lv r σ) H (bnd (den G m) _ r) _ from w)) fun v H1 ⟨r1, d, S1, E1, D1, w1⟩ => ?_
    cases d with
    | int j =>
      cases D1
      obtain ⟨hl, w1⟩ := wp_if (show wp X.K XR W hid pa σ (RJ X.K) (Lv r1 σ) H1 ((if -(2 ^ 62) ≤ j ∧ j < 2 ^ 62 then ret (rngL 0 j) else fun _ => .bad) r1) _ from w1)
      have jd := jd_rng (K := X.K) 0 j
      rw [Int.sub_zero] at jd
      exact ⟨j, rfl, hl.1, hl.2, wp_ret (R := RJ X.K) S1 (.inl rfl) ⟨_, jd, trivial⟩ w1⟩
    | _ => exact w1.elim
theorem si_rng2 {tg a b : Expr} {m1 m2 : Ex} {p pos : Pos} (g : Gl X "range") (hm : X.mg "range" = none) (hsa : noStar a = true) (hs : noStar b = true) (ha : PE X a (tD X.K XR W (den G m1))) (hb : PE X b (tD X.K XR W (den G m2))) :
    PI X tg (.Call (.Name "range" p) [a, b] [] pos) (tDi X.K XR W (denI G (.rng2 m1 m2))) :=
  PI_mono (pi_range2 g hm (pa_cons ha (pa_cons hb pa_nil (star_of hs [])) (star_of hsa [b])) (by rw [star_of hsa, star_of hs]; rfl) (star_of hs [])) fun σ H R ⟨hid, pa, r, S, w⟩ => by
    refine tD_imp (tD_bnd2 S (show wp X.K XR W hid pa σ (RJ X.K) (Lv r σ) H (bnd (den G m1) (fun x => bnd (den G m2) _) r) _ from w)) fun v H1 h1 => tD_imp h1 fun u H2 ⟨r2, d, e, S2, D1, D2, w2⟩ => ?_
    cases d with
    | int i =>
      cases e with
      | int j =>
        cases D1; cases D2
        obtain ⟨hl, w2⟩ := wp_if (show wp X.K XR W hid pa σ (RJ X.K) (Lv r2 σ) H2 ((if -(2 ^ 62) ≤ i ∧ i < 2 ^ 62 ∧ -(2 ^ 62) ≤ j ∧ j < 2 ^ 62 then ret (rngL i j) else fun _ => .bad) r2) _ from w2)
        exact ⟨i, j, rfl, hl, wp_ret (R := RJ X.K) S2 (.inl rfl) ⟨_, jd_rng i j, trivial⟩ w2⟩
      | _ => exact w2.elim
    | _ => exact w2.elim
theorem si_enum {b : Expr} {m : Ex} {p pos tpos : Pos} {elts : List Expr} {kk : Nat} (g : Gl X "enumerate") (hm : X.mg "enumerate" = none) (hs : noStar b = true) (hb : PE X b (tD X.K XR W (den G m))) : PI X (.Tuple elts kk tpos) (.Call (.Name "enumerate" p) [b] [] pos) (tDi X.K XR W (denI G (.enum m))) :=
  PI_mono (pi_enumD g hm (pa_cons hb pa_nil (star_of hs [])) (star_of hs [])) fun σ H R ⟨hid, pa, r, S, w⟩ => by
    refine tD_imp (tD_bnd S (show wp X.K XR W hid pa σ (RJ X.K) (Lv r σ) H (bnd (den G m) (fun x => bnd (lift (itemsD x)) fun ds => ret (enumFrom 0 ds)) r) _ from w)) fun v H1 ⟨r1, d, S1, E1, D1, w1⟩ => ?_
    cases ez : itemsD d with
    | none => rw [ez] at w1; exact w1.elim
    | some ds =>
    rw [ez] at w1
    have w1 : wp X.K XR W hid pa σ (RJ X.K) (Lv r1 σ) H1 (ret (enumFrom 0 ds) r1) (fun J _ _ H' => R J H') := w1
    obtain ⟨a, xs, rfl, z⟩ := items_seq D1 ez
    refine ⟨a, xs, rfl, ?_⟩
    rcases z with ⟨q1, q2⟩ | ⟨q1, q2⟩
    · exact .inl ⟨SqL_fz q1, wp_ret (R := RJ X.K) S1 (.inl rfl) ⟨_, jd_enum, xs, q1, q2⟩ w1⟩
    · exact .inr ⟨SqT_fz q1, wp_ret (R := RJ X.K) S1 (.inl rfl) ⟨_, jd_enumT (DpAll_len q2), q1, q2⟩ w1⟩
theorem si_zip {a b : Expr} {m1 m2 : Ex} {p pos tpos : Pos} {elts : List Expr} {kk : Nat} (g : Gl X "zip") (hm : X.mg "zip" = none) (hsa : noStar a = true) (hs : noStar b = true) (ha : PE X a (tD X.K XR W (den G m1))) (hb : PE X b (tD X.K XR W (den G m2))) :
    PI X (.Tuple elts kk tpos) (.Call (.Name "zip" p) [a, b] [] pos) (tDi X.K XR W (denI G (.zip m1 m2))) :=
  PI_mono (RZ.pi_zipA g hm (pa_cons ha (pa_cons hb pa_nil (star_of hs [])) (star_of hsa [b])) (star_of hsa [b]) (by rw [star_of hs]; rfl)) fun σ H R ⟨hid, pa, r, S, w⟩ => by
    refine tD_imp (tD_bnd2 (f := fun x y => lift (zipD x y)) S w) fun v H1 h1 => tD_imp h1 fun u H2 ⟨r2, d, e, S2, D1, D2, w2⟩ => ?_
    obtain ⟨ds, ez, q⟩ := wp_lift S2 w2
    unfold zipD at ez
    split at ez
    · cases ez
      cases D1 with
      | lst q1 q2 =>
        cases D2 with
        | lst q3 q4 => exact ⟨_, _, _, _, rfl, .inl ⟨SqL_fz q1, SqL_fz q3, q _ _ (.inl rfl) ⟨_, jd_zip, ⟨_, q1, q2⟩, _, q3, q4⟩⟩⟩
    · cases ez
      cases D1 with
      | tup q1 q2 =>
        cases D2 with
        | tup q3 q4 => exact ⟨_, _, _, _, rfl, .inr ⟨SqT_fz q1, SqT_fz q3, q _ _ (.inl rfl) ⟨_, jd_zipT, ⟨_, q1, q2⟩, _, q3, q4⟩⟩⟩
    · cases ez
/-! ### comprehensions -/
theorem compD_noexc {own : List Nat} {tg : Tg} {c : D Bool} {e : D PyData} {xs : List PyData} {k : Nat} {fs : List PyData} {r' : Evn} : compD own tg c e xs r ≠ .exc k fs r' := by
  intro h
  unfold compD at h
  split at h
  · unfold bnd nox at h
    cases em : mapL (stepC own tg c e) xs r with
    | ok a b => rw [em] at h; cases h
    | exc _ _ _ => rw [em] at h; cases h
    | bad => rw [em] at h; cases h
  · cases h
section
variable {own : List Nat} {t : Tg} {ci : Option Ex} {ee : Ex} {it : Itr} {elt iter tg : Expr} {ifs : List Expr} {scope : Scope} {pos : Pos}
theorem ownMap (N : List Str) (own : List Nat) : (own.map fun i => ((N.getD i "" : Str), i)).map (·.2) = own := by
  rw [List.map_map]
  exact List.map_id _
theorem sc_lc (hc : X.calm = true) (nd : X.N.Nodup) (hown : ∀ i ∈ tgSlots t, i ∈ own) (hb : blkC X.N X.env.scope scope (own.map fun i => ((X.N.getD i "" : Str), i)) = true)
    (hi : PI X tg iter (tDi X.K XR W (denI G it))) (hg : chkTg X.N (relS scope X.env.scope) (fun x => scope.names.lookup x == some .cell) t tg = true)
    (ht : ∀ (s : Shared) (H : Hp) (C : Addr) (cl : List (Str × Addr)) (fp : List Addr), PTs (X.blk s H scope (compEnvC scope cl C X.env) fp) ifs (tDt X.K XR W0 (denC G ci)))
    (he : ∀ (s : Shared) (H : Hp) (C : Addr) (cl : List (Str × Addr)) (fp : List Addr), PE (X.blk s H scope (compEnvC scope cl C X.env) fp) elt (tD X.K XR W0 (den G ee))) (hs : ∀ x, foldedSetIterable iter X.env x = pure x) :
    PE X (.ListComp elt [⟨tg, iter, ifs, 0⟩] scope pos) (tLc (tDi X.K XR W (denI G it)) (gD X.K t) (tDt X.K XR W0 (denC G ci)) (tD X.K XR W0 (den G ee)) own) := by
  have q := pe_lc (g := gD X.K t) (own := own.map fun i => ((X.N.getD i "" : Str), i)) (pos := pos) hc nd hi (blkOk_by hb) (fun s H C cl fp => sound_Tg (X := X.blk s H scope (compEnvC scope cl C X.env) fp) hc nd (fun x h => h) t tg hg) ht he hs
  rw [ownMap] at q
  exact q
theorem se_comp (h : PE X (.ListComp elt [⟨tg, iter, ifs, 0⟩] scope pos) (tLc (tDi X.K XR W (denI G it)) (gD X.K t) (tDt X.K XR W0 (denC G ci)) (tD X.K XR W0 (den G ee)) own)) (hown : ∀ i ∈ tgSlots t, i ∈ own) :
    PE X (.ListComp elt [⟨tg, iter, ifs, 0⟩] scope pos) (tD X.K XR W (den G (.comp t it ci ee own))) :=
  PE_mono h fun σ H Q ⟨hid, pa, r, S, w⟩ => by
    have w : wp X.K XR W hid pa σ (R1 X.K) (Lv r σ) H (bnd (denI G it) (fun xs => bnd (compD own t (denC G ci) (den G ee) xs) fun ys => ret (.list ys)) r) (fun v _ _ H' => Q v H') := w
    refine lc_core S hown (wp_mono (wp_bnd (R := RJ X.K) w) fun J xs r1 H1 S1 E1 D1 w1 => ?_)
    unfold bnd at w1
    cases ec : compD own t (denC G ci) (den G ee) xs r1 with
    | bad => rw [ec] at w1; exact w1.elim
    | exc k fs r2 => exact absurd ec compD_noexc
    | ok ys r2 =>
    rw [ec] at w1
    refine ⟨ys, r2, rfl, fun D H' acc nD hD S2 E2 D2 => ?_⟩
    have w1 : wp X.K XR W hid pa σ (R1 X.K) (Lv r1 σ) H1 (.ok (.list ys) r2) (fun v _ _ H' => Q v H') := w1
    have sb : Sub (fz (fun x => (hid x ∨ x = D) ∨ Lv r2 σ x) H') (fz (fun x => hid x ∨ Lv r2 σ x) H') := sub_plc fun x z => z.elim (fun z => .inl (.inl z)) .inr
    refine w1 (.ref D) H' (S2.less fun x z => .inl z) E2 (.lst (.inl (.inl (fz_some.mpr ⟨fun z => ?_, hD⟩))) (DpAll_mono sb D2))
    rcases z with z | z
    · exact S1.hd D z nD
    · obtain ⟨_, _, z⟩ := S2.lv_some z
      exact z (.inr rfl)
theorem sf_comp (h : PE X (.ListComp elt [⟨tg, iter, ifs, 0⟩] scope pos) (tLc (tDi X.K XR W (denI G it)) (gD X.K t) (tDt X.K XR W0 (denC G ci)) (tD X.K XR W0 (den G ee)) own)) (hown : ∀ i ∈ tgSlots t, i ∈ own) :
    PE X (.ListComp elt [⟨tg, iter, ifs, 0⟩] scope pos) (tF X.K XR W (denF G (.comp t it ci ee own))) :=
  PE_mono h fun σ H Q ⟨hid, pa, r, S, w⟩ => by
    have w : wpF X.K XR W hid pa σ (Lv r σ) H (bnd (denI G it) (fun xs => compD own t (denC G ci) (den G ee) xs) r) (fun p _ H' => Q (.ref p) H') := w
    refine lc_core S hown ?_
    unfold bnd at w
    cases ei : denI G it r with
    | bad => rw [ei] at w; exact w.elim
    | exc k fs r1 => rw [ei] at w; exact w
    | ok xs r1 =>
    rw [ei] at w
    intro J H1 S1 E1 D1
    have w := wpF_later w E1
    have w : wpF X.K XR W hid pa σ (Lv r1 σ) H1 (compD own t (denC G ci) (den G ee) xs r1) (fun p _ H' => Q (.ref p) H') := w
    cases ec : compD own t (denC G ci) (den G ee) xs r1 with
    | bad => rw [ec] at w; exact w.elim
    | exc k fs r2 => exact absurd ec compD_noexc
    | ok ys r2 =>
    rw [ec] at w
    exact ⟨ys, r2, rfl, fun D H' acc nD hD S2 E2 D2 => w D acc H' nD hD S2 E2 D2⟩
end
theorem sf_lst {ms : List Ex} {es : List Expr} {pos : Pos} (h : PA X es (tDs X.K XR W (denL G ms))) : PE X (.List es pos) (tF X.K XR W (denF G (.lst ms))) :=
  PE_mono (pe_lst h) fun σ H Q ⟨hid, pa, r, S, w⟩ => by
    have w : wpF X.K XR W hid pa σ (Lv r σ) H (bnd (denL G ms) (fun ds => if ds.length ≤ sizeLine then ret ds else fun _ => .bad) r) (fun p _ H' => Q (.ref p) H') := w
    refine ⟨hid, pa, r, S, ?_⟩
    unfold bnd at w
    cases ei : denL G ms r with
    | bad => rw [ei] at w; exact w.elim
    | exc k fs r1 => rw [ei] at w; exact w
    | ok ds r1 =>
    rw [ei] at w
    intro vs H1 S1 E1 D1
    have w := wpF_later w E1
    have w : wpF X.K XR W hid pa σ (Lv r1 σ) H1 ((if ds.length ≤ sizeLine then ret ds else fun _ => .bad) r1) (fun p _ H' => Q (.ref p) H') := w
    by_cases hl : ds.length ≤ sizeLine
    · rw [if_pos hl] at w
      refine ⟨by rw [DpAll_len D1]; exact hl, fun p np => ?_⟩
      have S2 := S1.new (o := .lst vs) np
      refine w p vs _ np upd_same ⟨S2.len, ?_, ?_, ?_, S2.inj⟩ (Ext.mk_new np) ?_
      · intro i d e
        obtain ⟨v, h1, h2⟩ := S1.pu i d e
        exact ⟨v, h1, Dp_mono (sub_hide np) h2⟩
      · intro i t ds' e
        obtain ⟨a, ws, h1, h2, h3, h4, h5⟩ := S1.ow i t ds' e
        exact ⟨a, ws, h1, by rw [upd_ne (ne_of_none h2 np)]; exact h2, fun z => z.elim h3 (ne_of_none h2 np), DpAll_mono (sub_hide np) h4, h5⟩
      · intro a z
        rcases z with z | z
        · exact S2.hd a z
        · rw [z, upd_same]; exact fun z => nomatch z
      · exact DpAll_mono (sub_hide np) D1
    · rw [if_neg hl] at w; exact w.elim
where
  sub_hide {hid : Plc} {L : Plc} {H : Hp} {p : Addr} {o : HO} (np : H p = none) : Sub (fz (fun x => hid x ∨ L x) H) (fz (fun x => (hid x ∨ x = p) ∨ L x) (upd H p o)) := fun a u e => by
    obtain ⟨n, e⟩ := fz_some.mp e
    have ne := ne_of_none e np
    exact fz_some.mpr ⟨fun z => z.elim (fun z => z.elim (fun z => n (.inl z)) ne) (fun z => n (.inr z)), by rw [upd_ne ne]; exact e⟩
end
end DL
end
section
set_option maxHeartbeats 200000
set_option maxRecDepth 100000
/-! DT: calls of defs in the text. -/
namespace DL
open PySem L2
section
variable {X : Cx} {K : PySem.W.Frag} {XR : XRel} {W : WX} {hid : Plc} {pa : Addr} {σ : L2.St} {H : Hp} {r : Evn} {G : Fns}
def tA1 (K : PySem.W.Frag) (XR : XRel) (W : WX) (G : Fns) : Ar → TE
  | .val e => tD K XR W (den G e)
  | .ref i => tVar i
  | .fre e => tF K XR W (denF G e)
theorem tAr_cons (a : Ar) (l : List Ar) : tAr K XR W G (a :: l) = tCons (tA1 K XR W G a) (tAr K XR W G l) := by cases a <;> rfl
inductive ArE (X : Cx) (XR : XRel) (W : WX) (G : Fns) : List Ar → List Expr → Prop
  | nil : ArE X XR W G [] []
  | cons {a : Ar} {e : Expr} {l : List Ar} {es : List Expr} : PE X e (tA1 X.K XR W G a) → noStar e = true → ArE X XR W G l es → ArE X XR W G (a :: l) (e :: es)
theorem ArE.pax : ∀ {l : List Ar} {es : List Expr}, ArE X XR W G l es → PA X es (tAr X.K XR W G l)
  | _, _, .nil => pa_nil
  | _, _, .cons (a := a) (l := l) h s t => by
    rw [tAr_cons]
    exact pa_cons h (ArE.pax t) (star_of s _)
theorem ArE.pk : ∀ {l : List Ar} {ks : List Keyword}, ArE X XR W G l (ks.map (·.value)) → L2.PK X ks (tAr X.K XR W G l)
  | l, [], h => by cases h; exact pk_nil
  | l, ⟨nm, e, p⟩ :: ks, h => by
    cases h with
    | cons h s t =>
      rw [tAr_cons]
      exact pk_cons h (ArE.pk t)
theorem ArE.star {l : List Ar} {es : List Expr} (h : ArE X XR W G l es) : ∀ e ∈ es, noStar e = true := by
  induction h with
  | nil => exact fun e z => nomatch z
  | cons h s t ih =>
    intro e z
    rcases List.mem_cons.mp z with rfl | z
    · exact s
    · exact ih e z
theorem ArE.len {l : List Ar} {es : List Expr} (h : ArE X XR W G l es) : l.length = es.length := by
  induction h with
  | nil => rfl
  | cons h s t ih => simp [ih]
theorem ArE.split : ∀ {es fs : List Expr} {l : List Ar}, ArE X XR W G l (es ++ fs) → ∃ l1 l2, l = l1 ++ l2 ∧ ArE X XR W G l1 es ∧ ArE X XR W G l2 fs
  | [], fs, l, h => ⟨[], l, rfl, .nil, h⟩
  | e :: es, fs, l, h => by
    cases h with
    | cons h s t =>
      obtain ⟨l1, l2, q, h1, h2⟩ := ArE.split t
      exact ⟨_ :: l1, l2, by rw [q]; rfl, .cons h s h1, h2⟩
theorem Ext.more {L L' Z : Plc} {H H' : Hp} (e : Ext L H L' H') (n : ∀ x, Z x → H x = none) : Ext L H (fun x => L' x ∨ Z x) H' := ⟨e.keep, fun a z => z.elim (e.liv a) fun z => .inr (n a z), e.dom⟩
/-- what is behind a call, as a value -/
theorem rv_dq {rv : RV} {v : V} {H2 : Hp} {r2 : Evn} (nh : ∀ a, hid a → H a ≠ none) (S : Sim K (fun x => hid x ∨ FrV rv v x) pa r2 σ H2) (R : RvR K (fun x => (hid x ∨ FrV rv v x) ∨ Lv r2 σ x) H H2 v rv) : Dq K (fz (fun x => hid x ∨ Lv r2 σ x) H2) v rv.d := by
  cases rv with
  | pu d => exact Dp_mono (sub_plc fun x z => z.elim (fun z => .inl (.inl z)) .inr) R
  | fr ds =>
    obtain ⟨p, ws, e1, e2, e3, e4⟩ := R
    subst e1
    refine .lst (.inl (.inl (fz_some.mpr ⟨fun z => ?_, e3⟩))) (DpAll_mono (sub_plc fun x z => z.elim (fun z => .inl (.inl z)) .inr) e4)
    rcases z with z | z
    · exact nh p z e2
    · obtain ⟨_, _, z⟩ := S.lv_some z
      exact z (.inr rfl)
theorem call_args {f : Nat} {kw : List Nat} {args : List Ar} {n : Nat} {Q : VK} (hX : ∀ c fs F F' C d H, Sub F F' → XR c fs F C d H → XR c fs F' C d H) (hn : ∀ vs : List V, vs.length = args.length → (arr kw vs).length = n) (S : Sim K hid pa r σ H)
    (w : match bnd (denA G args) (callA G f kw) r with
      | .ok rv r2 => ∀ Hm, (∀ a, hid a → Hm a ≠ none) → (∀ p, Hm p = none → H p = none) → ∀ v H2, Sim K (fun x => hid x ∨ FrV rv v x) pa r2 σ H2 → Ext (Lv r σ) H (Lv r2 σ) H2 → RvR K (fun x => (hid x ∨ FrV rv v x) ∨ Lv r2 σ x) Hm H2 v rv → Q v H2
      | .exc c fs r2 => ∀ C d H2, Sim K hid pa r2 σ H2 → Ext (Lv r σ) H (Lv r2 σ) H2 → XR c fs (fz (fun x => hid x ∨ Lv r2 σ x) H2) C d H2 → W C d σ H2
      | .bad => False) : tAr K XR W G args σ H fun vs H1 => (arr kw vs).length = n ∧ spD K XR (G f) (arr kw vs) H1 Q (fun C d H' => W C d σ H') := by
  unfold bnd at w
  refine tAr_imp (Q := fun vs H1 => spD K XR (G f) (arr kw vs) H1 Q (fun C d H' => W C d σ H')) ?_ fun vs H1 hl q => ⟨hn vs hl, q⟩
  refine denA_tAr hX (Q := fun vs l r' H' => match callA G f kw l r' with
      | .ok rv r2 => ∀ Hm, (∀ a, hid a → Hm a ≠ none) → (∀ p, Hm p = none → H p = none) → ∀ v H2, Sim K (fun x => hid x ∨ FrV rv v x) pa r2 σ H2 → Ext (Lv r σ) H (Lv r2 σ) H2 → RvR K (fun x => (hid x ∨ FrV rv v x) ∨ Lv r2 σ x) Hm H2 v rv → Q v H2
      | .exc c fs r2 => ∀ C d H2, Sim K hid pa r2 σ H2 → Ext (Lv r σ) H (Lv r2 σ) H2 → XR c fs (fz (fun x => hid x ∨ Lv r2 σ x) H2) C d H2 → W C d σ H2
      | .bad => False) S ?_ fun vs l r' H1 S1 E1 n1 _ A1 hq => ?_
  · cases ea : denA G args r with
    | bad => rw [ea] at w; exact w.elim
    | exc c fs r2 => rw [ea] at w; exact w
    | ok l r1 => rw [ea] at w; exact fun vs H1 _ _ _ _ _ => w
  · refine call_core hX S1 A1 ?_
    cases ec : callA G f kw l r' with
    | bad => rw [ec] at hq; exact hq.elim
    | exc c fs r2 =>
      rw [ec] at hq
      exact fun C d H2 S2 E2 x => hq C d H2 S2 ((E1.more n1).trans E2) x
    | ok rv r2 =>
      rw [ec] at hq
      exact fun v H2 S2 E2 R => hq H1 (fun a z => S1.hd a (.inl z)) (fun p z => back_none E1 z) v H2 S2 ((E1.more n1).trans E2) R
theorem call_val {f : Nat} {kw : List Nat} {args : List Ar} {n : Nat} {Q : VK} (hX : ∀ c fs F F' C d H, Sub F F' → XR c fs F C d H → XR c fs F' C d H) (hn : ∀ vs : List V, vs.length = args.length → (arr kw vs).length = n)
    (h : tD K XR W (den G (.call f args kw)) σ H Q) : tAr K XR W G args σ H fun vs H1 => (arr kw vs).length = n ∧ spD K XR (G f) (arr kw vs) H1 Q (fun C d H' => W C d σ H') := by
  obtain ⟨hid, pa, r, S, w⟩ := h
  refine call_args hX hn S ?_
  have w : wp K XR W hid pa σ (R1 K) (Lv r σ) H (bnd (denA G args) (fun l => bnd (callA G f kw l) fun v => ret v.d) r) (fun v _ _ H' => Q v H') := w
  rw [← bnd_assoc] at w
  generalize bnd (denA G args) (callA G f kw) = m at w ⊢
  unfold bnd at w
  cases em : m r with
  | bad => rw [em] at w; exact w
  | exc c fs r2 => rw [em] at w; exact w
  | ok rv r2 =>
    rw [em] at w
    exact fun Hm nh _ v H2 S2 E2 R => w v H2 (S2.less fun x z => .inl z) E2 (rv_dq nh S2 R)
theorem call_fre {f : Nat} {kw : List Nat} {args : List Ar} {n : Nat} {Q : VK} (hX : ∀ c fs F F' C d H, Sub F F' → XR c fs F C d H → XR c fs F' C d H) (hn : ∀ vs : List V, vs.length = args.length → (arr kw vs).length = n)
    (h : tF K XR W (denF G (.call f args kw)) σ H Q) : tAr K XR W G args σ H fun vs H1 => (arr kw vs).length = n ∧ spD K XR (G f) (arr kw vs) H1 Q (fun C d H' => W C d σ H') := by
  obtain ⟨hid, pa, r, S, w⟩ := h
  refine call_args hX hn S ?_
  have w : wpF K XR W hid pa σ (Lv r σ) H (bnd (denA G args) (fun l => bnd (callA G f kw l) fun v => match v with | .fr ds => ret ds | .pu _ => fun _ => .bad) r) (fun p _ H' => Q (.ref p) H') := w
  rw [← bnd_assoc] at w
  generalize bnd (denA G args) (callA G f kw) = m at w ⊢
  unfold bnd at w
  cases em : m r with
  | bad => rw [em] at w; exact w
  | exc c fs r2 => rw [em] at w; exact w
  | ok rv r2 =>
    rw [em] at w
    cases rv with
    | pu d => exact w.elim
    | fr ds =>
      intro Hm nh hn v H2 S2 E2 ⟨p, ws, e1, e2, e3, e4⟩
      subst e1
      have eq1 : ∀ x, (hid x ∨ x = p) → (hid x ∨ FrV (.fr ds) (.ref p) x) := fun x z => z.imp id fun z => by rw [z]; rfl
      have eq2 : ∀ x, (hid x ∨ FrV (.fr ds) (.ref p) x) → (hid x ∨ x = p) := fun x z => z.imp id fun z => (V.ref.inj (show V.ref p = V.ref x from z)).symm
      exact w p ws H2 (hn p e2) e3 (S2.less eq1) E2 (DpAll_mono (sub_plc fun x z => z.imp (eq1 x) id) e4)
theorem arr_len {kw : List Nat} {k : Nat} (h : kw.all (fun i => decide (i < k)) = true) (h0 : kw ≠ []) (vs : List V) (hl : vs.length = k) : (arr kw vs).length = kw.length := by
  unfold arr
  rw [if_neg h0]
  clear h0
  induction kw with
  | nil => rfl
  | cons i kw ih =>
    have h' : (decide (i < k) && kw.all fun i => decide (i < k)) = true := h
    obtain ⟨h1, h2⟩ := Bool.and_eq_true_iff.mp h'
    have h1 := of_decide_eq_true h1
    have : vs[i]? = some (vs[i]'(by omega)) := List.getElem?_eq_getElem (by omega)
    simp [List.filterMap_cons, this, ih h2]
section
variable {T : Tab} {f : Nat} {x : Str} {a : Addr} {fd : FuncData} {ps : List Str} {k : Nat} {p pos : Pos} {args : List Ar} {es : List Expr} {t : TE}
/-- f(e, ..) by any reading that the arguments' reading serves -/
theorem sc_call (F : FnFact X XR G T f x a fd ps k) (hg : X.A.guards = some []) (tk : Takes X W) (gl : Gl X x) (hdb : (x == ("__debug__" : Str)) = false) (hA : ArE X XR W G args es)
    (ht : ∀ σ H Q, t σ H Q → tAr X.K XR W G args σ H fun vs H1 => (arr [] vs).length = ps.length ∧ spD X.K XR (G f) (arr [] vs) H1 Q (fun C d H' => W C d σ H')) : PE X (.Call (.Name x p) es [] pos) t :=
  PE_mono (pe_G F hg tk gl hdb (fun e he rest => star_of (hA.star e he) rest) hA.pax fun e0 σ H Q q => by
    subst e0
    cases hA
    exact q) fun σ H Q q => ht σ H Q q
theorem sc_callK {ks : List Keyword} {kw : List Nat} (F : FnFact X XR G T f x a fd ps k) (hg : X.A.guards = some []) (tk : Takes X W) (gl : Gl X x) (hdb : (x == ("__debug__" : Str)) = false) (hk : ks.all (·.arg.isSome) = true)
    (hm : (f, es.length, ks.filterMap (·.arg), kw) ∈ T.shapes) (hA : ArE X XR W G args (es ++ ks.map (·.value)))
    (ht : ∀ σ H Q, t σ H Q → tAr X.K XR W G args σ H fun vs H1 => (arr kw vs).length = ps.length ∧ spD X.K XR (G f) (arr kw vs) H1 Q (fun C d H' => W C d σ H')) : PE X (.Call (.Name x p) es ks pos) t := by
  obtain ⟨l1, l2, e, h1, h2⟩ := hA.split
  subst e
  refine PE_mono (pe_GK F hg tk gl hdb (fun e he rest => star_of (h1.star e he) rest) hk hm h1.pax (fun e0 σ H Q q => ?_) h2.pk fun σ H Q q => ?_) fun σ H Q q => ?_
  · subst e0
    cases h1
    exact q
  · refine tAr_imp q fun ws H1 hl h => ⟨?_, h⟩
    rw [hl, h2.len, List.length_map]
  · have q := tAr_app (ht σ H Q q)
    rw [h1.len] at q
    exact q
end
end
end DL
end
section
set_option maxHeartbeats 200000
set_option maxRecDepth 100000
/-! DU: what the check tells. -/
namespace DL
open PySem L2
section
variable {T : Tab} {N : List Str} {sc : Scope} {e : Expr}
theorem inv_cst {c : Cn} (h : chkE T N sc (.cst c) e = true) : ∃ k j p, e = .Constant k j p ∧ cnB c k = true := by
  cases e <;> first | (exact Bool.noConfusion h) | skip
  exact ⟨_, _, _, rfl, h⟩
theorem inv_var {i : Nat} (h : chkE T N sc (.var i) e = true) : ∃ x p, e = .Name x p ∧ N[i]? = some x ∧ visB sc x = true ∧ okName x = true := by
  cases e <;> first | (exact Bool.noConfusion h) | skip
  rename_i x p
  have h' : (decide (N[i]? = some x) && visB sc x && okName x) = true := h
  simp only [Bool.and_eq_true, decide_eq_true_eq] at h'
  exact ⟨x, p, rfl, h'.1.1, h'.1.2, h'.2⟩
theorem inv_glb {x : Str} {c : Cn} (h : chkE T N sc (.glb x c) e = true) : ∃ p, e = .Name x p ∧ glbl sc x = true ∧ (x, c) ∈ T.cons := by
  cases e <;> first | (exact Bool.noConfusion h) | skip
  rename_i y p
  have h' : (decide (x = y) && glbl sc x && decide ((x, c) ∈ T.cons)) = true := h
  simp only [Bool.and_eq_true, decide_eq_true_eq] at h'
  exact ⟨p, by rw [h'.1.1], h'.1.2, h'.2⟩
theorem inv_tup {es : List Ex} (h : chkE T N sc (.tup es) e = true) : ∃ xs k p, e = .Tuple xs k p ∧ chkL T N sc es xs = true := by
  cases e <;> first | (exact Bool.noConfusion h) | skip
  exact ⟨_, _, _, rfl, h⟩
theorem inv_lst {es : List Ex} (h : chkE T N sc (.lst es) e = true) : ∃ xs p, e = .List xs p ∧ chkL T N sc es xs = true := by
  cases e <;> first | (exact Bool.noConfusion h) | skip
  exact ⟨_, _, rfl, h⟩
theorem inv_bin {o : Bop} {a b : Ex} (h : chkE T N sc (.bin o a b) e = true) : ∃ x y p, e = .BinOp x o.op y p ∧ chkE T N sc a x = true ∧ chkE T N sc b y = true := by
  cases e <;> first | (exact Bool.noConfusion h) | skip
  rename_i x op y p
  have h' : (decide (o.op = op) && chkE T N sc a x && chkE T N sc b y) = true := h
  simp only [Bool.and_eq_true, decide_eq_true_eq] at h'
  exact ⟨x, y, p, by rw [h'.1.1], h'.1.2, h'.2⟩
theorem inv_neg {a : Ex} (h : chkE T N sc (.neg a) e = true) : ∃ x p, e = .UnaryOp .USub x p ∧ chkE T N sc a x = true := by
  cases e <;> first | (exact Bool.noConfusion h) | skip
  rename_i op x p
  cases op <;> first | (exact Bool.noConfusion h) | skip
  exact ⟨x, p, rfl, h⟩
theorem inv_nt {a : Ex} (h : chkE T N sc (.nt a) e = true) : ∃ x p, e = .UnaryOp .Not x p ∧ chkE T N sc a x = true := by
  cases e <;> first | (exact Bool.noConfusion h) | skip
  rename_i op x p
  cases op <;> first | (exact Bool.noConfusion h) | skip
  exact ⟨x, p, rfl, h⟩
theorem inv_cmp {o : Cop} {a b : Ex} (h : chkE T N sc (.cmp o a b) e = true) : ∃ x y p, e = .Compare x [o.op] [y] p ∧ noMark y = true ∧ chkE T N sc a x = true ∧ chkE T N sc b y = true := by
  cases e <;> first | (exact Bool.noConfusion h) | skip
  rename_i x ops ys p
  match ops, ys, h with
  | [op], [y], h =>
    have h' : (decide (o.op = op) && noMark y && chkE T N sc a x && chkE T N sc b y) = true := h
    simp only [Bool.and_eq_true, decide_eq_true_eq] at h'
    exact ⟨x, y, p, by rw [h'.1.1.1], h'.1.1.2, h'.1.2, h'.2⟩
theorem inv_chn {o1 o2 : Cop} {a b c : Ex} (h : chkE T N sc (.chn o1 o2 a b c) e = true) : ∃ x y z p, e = .Compare x [o1.op, o2.op] [y, z] p ∧ noMark z = true ∧ chkE T N sc a x = true ∧ chkE T N sc b y = true ∧ chkE T N sc c z = true := by
  cases e <;> first | (exact Bool.noConfusion h) | skip
  rename_i x ops ys p
  match ops, ys, h with
  | [op, oq], [y, z], h =>
    have h' : (decide (o1.op = op) && decide (o2.op = oq) && noMark y && noMark z && chkE T N sc a x && chkE T N sc b y && chkE T N sc c z) = true := h
    simp only [Bool.and_eq_true, decide_eq_true_eq] at h'
    exact ⟨x, y, z, p, by rw [h'.1.1.1.1.1.1, h'.1.1.1.1.1.2], h'.1.1.1.2, h'.1.1.2, h'.1.2, h'.2⟩
theorem inv_an {a b : Ex} (h : chkE T N sc (.an a b) e = true) : ∃ x y r p, e = .BoolOp .And (x :: y :: r) p ∧ chkE T N sc a x = true ∧ ((r = [] ∧ chkE T N sc b y = true) ∨ (r ≠ [] ∧ chkE T N sc b (.BoolOp .And (y :: r) p) = true)) := by
  cases e <;> first | (exact Bool.noConfusion h) | skip
  rename_i op xs p
  match op, xs, h with
  | .And, x :: y :: [], h =>
    have h' : (chkE T N sc a x && chkE T N sc b y) = true := h
    obtain ⟨h1, h2⟩ := Bool.and_eq_true_iff.mp h'
    exact ⟨x, y, [], p, rfl, h1, .inl ⟨rfl, h2⟩⟩
  | .And, x :: y :: z :: r, h =>
    have h' : (chkE T N sc a x && chkE T N sc b (.BoolOp .And (y :: z :: r) p)) = true := h
    obtain ⟨h1, h2⟩ := Bool.and_eq_true_iff.mp h'
    exact ⟨x, y, z :: r, p, rfl, h1, .inr ⟨(fun z => nomatch z), h2⟩⟩
theorem inv_orr {a b : Ex} (h : chkE T N sc (.orr a b) e = true) : ∃ x y r p, e = .BoolOp .Or (x :: y :: r) p ∧ chkE T N sc a x = true ∧ ((r = [] ∧ chkE T N sc b y = true) ∨ (r ≠ [] ∧ chkE T N sc b (.BoolOp .Or (y :: r) p) = true)) := by
  cases e <;> first | (exact Bool.noConfusion h) | skip
  rename_i op xs p
  match op, xs, h with
  | .Or, x :: y :: [], h =>
    have h' : (chkE T N sc a x && chkE T N sc b y) = true := h
    obtain ⟨h1, h2⟩ := Bool.and_eq_true_iff.mp h'
    exact ⟨x, y, [], p, rfl, h1, .inl ⟨rfl, h2⟩⟩
  | .Or, x :: y :: z :: r, h =>
    have h' : (chkE T N sc a x && chkE T N sc b (.BoolOp .Or (y :: z :: r) p)) = true := h
    obtain ⟨h1, h2⟩ := Bool.and_eq_true_iff.mp h'
    exact ⟨x, y, z :: r, p, rfl, h1, .inr ⟨(fun z => nomatch z), h2⟩⟩
theorem inv_ite {c a b : Ex} (h : chkE T N sc (.ite c a b) e = true) : ∃ t x y p, e = .IfExp t x y p ∧ chkE T N sc c t = true ∧ chkE T N sc a x = true ∧ chkE T N sc b y = true := by
  cases e <;> first | (exact Bool.noConfusion h) | skip
  rename_i t x y p
  have h' : (chkE T N sc c t && chkE T N sc a x && chkE T N sc b y) = true := h
  simp only [Bool.and_eq_true] at h'
  exact ⟨t, x, y, p, rfl, h'.1.1, h'.1.2, h'.2⟩
theorem inv_idx {a i : Ex} (h : chkE T N sc (.idx a i) e = true) : ∃ x y p, e = .Subscript x y p ∧ chkE T N sc a x = true ∧ chkE T N sc i y = true := by
  cases e <;> first | (exact Bool.noConfusion h) | skip
  rename_i x y p
  have h' : (chkE T N sc a x && chkE T N sc i y) = true := h
  obtain ⟨h1, h2⟩ := Bool.and_eq_true_iff.mp h'
  exact ⟨x, y, p, rfl, h1, h2⟩
theorem inv_itm {i : Nat} {m : Ex} (h : chkE T N sc (.itm i m) e = true) : ∃ x px y p, e = .Subscript (.Name x px) y p ∧ N[i]? = some x ∧ visB sc x = true ∧ okName x = true ∧ chkE T N sc m y = true := by
  cases e <;> first | (exact Bool.noConfusion h) | skip
  rename_i o y p
  cases o <;> first | (exact Bool.noConfusion h) | skip
  rename_i x px
  have h' : (decide (N[i]? = some x) && visB sc x && okName x && chkE T N sc m y) = true := h
  simp only [Bool.and_eq_true, decide_eq_true_eq] at h'
  exact ⟨x, px, y, p, rfl, h'.1.1.1, h'.1.1.2, h'.1.2, h'.2⟩
theorem inv_peek {q : Pr} {i : Nat} (h : chkE T N sc (.peek q i) e = true) : ∃ x px p1 p, e = .Call (.Name q.nm p1) [.Name x px] [] p ∧ glbl sc q.nm = true ∧ N[i]? = some x ∧ visB sc x = true ∧ okName x = true := by
  cases e <;> first | (exact Bool.noConfusion h) | skip
  rename_i f xs ks p
  match f, xs, ks, h with
  | .Name g p1, [.Name x px], [], h =>
    have h' : (decide (g = q.nm) && glbl sc g && decide (N[i]? = some x) && visB sc x && okName x) = true := h
    simp only [Bool.and_eq_true, decide_eq_true_eq] at h'
    obtain ⟨⟨⟨⟨rfl, h2⟩, h3⟩, h4⟩, h5⟩ := h'
    exact ⟨x, px, p1, p, rfl, h2, h3, h4, h5⟩
theorem inv_slc {a : Ex} {lo hi : Option Ex} (h : chkE T N sc (.slc a lo hi) e = true) : ∃ x l u p p2, e = .Subscript x (.Slice l u none p2) p ∧ chkE T N sc a x = true ∧ chkO T N sc lo l = true ∧ chkO T N sc hi u = true := by
  cases e <;> first | (exact Bool.noConfusion h) | skip
  rename_i x y p
  cases y <;> first | (exact Bool.noConfusion h) | skip
  rename_i l u st p2
  cases st with
  | some _ => exact Bool.noConfusion h
  | none =>
    have h' : (chkE T N sc a x && chkO T N sc lo l && chkO T N sc hi u) = true := h
    simp only [Bool.and_eq_true] at h'
    exact ⟨x, l, u, p, p2, rfl, h'.1.1, h'.1.2, h'.2⟩
theorem inv_rev {a : Ex} (h : chkE T N sc (.rev a) e = true) : ∃ x k p1 p2 p3 p, e = .Subscript x (.Slice none none (some (.UnaryOp .USub (.Constant (.int 1) k p1) p2)) p3) p ∧ chkE T N sc a x = true := by
  cases e <;> first | (exact Bool.noConfusion h) | skip
  rename_i x y p
  cases y <;> first | (exact Bool.noConfusion h) | skip
  rename_i l u st p3
  match l, u, st, h with
  | none, none, some (.UnaryOp .USub (.Constant (.int i) k p1) p2), h =>
    have h' : (decide (i = 1) && chkE T N sc a x) = true := h
    simp only [Bool.and_eq_true, decide_eq_true_eq] at h'
    obtain ⟨rfl, h2⟩ := h'
    exact ⟨x, k, p1, p2, p3, p, rfl, h2⟩
theorem inv_prim {q : Pr} {es : List Ex} (h : chkE T N sc (.prim q es) e = true) : ∃ x xs p1 p, e = .Call (.Name q.nm p1) (x :: xs) [] p ∧ glbl sc q.nm = true ∧ chkL T N sc es (x :: xs) = true := by
  cases e <;> first | (exact Bool.noConfusion h) | skip
  rename_i f xs ks p
  match f, xs, ks, h with
  | .Name g p1, xs, [], h =>
    have h' : (decide (g = q.nm) && glbl sc g && !xs.isEmpty && chkL T N sc es xs) = true := h
    simp only [Bool.and_eq_true, decide_eq_true_eq] at h'
    obtain ⟨⟨⟨rfl, h2⟩, h3⟩, h4⟩ := h'
    cases xs with
    | nil => exact Bool.noConfusion h3
    | cons x xs => exact ⟨x, xs, p1, p, rfl, h2, h4⟩
theorem inv_lrng1 {b : Ex} (h : chkE T N sc (.lrng none b) e = true) : ∃ y p1 p2 p3 p, e = .Call (.Name "list" p1) [.Call (.Name "range" p2) [y] [] p3] [] p ∧ glbl sc "list" = true ∧ glbl sc "range" = true ∧ chkE T N sc b y = true := by
  cases e <;> first | (exact Bool.noConfusion h) | skip
  rename_i f xs ks p
  match f, xs, ks, h with
  | .Name g p1, [.Call (.Name g2 p2) [y] [] p3], [], h =>
    have h' : (decide (g = "list") && glbl sc g && decide (g2 = "range") && glbl sc g2 && chkE T N sc b y) = true := h
    simp only [Bool.and_eq_true, decide_eq_true_eq] at h'
    obtain ⟨⟨⟨⟨rfl, h2⟩, rfl⟩, h4⟩, h5⟩ := h'
    exact ⟨y, p1, p2, p3, p, rfl, h2, h4, h5⟩
theorem inv_lrng2 {a b : Ex} (h : chkE T N sc (.lrng (some a) b) e = true) : ∃ x y p1 p2 p3 p, e = .Call (.Name "list" p1) [.Call (.Name "range" p2) [x, y] [] p3] [] p ∧ glbl sc "list" = true ∧ glbl sc "range" = true ∧ chkE T N sc a x = true ∧ chkE T N sc b y = true := by
  cases e <;> first | (exact Bool.noConfusion h) | skip
  rename_i f xs ks p
  match f, xs, ks, h with
  | .Name g p1, [.Call (.Name g2 p2) [x, y] [] p3], [], h =>
    have h' : (decide (g = "list") && glbl sc g && decide (g2 = "range") && glbl sc g2 && chkE T N sc a x && chkE T N sc b y) = true := h
    simp only [Bool.and_eq_true, decide_eq_true_eq] at h'
    obtain ⟨⟨⟨⟨⟨rfl, h2⟩, rfl⟩, h4⟩, h5⟩, h6⟩ := h'
    exact ⟨x, y, p1, p2, p3, p, rfl, h2, h4, h5, h6⟩
theorem inv_isi1 {a : Ex} {k : Kd} (h : chkE T N sc (.isi a [k]) e = true) : ∃ x p1 p2 p, e = .Call (.Name "isinstance" p1) [x, .Name k.nm p2] [] p ∧ glbl sc "isinstance" = true ∧ glbl sc k.nm = true ∧ chkE T N sc a x = true := by
  cases e <;> first | (exact Bool.noConfusion h) | skip
  rename_i f xs kws p
  match f, xs, kws, h with
  | .Name g p1, [x, .Name t p2], [], h =>
    have h' : (decide (g = "isinstance") && glbl sc g && decide (t = k.nm) && glbl sc t && chkE T N sc a x) = true := h
    simp only [Bool.and_eq_true, decide_eq_true_eq] at h'
    obtain ⟨⟨⟨⟨rfl, h2⟩, rfl⟩, h4⟩, h5⟩ := h'
    exact ⟨x, p1, p2, p, rfl, h2, h4, h5⟩
theorem inv_isi2 {a : Ex} {k j : Kd} (h : chkE T N sc (.isi a [k, j]) e = true) : ∃ x kk p1 p2 p3 p4 p, e = .Call (.Name "isinstance" p1) [x, .Tuple [.Name k.nm p2, .Name j.nm p3] kk p4] [] p ∧ glbl sc "isinstance" = true ∧ glbl sc k.nm = true ∧ glbl sc j.nm = true ∧ chkE T N sc a x = true := by
  cases e <;> first | (exact Bool.noConfusion h) | skip
  rename_i f xs kws p
  match f, xs, kws, h with
  | .Name g p1, [x, .Tuple [.Name t p2, .Name u p3] kk p4], [], h =>
    have h' : (decide (g = "isinstance") && glbl sc g && decide (t = k.nm) && glbl sc t && decide (u = j.nm) && glbl sc u && chkE T N sc a x) = true := h
    simp only [Bool.and_eq_true, decide_eq_true_eq] at h'
    obtain ⟨⟨⟨⟨⟨⟨rfl, h2⟩, rfl⟩, h4⟩, rfl⟩, h6⟩, h7⟩ := h'
    exact ⟨x, kk, p1, p2, p3, p4, p, rfl, h2, h4, h6, h7⟩
theorem inv_isi0 {a : Ex} (h : chkE T N sc (.isi a []) e = true) : False := by
  cases e <;> first | exact Bool.noConfusion h | (simp [chkE] at h)
theorem inv_isi3 {a : Ex} {k1 k2 k3 : Kd} {ks : List Kd} (h : chkE T N sc (.isi a (k1 :: k2 :: k3 :: ks)) e = true) : False := by
  cases e <;> first | exact Bool.noConfusion h | (simp [chkE] at h)
theorem inv_call {f : Nat} {args : List Ar} {kw : List Nat} (h : chkE T N sc (.call f args kw) e = true) : ∃ x p1 p xs ks, e = .Call (.Name x p1) xs ks p ∧ T.fns[f]? = some x ∧ glbl sc x = true ∧
    ((ks = [] ∧ kw = [] ∧ T.np[f]? = some args.length ∧ chkA T N sc args xs = true) ∨ (ks.all (·.arg.isSome) = true ∧ kw ≠ [] ∧ T.np[f]? = some kw.length ∧ kw.all (fun i => decide (i < args.length)) = true ∧ (f, xs.length, ks.filterMap (·.arg), kw) ∈ T.shapes ∧ chkA T N sc args (xs ++ ks.map (·.value)) = true)) := by
  cases e <;> first | (exact Bool.noConfusion h) | skip
  rename_i g xs ks p
  cases g <;> first | (exact Bool.noConfusion h) | skip
  rename_i x p1
  cases ks with
  | nil =>
    have h' : (decide (T.fns[f]? = some x) && glbl sc x && (decide (kw = []) && decide (T.np[f]? = some args.length) && chkA T N sc args xs)) = true := h
    simp only [Bool.and_eq_true, decide_eq_true_eq] at h'
    exact ⟨x, p1, p, xs, [], rfl, h'.1.1, h'.1.2, .inl ⟨rfl, h'.2.1.1, h'.2.1.2, h'.2.2⟩⟩
  | cons k ks =>
    have h' : (decide (T.fns[f]? = some x) && glbl sc x && ((k :: ks).all (·.arg.isSome) && decide (kw ≠ []) && decide (T.np[f]? = some kw.length) && kw.all (fun i => decide (i < args.length)) && decide ((f, xs.length, (k :: ks).filterMap (·.arg), kw) ∈ T.shapes) && chkA T N sc args (xs ++ (k :: ks).map (·.value)))) = true := h
    rw [Bool.and_eq_true, Bool.and_eq_true, Bool.and_eq_true, Bool.and_eq_true, Bool.and_eq_true, Bool.and_eq_true, Bool.and_eq_true, decide_eq_true_eq, decide_eq_true_eq, decide_eq_true_eq, decide_eq_true_eq] at h'
    obtain ⟨⟨h1, h2⟩, ⟨⟨⟨⟨h3, h4⟩, h5⟩, h6⟩, h7⟩, h8⟩ := h'
    exact ⟨x, p1, p, xs, k :: ks, rfl, h1, h2, .inr ⟨h3, h4, h5, h6, h7, h8⟩⟩
theorem inv_comp {tg : Tg} {it : Itr} {c : Option Ex} {m : Ex} {own : List Nat} (h : chkE T N sc (.comp tg it c m own) e = true) : ∃ elt t iter ifs scope p, e = .ListComp elt [⟨t, iter, ifs, 0⟩] scope p ∧ blkC N sc scope (own.map fun i => (N.getD i "", i)) = true ∧
    tgOk own tg = true ∧ chkTg N (relS scope sc) (fun x => scope.names.lookup x == some .cell) tg t = true ∧ chkI T N sc it t iter = true ∧ ((c = none ∧ ifs = []) ∨ ∃ c' x, c = some c' ∧ ifs = [x] ∧ chkE T N (relS scope sc) c' x = true) ∧ chkE T N (relS scope sc) m elt = true := by
  cases e <;> first | (exact Bool.noConfusion h) | skip
  rename_i elt gens scope p
  have key : ∀ (c : Option Ex) (t iter : Expr) (ifs : List Expr) (b : Bool), (blkC N sc scope (own.map fun i => (N.getD i "", i)) && decide (∀ i ∈ own, i < N.length) && tgOk own tg && chkTg N (relS scope sc) (fun x => scope.names.lookup x == some .cell) tg t &&
      chkI T N sc it t iter && b && chkE T N (relS scope sc) m elt) = true → (b = true → ((c = none ∧ ifs = []) ∨ ∃ c' x, c = some c' ∧ ifs = [x] ∧ chkE T N (relS scope sc) c' x = true)) → ∃ elt' t' iter' ifs' scope' p', Expr.ListComp elt [⟨t, iter, ifs, 0⟩] scope p = .ListComp elt' [⟨t', iter', ifs', 0⟩] scope' p' ∧ blkC N sc scope' (own.map fun i => (N.getD i "", i)) = true ∧
    tgOk own tg = true ∧ chkTg N (relS scope' sc) (fun x => scope'.names.lookup x == some .cell) tg t' = true ∧ chkI T N sc it t' iter' = true ∧ ((c = none ∧ ifs' = []) ∨ ∃ c' x, c = some c' ∧ ifs' = [x] ∧ chkE T N (relS scope' sc) c' x = true) ∧ chkE T N (relS scope' sc) m elt' = true := by
    intro c t iter ifs b h' q
    rw [Bool.and_eq_true, Bool.and_eq_true, Bool.and_eq_true, Bool.and_eq_true, Bool.and_eq_true, Bool.and_eq_true] at h'
    obtain ⟨⟨⟨⟨⟨⟨h1, h2⟩, h3⟩, h4⟩, h5⟩, h6⟩, h7⟩ := h'
    exact ⟨elt, t, iter, ifs, scope, p, rfl, h1, h3, h4, h5, q h6, h7⟩
  match gens, c, h with
  | [⟨t, iter, [], 0⟩], none, h => exact key none t iter [] true h fun _ => .inl ⟨rfl, rfl⟩
  | [⟨t, iter, [x], 0⟩], some c, h => exact key (some c) t iter [x] _ h fun h6 => .inr ⟨c, x, rfl, rfl, h6⟩
  | [⟨t, iter, _ :: _, 0⟩], none, h => exact key none t iter _ false h fun z => Bool.noConfusion z
  | [⟨t, iter, [], 0⟩], some c, h => exact key (some c) t iter _ false h fun z => Bool.noConfusion z
  | [⟨t, iter, _ :: _ :: _, 0⟩], some c, h => exact key (some c) t iter _ false h fun z => Bool.noConfusion z
end
end DL
end
section
set_option maxHeartbeats 200000
set_option maxRecDepth 100000
/-! DV: every checked expression keeps its meaning. -/
namespace DL
open PySem L2
section
variable {X : Cx} {XR : XRel} {W : WX} {G : Fns} {T : Tab}
theorem takesN : Takes X W0 := fun _ _ ⟨_, _, _, _, _, _, _, _, _, _, _, _, _, _, _, _, w⟩ => w.elim
theorem vac_F {m : D (List PyData)} {e : Expr} (h : ∀ r, m r = .bad) : PE X e (tF X.K XR W m) := ⟨fun pins s σ H Q I ⟨hid, pa, r, S, w⟩ => by
  rw [h] at w; exact w.elim⟩
theorem gl_of {x : Str} (h : glbl X.env.scope x = true) : Gl X x := (glbl_of h).1
theorem SE.conv {m : Ex} {e : Expr} (h : SE X G XR W m e) : SE X G XR W m e := h
theorem tgOk_of {own : List Nat} {t : Tg} (h : tgOk own t = true) : ∀ i ∈ tgSlots t, i ∈ own := by
  unfold tgOk at h
  intro i hi
  have := List.all_eq_true.mp h i hi
  simpa using this
theorem and2 {a b : Bool} (h : (a && b) = true) : a = true ∧ b = true := Bool.and_eq_true_iff.mp h
theorem Pr.boot (ok : TabOk X T G XR) (p : Pr) : X.mg p.nm = none := ok.blt _ (by cases p <;> decide)
theorem Kd.boot (ok : TabOk X T G XR) (p : Kd) : X.mg p.nm = none := ok.blt _ (by cases p <;> decide)
theorem arr0 {vs : List V} : arr ([] : List Nat) vs = vs := rfl
end
section
variable {XR : XRel} {G : Fns} {T : Tab}
mutual
theorem sound_E : ∀ (m : Ex) (X : Cx) (W : WX) (e : Expr), TabOk X T G XR → Takes X W → chkE T X.N X.env.scope m e = true → SE X G XR W m e
  | .cst c, X, W, e, ok, tk, h => by
    obtain ⟨k, j, p, rfl, hc⟩ := inv_cst h
    exact se_of (se_cst hc) fun _ => rfl
  | .var i, X, W, e, ok, tk, h => by
    obtain ⟨x, p, rfl, h1, h2, h3⟩ := inv_var h
    exact se_of (se_var h1 h2 h3) fun _ => rfl
  | .glb x c, X, W, e, ok, tk, h => by
    obtain ⟨p, rfl, h1, h2⟩ := inv_glb h
    obtain ⟨v, u, q1, q2, q3⟩ := ok.con x c h2
    exact se_of (se_glb (gl_of h1) (glbl_of h1).2 q1 q2 q3) fun _ => rfl
  | .tup es, X, W, e, ok, tk, h => by
    obtain ⟨xs, k, p, rfl, h1⟩ := inv_tup h
    exact se_of (se_tup (sound_L es X W xs ok tk h1).1) fun _ => rfl
  | .lst es, X, W, e, ok, tk, h => by
    obtain ⟨xs, p, rfl, h1⟩ := inv_lst h
    exact se_of (se_lst (sound_L es X W xs ok tk h1).1) fun _ => rfl
  | .bin o a b, X, W, e, ok, tk, h => by
    obtain ⟨x, y, p, rfl, h1, h2⟩ := inv_bin h
    exact se_of (se_bin (sound_E a X W x ok tk h1).1 (sound_E b X W y ok tk h2).1) fun _ => rfl
  | .neg a, X, W, e, ok, tk, h => by
    obtain ⟨x, p, rfl, h1⟩ := inv_neg h
    exact se_of (se_neg (sound_E a X W x ok tk h1).1) fun _ => rfl
  | .cmp o a b, X, W, e, ok, tk, h => by
    obtain ⟨x, y, p, rfl, h0, h1, h2⟩ := inv_cmp h
    exact se_cmp ok.hu h0 (sound_E a X W x ok tk h1).1 (sound_E b X W y ok tk h2).1
  | .chn o1 o2 a b c, X, W, e, ok, tk, h => by
    obtain ⟨x, y, z, p, rfl, h0, h1, h2, h3⟩ := inv_chn h
    exact se_chn ok.hu h0 (sound_E a X W x ok tk h1).1 (sound_E b X W y ok tk h2).1 (sound_E c X W z ok tk h3).1
  | .nt a, X, W, e, ok, tk, h => by
    obtain ⟨x, p, rfl, h1⟩ := inv_nt h
    exact se_nt (sound_E a X W x ok tk h1)
  | .an a b, X, W, e, ok, tk, h => by
    obtain ⟨x, y, r, p, rfl, h1, h2⟩ := inv_an h
    rcases h2 with ⟨rfl, h2⟩ | ⟨_, h2⟩
    · exact se_an (sound_E a X W x ok tk h1) (se_one (sound_E b X W y ok tk h2))
    · exact se_an (sound_E a X W x ok tk h1) (sound_E b X W _ ok tk h2)
  | .orr a b, X, W, e, ok, tk, h => by
    obtain ⟨x, y, r, p, rfl, h1, h2⟩ := inv_orr h
    rcases h2 with ⟨rfl, h2⟩ | ⟨_, h2⟩
    · exact se_orr (sound_E a X W x ok tk h1) (se_one (sound_E b X W y ok tk h2))
    · exact se_orr (sound_E a X W x ok tk h1) (sound_E b X W _ ok tk h2)
  | .ite c a b, X, W, e, ok, tk, h => by
    obtain ⟨t, x, y, p, rfl, h1, h2, h3⟩ := inv_ite h
    exact se_ite (sound_E c X W t ok tk h1) (sound_E a X W x ok tk h2) (sound_E b X W y ok tk h3)
  | .idx a i, X, W, e, ok, tk, h => by
    obtain ⟨x, y, p, rfl, h1, h2⟩ := inv_idx h
    exact se_of (se_idx (sound_E a X W x ok tk h1).1 (sound_E i X W y ok tk h2).1 (plain_ix h2)) fun _ => rfl
  | .itm i m, X, W, e, ok, tk, h => by
    obtain ⟨x, px, y, p, rfl, h1, h2, h3, h4⟩ := inv_itm h
    exact se_of (se_itm h1 h2 h3 (sound_E m X W y ok tk h4).1 (plain_ix h4)) fun _ => rfl
  | .peek q i, X, W, e, ok, tk, h => by
    obtain ⟨x, px, p1, p, rfl, h1, h2, h3, h4⟩ := inv_peek h
    exact se_of (se_peek ok.calm ok.hu ok.gd (gl_of h1) (Pr.boot ok q) h2 h3 h4) fun _ => rfl
  | .slc a lo hi, X, W, e, ok, tk, h => by
    obtain ⟨x, l, u, p, p2, rfl, h1, h2, h3⟩ := inv_slc h
    exact se_of (se_slc (sound_E a X W x ok tk h1).1 (sound_O lo X W l ok tk h2) (sound_O hi X W u ok tk h3)) fun _ => rfl
  | .rev a, X, W, e, ok, tk, h => by
    obtain ⟨x, k, p1, p2, p3, p, rfl, h1⟩ := inv_rev h
    exact se_of (se_rev (sound_E a X W x ok tk h1).1) fun _ => rfl
  | .prim q es, X, W, e, ok, tk, h => by
    obtain ⟨x, xs, p1, p, rfl, h1, h2⟩ := inv_prim h
    obtain ⟨q1, q2⟩ := sound_L es X W _ ok tk h2
    exact se_of (se_prim ok.calm ok.hu ok.gd (gl_of h1) (Pr.boot ok q) q2 q1) fun _ => rfl
  | .lrng none b, X, W, e, ok, tk, h => by
    obtain ⟨y, p1, p2, p3, p, rfl, h1, h2, h3⟩ := inv_lrng1 h
    exact se_of (se_lrng1 ok.calm (gl_of h1) (ok.blt _ (by decide)) (gl_of h2) (ok.blt _ (by decide)) (chkE_star h3) (sound_E b X W y ok tk h3).1) fun _ => rfl
  | .lrng (some a) b, X, W, e, ok, tk, h => by
    obtain ⟨x, y, p1, p2, p3, p, rfl, h1, h2, h3, h4⟩ := inv_lrng2 h
    exact se_of (se_lrng2 ok.calm (gl_of h1) (ok.blt _ (by decide)) (gl_of h2) (ok.blt _ (by decide)) (chkE_star h3) (chkE_star h4) (sound_E a X W x ok tk h3).1 (sound_E b X W y ok tk h4).1) fun _ => rfl
  | .isi a [], X, W, e, ok, tk, h => (inv_isi0 h).elim
  | .isi a [k], X, W, e, ok, tk, h => by
    obtain ⟨x, p1, p2, p, rfl, h1, h2, h3⟩ := inv_isi1 h
    exact se_of (se_isi1 (gl_of h1) (ok.blt _ (by decide)) (gl_of h2) (Kd.boot ok k) (chkE_star h3) (sound_E a X W x ok tk h3).1) fun _ => rfl
  | .isi a [k, j], X, W, e, ok, tk, h => by
    obtain ⟨x, kk, p1, p2, p3, p4, p, rfl, h1, h2, h3, h4⟩ := inv_isi2 h
    exact se_of (se_isi2 (gl_of h1) (ok.blt _ (by decide)) (gl_of h2) (Kd.boot ok k) (gl_of h3) (Kd.boot ok j) (chkE_star h4) (sound_E a X W x ok tk h4).1) fun _ => rfl
  | .isi a (_ :: _ :: _ :: _), X, W, e, ok, tk, h => (inv_isi3 h).elim
  | .call f args kw, X, W, e, ok, tk, h => by
    obtain ⟨x, p1, p, xs, ks, rfl, h1, h2, h3⟩ := inv_call h
    obtain ⟨a, fd, ps, k, F, hp⟩ := ok.fn f x h1
    refine se_of ?_ fun _ => rfl
    rcases h3 with ⟨rfl, rfl, h4, h5⟩ | ⟨h4, h5, h6, h7, h8, h9⟩
    · have e1 : args.length = ps.length := by rw [hp] at h4; exact (Option.some.inj h4).symm
      exact sc_call F ok.gd tk (gl_of h2) (glbl_of h2).2 (sound_A args X W xs ok tk h5) fun σ H Q q => call_val ok.mono (fun vs hl => by rw [arr0, hl, e1]) q
    · have e1 : kw.length = ps.length := by rw [hp] at h6; exact (Option.some.inj h6).symm
      exact sc_callK F ok.gd tk (gl_of h2) (glbl_of h2).2 h4 h8 (sound_A args X W _ ok tk h9) fun σ H Q q => call_val ok.mono (fun vs hl => by rw [arr_len h7 h5 vs hl, e1]) q
  | .comp tg it c m own, X, W, e, ok, tk, h => by
    obtain ⟨elt, t, iter, ifs, scope, p, rfl, h1, h2, h3, h4, h5, h6⟩ := inv_comp h
    obtain ⟨i1, i2⟩ := sound_I it X W t iter ok tk h4
    exact se_of (se_comp (sc_lc ok.calm ok.nd (tgOk_of h2) h1 i1 h3 (fun s H C cl fp => sound_C c (X.blk s H scope (compEnvC scope cl C X.env) fp) W0 ifs (ok.blk _ _ _ _ _) takesN h5)
      (fun s H C cl fp => (sound_E m (X.blk s H scope (compEnvC scope cl C X.env) fp) W0 elt (ok.blk _ _ _ _ _) takesN h6).1) i2) (tgOk_of h2)) fun _ => rfl
theorem sound_C : ∀ (c : Option Ex) (X : Cx) (W : WX) (ifs : List Expr), TabOk X T G XR → Takes X W → ((c = none ∧ ifs = []) ∨ ∃ c' x, c = some c' ∧ ifs = [x] ∧ chkE T X.N X.env.scope c' x = true) → PTs X ifs (tDt X.K XR W (denC G c))
  | none, X, W, ifs, ok, tk, h => by
    rcases h with ⟨_, rfl⟩ | ⟨_, _, z, _⟩
    · exact ⟨fun pins s σ H Q I ⟨hid, pa, r, S, w⟩ => pts_nil.run pins s σ H Q I (wp_ret (R := R0) (v := ()) S (.inl rfl) trivial (show wp X.K XR W hid pa σ R0 (Lv r σ) H (ret true r) _ from w))⟩
    · cases z
  | some c, X, W, ifs, ok, tk, h => by
    rcases h with ⟨z, _⟩ | ⟨c', x, z, rfl, h⟩
    · cases z
    · cases z
      exact pts_one (sound_E c X W x ok tk h).2
theorem sound_L : ∀ (ms : List Ex) (X : Cx) (W : WX) (es : List Expr), TabOk X T G XR → Takes X W → chkL T X.N X.env.scope ms es = true → PA X es (tDs X.K XR W (denL G ms)) ∧ (∀ e ∈ es, noStar e = true)
  | [], X, W, [], ok, tk, h => ⟨PA_mono pa_nil fun σ H Q ⟨hid, pa, r, S, w⟩ => wp_ret (R := Rs X.K) S (.inl rfl) .nil (show wp X.K XR W hid pa σ (Rs X.K) (Lv r σ) H (ret [] r) _ from w), fun e z => nomatch z⟩
  | m :: ms, X, W, e :: es, ok, tk, h => by
    obtain ⟨h1, h2⟩ := and2 (show (chkE T X.N X.env.scope m e && chkL T X.N X.env.scope ms es) = true from h)
    obtain ⟨q1, q2⟩ := sound_L ms X W es ok tk h2
    refine ⟨PA_mono (pa_cons (sound_E m X W e ok tk h1).1 q1 (star_of (chkE_star h1) _)) fun σ H Q ⟨hid, pa, r, S, w⟩ => ?_, fun e' z => ?_⟩
    · refine tD_imp (tD_bnd S (show wp X.K XR W hid pa σ (Rs X.K) (Lv r σ) H (bnd (den G m) (fun x => bnd (denL G ms) fun xs => ret (x :: xs)) r) _ from w)) fun v H1 ⟨r1, d, S1, E1, D1, w1⟩ => ?_
      refine tDs_imp (tDs_bnd S1 w1) fun vs H2 ⟨r2, ds, S2, E2, D2, w2⟩ => wp_ret (R := Rs X.K) S2 (.inl rfl) (.cons (Dp_mono E2.sub D1) D2) w2
    · rcases List.mem_cons.mp z with rfl | z
      · exact chkE_star h1
      · exact q2 e' z
  | [], X, W, _ :: _, ok, tk, h => by cases h
  | _ :: _, X, W, [], ok, tk, h => by cases h
theorem sound_O : ∀ (o : Option Ex) (X : Cx) (W : WX) (e : Option Expr), TabOk X T G XR → Takes X W → chkO T X.N X.env.scope o e = true → PO X e (tOo X.K XR W (denO G o))
  | none, X, W, none, ok, tk, h => so_none
  | some m, X, W, some e, ok, tk, h => so_some (sound_E m X W e ok tk h).1
  | none, X, W, some _, ok, tk, h => by cases h
  | some _, X, W, none, ok, tk, h => by cases h
theorem sound_A : ∀ (l : List Ar) (X : Cx) (W : WX) (es : List Expr), TabOk X T G XR → Takes X W → chkA T X.N X.env.scope l es = true → ArE X XR W G l es
  | [], X, W, [], ok, tk, h => .nil
  | .val m :: l, X, W, e :: es, ok, tk, h => by
    obtain ⟨h1, h2⟩ := and2 (show (chkE T X.N X.env.scope m e && chkA T X.N X.env.scope l es) = true from h)
    exact .cons (sound_E m X W e ok tk h1).1 (chkE_star h1) (sound_A l X W es ok tk h2)
  | .ref i :: l, X, W, e :: es, ok, tk, h => by
    cases e <;> first | (exact Bool.noConfusion h) | skip
    rename_i x p
    have h' : (decide (X.N[i]? = some x) && visB X.env.scope x && okName x && chkA T X.N X.env.scope l es) = true := h
    simp only [Bool.and_eq_true, decide_eq_true_eq] at h'
    obtain ⟨⟨⟨h1, h2⟩, h3⟩, h4⟩ := h'
    obtain ⟨o1, o2⟩ := okName_of h3
    exact .cons (pe_var h1 (vis_of h2) o1 o2) rfl (sound_A l X W es ok tk h4)
  | .fre m :: l, X, W, e :: es, ok, tk, h => by
    obtain ⟨h1, h2⟩ := and2 (show (chkE T X.N X.env.scope m e && chkA T X.N X.env.scope l es) = true from h)
    exact .cons (sound_F m X W e ok tk h1) (chkE_star h1) (sound_A l X W es ok tk h2)
  | [], X, W, _ :: _, ok, tk, h => by cases h
  | .val _ :: _, X, W, [], ok, tk, h => by cases h
  | .ref _ :: _, X, W, [], ok, tk, h => by cases h
  | .fre _ :: _, X, W, [], ok, tk, h => by cases h
theorem sound_F : ∀ (m : Ex) (X : Cx) (W : WX) (e : Expr), TabOk X T G XR → Takes X W → chkE T X.N X.env.scope m e = true → PE X e (tF X.K XR W (denF G m))
  | .lst es, X, W, e, ok, tk, h => by
    obtain ⟨xs, p, rfl, h1⟩ := inv_lst h
    exact sf_lst (sound_L es X W xs ok tk h1).1
  | .comp tg it c m own, X, W, e, ok, tk, h => by
    obtain ⟨elt, t, iter, ifs, scope, p, rfl, h1, h2, h3, h4, h5, h6⟩ := inv_comp h
    obtain ⟨i1, i2⟩ := sound_I it X W t iter ok tk h4
    exact sf_comp (sc_lc ok.calm ok.nd (tgOk_of h2) h1 i1 h3 (fun s H C cl fp => sound_C c (X.blk s H scope (compEnvC scope cl C X.env) fp) W0 ifs (ok.blk _ _ _ _ _) takesN h5)
      (fun s H C cl fp => (sound_E m (X.blk s H scope (compEnvC scope cl C X.env) fp) W0 elt (ok.blk _ _ _ _ _) takesN h6).1) i2) (tgOk_of h2)
  | .call f args kw, X, W, e, ok, tk, h => by
    obtain ⟨x, p1, p, xs, ks, rfl, h1, h2, h3⟩ := inv_call h
    obtain ⟨a, fd, ps, k, F, hp⟩ := ok.fn f x h1
    rcases h3 with ⟨rfl, rfl, h4, h5⟩ | ⟨h4, h5, h6, h7, h8, h9⟩
    · have e1 : args.length = ps.length := by rw [hp] at h4; exact (Option.some.inj h4).symm
      exact sc_call F ok.gd tk (gl_of h2) (glbl_of h2).2 (sound_A args X W xs ok tk h5) fun σ H Q q => call_fre ok.mono (fun vs hl => by rw [arr0, hl, e1]) q
    · have e1 : kw.length = ps.length := by rw [hp] at h6; exact (Option.some.inj h6).symm
      exact sc_callK F ok.gd tk (gl_of h2) (glbl_of h2).2 h4 h8 (sound_A args X W _ ok tk h9) fun σ H Q q => call_fre ok.mono (fun vs hl => by rw [arr_len h7 h5 vs hl, e1]) q
  | .cst _, X, W, e, ok, tk, h => vac_F fun _ => rfl
  | .var _, X, W, e, ok, tk, h => vac_F fun _ => rfl
  | .glb _ _, X, W, e, ok, tk, h => vac_F fun _ => rfl
  | .tup _, X, W, e, ok, tk, h => vac_F fun _ => rfl
  | .bin _ _ _, X, W, e, ok, tk, h => vac_F fun _ => rfl
  | .neg _, X, W, e, ok, tk, h => vac_F fun _ => rfl
  | .cmp _ _ _, X, W, e, ok, tk, h => vac_F fun _ => rfl
  | .chn _ _ _ _ _, X, W, e, ok, tk, h => vac_F fun _ => rfl
  | .nt _, X, W, e, ok, tk, h => vac_F fun _ => rfl
  | .an _ _, X, W, e, ok, tk, h => vac_F fun _ => rfl
  | .orr _ _, X, W, e, ok, tk, h => vac_F fun _ => rfl
  | .ite _ _ _, X, W, e, ok, tk, h => vac_F fun _ => rfl
  | .idx _ _, X, W, e, ok, tk, h => vac_F fun _ => rfl
  | .slc _ _ _, X, W, e, ok, tk, h => vac_F fun _ => rfl
  | .itm _ _, X, W, e, ok, tk, h => vac_F fun _ => rfl
  | .peek _ _, X, W, e, ok, tk, h => vac_F fun _ => rfl
  | .rev _, X, W, e, ok, tk, h => vac_F fun _ => rfl
  | .prim _ _, X, W, e, ok, tk, h => vac_F fun _ => rfl
  | .isi _ _, X, W, e, ok, tk, h => vac_F fun _ => rfl
  | .lrng _ _, X, W, e, ok, tk, h => vac_F fun _ => rfl
theorem sound_I : ∀ (it : Itr) (X : Cx) (W : WX) (tg e : Expr), TabOk X T G XR → Takes X W → chkI T X.N X.env.scope it tg e = true → PI X tg e (tDi X.K XR W (denI G it)) ∧ ∀ x, foldedSetIterable e X.env x = pure x
  | .over m, X, W, tg, e, ok, tk, h => by
    obtain ⟨h1, h2⟩ := and2 (show (noMark e && chkE T X.N X.env.scope m e) = true from h)
    refine ⟨si_over (sound_E m X W e ok tk h2).1, fun x => ?_⟩
    cases e <;> first | rfl | (exact Bool.noConfusion h1)
  | .rng b, X, W, tg, e, ok, tk, h => by
    cases e <;> first | (exact Bool.noConfusion h) | skip
    rename_i f xs ks p
    match f, xs, ks, h with
    | .Name g p1, [y], [], h =>
      have h' : (decide (g = "range") && glbl X.env.scope g && chkE T X.N X.env.scope b y) = true := h
      simp only [Bool.and_eq_true, decide_eq_true_eq] at h'
      obtain ⟨⟨rfl, h2⟩, h3⟩ := h'
      exact ⟨si_rng (gl_of h2) (ok.blt _ (by decide)) (chkE_star h3) (sound_E b X W y ok tk h3).1, fun x => rfl⟩
  | .rng2 a b, X, W, tg, e, ok, tk, h => by
    cases e <;> first | (exact Bool.noConfusion h) | skip
    rename_i f xs ks p
    match f, xs, ks, h with
    | .Name g p1, [x, y], [], h =>
      have h' : (decide (g = "range") && glbl X.env.scope g && chkE T X.N X.env.scope a x && chkE T X.N X.env.scope b y) = true := h
      simp only [Bool.and_eq_true, decide_eq_true_eq] at h'
      obtain ⟨⟨⟨rfl, h2⟩, h3⟩, h4⟩ := h'
      exact ⟨si_rng2 (gl_of h2) (ok.blt _ (by decide)) (chkE_star h3) (chkE_star h4) (sound_E a X W x ok tk h3).1 (sound_E b X W y ok tk h4).1, fun x => rfl⟩
  | .enum m, X, W, tg, e, ok, tk, h => by
    cases tg <;> first | (exact Bool.noConfusion h) | skip
    cases e <;> first | (exact Bool.noConfusion h) | skip
    rename_i f xs ks p
    match f, xs, ks, h with
    | .Name g p1, [x], [], h =>
      have h' : (decide (g = "enumerate") && glbl X.env.scope g && chkE T X.N X.env.scope m x) = true := h
      simp only [Bool.and_eq_true, decide_eq_true_eq] at h'
      obtain ⟨⟨rfl, h2⟩, h3⟩ := h'
      exact ⟨si_enum (gl_of h2) (ok.blt _ (by decide)) (chkE_star h3) (sound_E m X W x ok tk h3).1, fun x => rfl⟩
  | .zip a b, X, W, tg, e, ok, tk, h => by
    cases tg <;> first | (exact Bool.noConfusion h) | skip
    cases e <;> first | (exact Bool.noConfusion h) | skip
    rename_i f xs ks p
    match f, xs, ks, h with
    | .Name g p1, [x, y], [], h =>
      have h' : (decide (g = "zip") && glbl X.env.scope g && chkE T X.N X.env.scope a x && chkE T X.N X.env.scope b y) = true := h
      simp only [Bool.and_eq_true, decide_eq_true_eq] at h'
      obtain ⟨⟨⟨rfl, h2⟩, h3⟩, h4⟩ := h'
      exact ⟨si_zip (gl_of h2) (ok.blt _ (by decide)) (chkE_star h3) (chkE_star h4) (sound_E a X W x ok tk h3).1 (sound_E b X W y ok tk h4).1, fun x => rfl⟩
end
end
end DL
end
section
set_option maxHeartbeats 200000
set_option maxRecDepth 100000
/-! DW: statements: their readings. -/
namespace DL
open PySem L2
/-- what a def gives back, as it stands -/
def RtS (K : PySem.W.Frag) (hid : Plc) (pa : Addr) (r : Evn) (σ : L2.St) (L : Plc) (H H' : Hp) : RV → V → Prop
  | .pu d, v => Sim K hid pa r σ H' ∧ Dq K (fz (fun x => hid x ∨ Lv r σ x) H') v d
  | .fr ds, v => ∃ p ws, v = .ref p ∧ H' p = some (.lst ws) ∧ (L p ∨ H p = none) ∧ Sim K (fun x => hid x ∨ x = p) pa r σ H' ∧ DqAll K (fz (fun x => (hid x ∨ x = p) ∨ Lv r σ x) H') ws ds
/-- where a statement ends -/
def endS (K : PySem.W.Frag) (hid : Plc) (pa : Addr) (L : Plc) (H : Hp) (E : Ends) (r : Evn) : Flow → Prop
  | .nx => ∀ σ' H', Sim K hid pa r σ' H' → Ext L H (Lv r σ') H' → E.nx σ' H'
  | .bk => ∀ σ' H', Sim K hid pa r σ' H' → Ext L H (Lv r σ') H' → E.bk σ' H'
  | .ct => ∀ σ' H', Sim K hid pa r σ' H' → Ext L H (Lv r σ') H' → E.ct σ' H'
  | .rt rv => ∀ σ' H' v, Ext L H (Lv r σ') H' → RtS K hid pa r σ' L H H' rv v → E.rt v H'
def wpS (K : PySem.W.Frag) (XR : XRel) (W : WX) (hid : Plc) (pa : Addr) (L : Plc) (H : Hp) (m : Res Flow) (E : Ends) : Prop :=
  match m with
  | .ok fl r => endS K hid pa L H E r fl
  | .exc c fs r => ∀ σ' C d H', Sim K hid pa r σ' H' → Ext L H (Lv r σ') H' → XR c fs (fz (fun x => hid x ∨ Lv r σ' x) H') C d H' → W C d σ' H'
  | .bad => False
def tDS (K : PySem.W.Frag) (XR : XRel) (W : WX) (m : D Flow) : TS := fun E σ H => ∃ hid pa r, Sim K hid pa r σ H ∧ wpS K XR W hid pa (Lv r σ) H (m r) E
section
variable {X : Cx} {K : PySem.W.Frag} {XR : XRel} {W : WX} {hid : Plc} {pa : Addr} {σ : L2.St} {H H1 : Hp} {r : Evn} {G : Fns} {L L1 : Plc} {E : Ends}
theorem endS_later {fl : Flow} (h : endS K hid pa L H E r fl) (e : Ext L H L1 H1) : endS K hid pa L1 H1 E r fl := by
  cases fl with
  | nx => exact fun σ' H' S x => h σ' H' S (e.trans x)
  | bk => exact fun σ' H' S x => h σ' H' S (e.trans x)
  | ct => exact fun σ' H' S x => h σ' H' S (e.trans x)
  | rt rv =>
    intro σ' H' v x R
    refine h σ' H' v (e.trans x) ?_
    cases rv with
    | pu d => exact R
    | fr ds =>
      obtain ⟨p, ws, q1, q2, q3, q4, q5⟩ := R
      refine ⟨p, ws, q1, q2, ?_, q4, q5⟩
      rcases q3 with q3 | q3
      · exact e.liv p q3
      · exact .inr (back_none e q3)
theorem wpS_later {m : Res Flow} (h : wpS K XR W hid pa L H m E) (e : Ext L H L1 H1) : wpS K XR W hid pa L1 H1 m E := by
  cases m with
  | ok fl r => exact endS_later h e
  | exc c fs r => exact fun σ' C d H' S x q => h σ' C d H' S (e.trans x) q
  | bad => exact h
/-- an expression, then a statement's rest -/
theorem sD_bnd {m : D PyData} {f : PyData → D Flow} (S : Sim K hid pa r σ H) (h : wpS K XR W hid pa (Lv r σ) H (bnd m f r) E) :
    tD K XR W m σ H fun v H1 => ∃ r1 d, Sim K hid pa r1 σ H1 ∧ Ext (Lv r σ) H (Lv r1 σ) H1 ∧ Dq K (fz (fun x => hid x ∨ Lv r1 σ x) H1) v d ∧ wpS K XR W hid pa (Lv r1 σ) H1 (f d r1) E := by
  refine ⟨hid, pa, r, S, ?_⟩
  unfold bnd at h
  cases e : m r with
  | ok a r1 => rw [e] at h; exact fun v H1 S1 E1 D1 => ⟨r1, a, S1, E1, D1, wpS_later h E1⟩
  | exc c fs r1 => rw [e] at h; exact fun C d H' S' E' x => h σ C d H' S' E' x
  | bad => rw [e] at h; exact h
theorem sDt_bnd {m : D Bool} {f : Bool → D Flow} (S : Sim K hid pa r σ H) (h : wpS K XR W hid pa (Lv r σ) H (bnd m f r) E) :
    tDt K XR W m σ H fun b H1 => ∃ r1, Sim K hid pa r1 σ H1 ∧ Ext (Lv r σ) H (Lv r1 σ) H1 ∧ wpS K XR W hid pa (Lv r1 σ) H1 (f b r1) E := by
  refine ⟨hid, pa, r, S, ?_⟩
  unfold bnd at h
  cases e : m r with
  | ok a r1 => rw [e] at h; exact fun v H1 S1 E1 _ => ⟨r1, S1, E1, wpS_later h E1⟩
  | exc c fs r1 => rw [e] at h; exact fun C d H' S' E' x => h σ C d H' S' E' x
  | bad => rw [e] at h; exact h
theorem sDi_bnd {m : D (List PyData)} {f : List PyData → D Flow} (S : Sim K hid pa r σ H) (h : wpS K XR W hid pa (Lv r σ) H (bnd m f r) E) :
    tDi K XR W m σ H fun J H1 => ∃ r1 ds, Sim K hid pa r1 σ H1 ∧ Ext (Lv r σ) H (Lv r1 σ) H1 ∧ RJ K (fun x => hid x ∨ Lv r1 σ x) H1 J ds ∧ wpS K XR W hid pa (Lv r1 σ) H1 (f ds r1) E := by
  refine ⟨hid, pa, r, S, ?_⟩
  unfold bnd at h
  cases e : m r with
  | ok a r1 => rw [e] at h; exact fun v H1 S1 E1 D1 => ⟨r1, a, S1, E1, D1, wpS_later h E1⟩
  | exc c fs r1 => rw [e] at h; exact fun C d H' S' E' x => h σ C d H' S' E' x
  | bad => rw [e] at h; exact h
theorem sF_bnd {m : D (List PyData)} {f : List PyData → D Flow} (S : Sim K hid pa r σ H) (h : wpS K XR W hid pa (Lv r σ) H (bnd m f r) E) :
    tF K XR W m σ H fun v H1 => ∃ p ws r1 ds, v = .ref p ∧ H p = none ∧ H1 p = some (.lst ws) ∧ Sim K (fun x => hid x ∨ x = p) pa r1 σ H1 ∧ Ext (Lv r σ) H (Lv r1 σ) H1 ∧ DqAll K (fz (fun x => (hid x ∨ x = p) ∨ Lv r1 σ x) H1) ws ds ∧ wpS K XR W hid pa (Lv r1 σ) H1 (f ds r1) E := by
  refine ⟨hid, pa, r, S, ?_⟩
  unfold bnd at h
  cases e : m r with
  | ok a r1 => rw [e] at h; exact fun p ws H1 np hp S1 E1 D1 => ⟨p, ws, r1, a, rfl, np, hp, S1, E1, D1, wpS_later h E1⟩
  | exc c fs r1 => rw [e] at h; exact fun C d H' S' E' x => h σ C d H' S' E' x
  | bad => rw [e] at h; exact h
theorem PS_mono {s : Stmt} {t t' : TS} (h : PS X s t) (m : ∀ E σ H, t' E σ H → t E σ H) : PS X s t' := ⟨fun pins s σ H E I q => h.run pins s σ H E I (m E σ H q)⟩
theorem PSs_mono {s : List Stmt} {t t' : TS} (h : PSs X s t) (m : ∀ E σ H, t' E σ H → t E σ H) : PSs X s t' := ⟨fun pins s σ H E I q => h.run pins s σ H E I (m E σ H q)⟩
/-- nothing changes -/
theorem ends_here {fl : Flow} (S : Sim K hid pa r σ H) (h : wpS K XR W hid pa (Lv r σ) H (ret fl r) E) : endS K hid pa (Lv r σ) H E r fl := h
theorem ss_seq {s : Stmt} {ss : List Stmt} {m m2 : D Flow} (h1 : PS X s (tDS X.K XR W m)) (h2 : PSs X ss (tDS X.K XR W m2)) :
    PSs X (s :: ss) (tDS X.K XR W (bnd m fun f => match f with | .nx => m2 | g => ret g)) :=
  PSs_mono (pss_cons h1 h2) fun E σ H ⟨hid, pa, r, S, w⟩ => by
    refine ⟨hid, pa, r, S, ?_⟩
    unfold bnd at w
    cases e : m r with
    | bad => rw [e] at w; exact w
    | exc c fs r1 => rw [e] at w; exact w
    | ok fl r1 =>
      rw [e] at w
      cases fl with
      | nx => exact fun σ' H' S' x => ⟨hid, pa, r1, S', wpS_later w x⟩
      | bk => exact w
      | ct => exact w
      | rt v => exact w
theorem ss_if {c : Expr} {a b : List Stmt} {pos : Pos} {mc : D Bool} {m1 m2 : D Flow} (hc : PT X c (tDt X.K XR W mc)) (ha : PSs X a (tDS X.K XR W m1)) (hb : PSs X b (tDS X.K XR W m2)) :
    PS X (.If c a b pos) (tDS X.K XR W (bnd mc fun t => if t then m1 else m2)) :=
  PS_mono (ps_if hc ha hb) fun E σ H ⟨hid, pa, r, S, w⟩ => tDt_imp (sDt_bnd S w) fun b H1 ⟨r1, S1, E1, w1⟩ => by
    cases b with
    | true => rw [if_pos rfl] at w1 ⊢; exact ⟨hid, pa, r1, S1, w1⟩
    | false => rw [if_neg Bool.false_ne_true] at w1 ⊢; exact ⟨hid, pa, r1, S1, w1⟩
theorem ss_while {c : Expr} {body : List Stmt} {pos : Pos} {mc : D Bool} {m : D Flow} {n : Nat} (hp : PassesOwn (model X.prog X.w) X.A X.env X.xe) (hc : PT X c (tDt X.K XR W mc)) (hb : PSs X body (tDS X.K XR W m)) :
    PS X (.While c body [] pos) (tDS X.K XR W (whileN n mc m)) :=
  PS_mono (ps_while hp hc hb) fun E σ H ⟨hid, pa, r, S, w⟩ => by
    refine ⟨fun k σ H => ∃ r, Sim X.K hid pa r σ H ∧ wpS X.K XR W hid pa (Lv r σ) H (whileN k mc m r) E, ⟨n, r, S, w⟩, fun k σ H ⟨r, S, w⟩ => ?_⟩
    cases k with
    | zero => exact w.elim
    | succ k =>
      refine tDt_imp (sDt_bnd S (show wpS X.K XR W hid pa (Lv r σ) H (bnd mc _ r) E from w)) fun b H1 ⟨r1, S1, E1, w1⟩ => ?_
      cases b with
      | false =>
        rw [if_neg Bool.false_ne_true] at w1 ⊢
        exact w1 σ H1 S1 .refl
      | true =>
        rw [if_pos rfl] at w1 ⊢
        refine ⟨_, fun σ' H' h => ⟨k, Nat.lt_succ_self k, h⟩, hid, pa, r1, S1, ?_⟩
        unfold bnd at w1
        cases e : m r1 with
        | bad => rw [e] at w1; exact w1
        | exc c fs r2 => rw [e] at w1; exact w1
        | ok fl r2 =>
          rw [e] at w1
          cases fl with
          | nx => exact fun σ' H' S' x => ⟨r2, S', wpS_later w1 x⟩
          | ct => exact fun σ' H' S' x => ⟨r2, S', wpS_later w1 x⟩
          | bk => exact w1
          | rt v => exact w1
theorem ss_for {tg iter : Expr} {body : List Stmt} {pos : Pos} {mi : D (List PyData)} {t : Tg} {m : D Flow} (hp : PassesOwn (model X.prog X.w) X.A X.env X.xe) (hc : X.calm = true) (hi : PI X tg iter (tDi X.K XR W mi)) (hg : PG X tg (gD X.K t)) (hb : PSs X body (tDS X.K XR W m))
    (hs : ∀ x, foldedSetIterable iter X.env x = pure x) : PS X (.For tg iter body [] pos) (tDS X.K XR W (bnd mi fun xs => forL (fun x => bnd (putT t x) fun _ => m) xs)) :=
  PS_mono (ps_for hp hc hi hg hb hs) fun E σ H ⟨hid, pa, r, S, w⟩ => by
    obtain ⟨hid0, pa0, r0, S0, w0⟩ := sDi_bnd S w
    refine ⟨hid0, pa0, r0, S0, wp_mono w0 fun J ds' r1' H1 _ _ _ q => ?_⟩
    obtain ⟨r1, ds, S1, E1, ⟨SS, jd, hs⟩, w1⟩ := q
    refine ⟨fun i k σ H => k = ds.length - i ∧ i ≤ ds.length ∧ ∃ r, Sim X.K hid pa r σ H ∧ SS (fz (fun x => hid x ∨ Lv r σ x) H) ∧ wpS X.K XR W hid pa (Lv r σ) H (forL (fun x => bnd (putT t x) fun _ => m) (ds.drop i) r) E,
      ⟨ds.length, by simp, Nat.zero_le _, r1, S1, hs, by simpa using w1⟩, fun i k σ H ⟨hk, hi, r, S, hS, w⟩ => ?_⟩
    subst hk
    have sSH : SS H := jd.up _ _ fz_sub hS
    by_cases hlt : i < ds.length
    · refine .inr ⟨jd.go i H sSH hlt, _, fun σ' H' h => ⟨ds.length - (i + 1), by omega, rfl, h⟩, fun x H2 hy => ?_⟩
      obtain ⟨g2, d, ed, dv⟩ := jd.yld i H x H2 _ S.held hS hlt hy
      have hdrop : ds.drop i = d :: ds.drop (i + 1) := by
        rw [List.drop_eq_getElem_cons hlt]
        rw [List.getElem?_eq_getElem hlt] at ed
        rw [Option.some.inj ed]
      rw [hdrop] at w
      have w : wpS X.K XR W hid pa (Lv r σ) H (bnd (bnd (putT t d) fun _ => m) (fun f => match f with | .nx => forL (fun x => bnd (putT t x) fun _ => m) (ds.drop (i + 1)) | .ct => forL (fun x => bnd (putT t x) fun _ => m) (ds.drop (i + 1)) | .bk => ret .nx | .rt v => ret (.rt v)) r) E := w
      rw [bnd_assoc] at w
      refine ⟨hid, pa, r, d, S.grow g2, dv, ?_⟩
      unfold bnd at w
      cases ep : putT t d r with
      | bad => rw [ep] at w; exact w.elim
      | exc c fs r2 => exact absurd ep putT_noexc
      | ok u r2 =>
        rw [ep] at w
        intro σ2 H3 S3 E3 _
        have x3 : Ext (Lv r σ) H (Lv r2 σ2) H3 := g2.ext.trans E3
        refine ⟨hid, pa, r2, S3, ?_⟩
        have w := wpS_later w x3
        simp only at w
        have hS3 : SS (fz (fun x => hid x ∨ Lv r2 σ2 x) H3) := jd.up _ _ x3.sub hS
        cases e : m r2 with
        | bad => rw [e] at w; exact w
        | exc c fs r4 => rw [e] at w; exact w
        | ok fl r4 =>
          rw [e] at w
          cases fl with
          | nx => exact fun σ' H' S' x => ⟨hlt, r4, S', jd.up _ _ x.sub hS3, wpS_later w x⟩
          | ct => exact fun σ' H' S' x => ⟨hlt, r4, S', jd.up _ _ x.sub hS3, wpS_later w x⟩
          | bk => exact w
          | rt v => exact w
    · have hi' : i = ds.length := by omega
      subst hi'
      rw [List.drop_length] at w
      exact .inl ⟨jd.stop H sSH, w σ H S .refl⟩
where
  putT_noexc {t : Tg} {d : PyData} {r r' : Evn} {c : Nat} {fs : List PyData} : putT t d r ≠ .exc c fs r' := putT_ne t d r r'
  putT_ne : ∀ (t : Tg) (d : PyData) (r r' : Evn) {c : Nat} {fs : List PyData}, putT t d r ≠ .exc c fs r'
    | .nm i, d, r, r', c, fs, h => by
      unfold putT at h
      split at h <;> cases h
    | .sub i ix, d, r, r', c, fs, h => by
      unfold putT at h
      split at h
      · split at h <;> cases h
      · cases h
    | .tp ts, d, r, r', c, fs, h => by
      unfold putT at h
      cases d with
      | tuple ds => exact putTs_ne ts ds r r' h
      | _ => cases h
  putTs_ne : ∀ (ts : List Tg) (ds : List PyData) (r r' : Evn) {c : Nat} {fs : List PyData}, putTs ts ds r ≠ .exc c fs r'
    | [], [], r, r', c, fs, h => by cases h
    | [], _ :: _, r, r', c, fs, h => by cases h
    | _ :: _, [], r, r', c, fs, h => by cases h
    | t :: ts, d :: ds, r, r', c, fs, h => by
      have h : bnd (putT t d) (fun _ => putTs ts ds) r = .exc c fs r' := h
      unfold bnd at h
      cases e : putT t d r with
      | ok u r1 => rw [e] at h; exact putTs_ne ts ds r1 r' h
      | exc c fs r1 => exact putT_ne t d r r1 e
      | bad => rw [e] at h; cases h
end
end DL
end
section
set_option maxHeartbeats 200000
set_option maxRecDepth 100000
/-! DX: stores. -/
namespace DL
open PySem L2
/-! ### which stores are swapped -/
def notSD : Expr → Bool
  | .SetComp _ _ _ _ => false
  | .DictComp _ _ _ _ _ => false
  | _ => true
/-- the iterable's name is stored inside the comprehension's last step -/
def swB (sc : Scope) : Expr → Expr → Bool
  | .ListComp _ _ own p, .Name x px => sc.names.lookup x == some .local && px.line == p.line && !(own.names.any fun y => y.1 == x && (y.2 == .local || y.2 == .cell))
  | _, _ => false
theorem blk_fun {env : PySem.Env} (hk : env.scope.kind = .function) : env.blockKind = .function := by
  unfold Env.blockKind
  rw [hk]; rfl
theorem sw_eq {env : PySem.Env} {v t : Expr} {line : Nat} (hk : env.scope.kind = .function) (h : notSD v = true) : swapsWithSole [t] v line env = pure (swB env.scope v t) := by
  cases v <;> first | rfl | (exact Bool.noConfusion h) | skip
  rename_i elt gens scope p
  cases t <;> first | rfl | skip
  rename_i x px
  show (pure (env.blockKind == .function && env.kindOf x == some .local && px.line == p.line && !(scope.names.any fun (n, k) => n == x && (k == .local || k == .cell))) : Sem Bool) = _
  rw [blk_fun hk]
  rfl
/-- no pair is taken apart by hand -/
def stB (sc : Scope) : Expr → Expr → Bool
  | .Tuple ts _ _, .Tuple _ _ _ => ts.any fun t => match t with
    | .Name y _ => !(sc.names.lookup y == some .local)
    | _ => true
  | .List _ _, .Tuple _ _ _ => false
  | _, _ => true
theorem fm_len {α β : Type} {f : α → Option β} : ∀ {l : List α}, (l.filterMap f).length = l.length → ∀ x ∈ l, f x ≠ none
  | [], _, x, h, _ => nomatch h
  | y :: l, h, x, hx, e => by
    have hle := List.length_filterMap_le f l
    cases ey : f y with
    | none =>
      simp only [List.filterMap_cons, ey] at h
      simp only [List.length_cons] at h
      omega
    | some z =>
      simp only [List.filterMap_cons, ey, List.length_cons, Nat.add_right_cancel_iff] at h
      rcases List.mem_cons.mp hx with rfl | hx
      · rw [ey] at e; cases e
      · exact fm_len h x hx e
theorem st_none {env : PySem.Env} {v t : Expr} (h : stB env.scope t v = true) : swappedStores [t] v env = pure none := by
  cases t <;> cases v <;> first | rfl | (exact Bool.noConfusion h) | skip
  rename_i ts k p vs k2 p2
  have h' : (ts.any fun t => match t with | .Name y _ => !(env.scope.names.lookup y == some .local) | _ => true) = true := h
  obtain ⟨t, ht, hb⟩ := List.any_eq_true.mp h'
  unfold swappedStores
  simp only
  split
  · rfl
  · split
    · rfl
    · split
      · rfl
      · rename_i hn
        exfalso
        simp only [Bool.or_eq_true, bne_iff_ne, ne_eq, not_or, Decidable.not_not] at hn
        have q := fm_len hn.1 t ht
        apply q
        split
        · rename_i y py
          simp only at hb
          rw [if_neg]
          intro z
          simp only [Bool.and_eq_true] at z
          have z1 := z.1
          unfold Env.kindOf at z1
          rw [z1] at hb
          cases hb
        · rfl
/-- a plain pair to plain locals -/
def pairB (sc : Scope) (x y : Str) (px py : Pos) (a b : Expr) : Bool := sc.names.lookup x == some .local && sc.names.lookup y == some .local && py.line == px.line && !(x == y) && noStar a && noStar b && !([a, b].all (foldedForSure 8)) && !([a, b].all (constantsAlone 8))
def tripB (sc : Scope) (x y z : Str) (px py pz : Pos) (a b c : Expr) : Bool := sc.names.lookup x == some .local && sc.names.lookup y == some .local && sc.names.lookup z == some .local && py.line == px.line && pz.line == px.line && !(x == y) && !(x == z) && !(y == z) && noStar a && noStar b && noStar c &&
  !([a, b, c].all (foldedForSure 8)) && !([a, b, c].all (constantsAlone 8))
theorem pair_sw {env : PySem.Env} {x y : Str} {px py pt pt2 : Pos} {kt k2 : Nat} {a b : Expr} (hk : env.scope.kind = .function) (h : pairB env.scope x y px py a b = true) : swappedStores [.Tuple [.Name x px, .Name y py] kt pt] (.Tuple [a, b] k2 pt2) env = pure (some [x, y]) := by
  unfold pairB at h
  simp only [Bool.and_eq_true, Bool.not_eq_true', beq_iff_eq] at h
  obtain ⟨⟨⟨⟨⟨⟨⟨h1, h2⟩, h3⟩, h4⟩, h5⟩, h6⟩, h7⟩, h8⟩ := h
  have hxy : x ≠ y := by intro z; subst z; simp at h4
  have e1 : env.kindOf x = some .local := h1
  have e2 : env.kindOf y = some .local := h2
  have hf : ∀ f : Expr → Option Str, f (.Name x px) = some x → f (.Name y py) = some y → ([.Name x px, .Name y py] : List Expr).filterMap f = [x, y] := fun f p1 p2 => by simp [List.filterMap_cons, p1, p2]
  have hd : [x, y].eraseDups.length = 2 := by
    simp [List.eraseDups_cons, List.filter_cons, hxy.symm]
  unfold swappedStores
  simp only
  rw [if_neg (by rw [blk_fun hk]; simp), if_neg (by
    intro z
    rw [List.any_cons, List.any_cons, List.any_nil, Bool.or_false, Bool.or_eq_true] at z
    rcases z with z | z
    · cases a <;> first | (exact Bool.noConfusion z) | (exact Bool.noConfusion h5)
    · cases b <;> first | (exact Bool.noConfusion z) | (exact Bool.noConfusion h6))]
  rw [hf]
  · rw [if_neg (by simp [hd]), if_neg (by rw [h7]; decide), if_neg (by rw [h8]; decide)]
  · show (if (env.kindOf x == some .local && px.line == px.line) = true then some x else none) = some x
    rw [e1]; simp
  · show (if (env.kindOf y == some .local && py.line == px.line) = true then some y else none) = some y
    rw [e2, h3]; simp
theorem trip_sw {env : PySem.Env} {x y z : Str} {px py pz pt pt2 : Pos} {kt k2 : Nat} {a b c : Expr} (hk : env.scope.kind = .function) (h : tripB env.scope x y z px py pz a b c = true) : swappedStores [.Tuple [.Name x px, .Name y py, .Name z pz] kt pt] (.Tuple [a, b, c] k2 pt2) env = pure (some [x, y, z]) := by
  unfold tripB at h
  simp only [Bool.and_eq_true, Bool.not_eq_true', beq_iff_eq] at h
  obtain ⟨⟨⟨⟨⟨⟨⟨⟨⟨⟨⟨⟨h1, h2⟩, h2z⟩, h3⟩, h3z⟩, h4⟩, h4z⟩, h4y⟩, h5⟩, h6⟩, h6z⟩, h7⟩, h8⟩ := h
  have hxy : x ≠ y := by intro z; subst z; simp at h4
  have hxz : x ≠ z := by intro z; subst z; simp at h4z
  have hyz : y ≠ z := by intro z; subst z; simp at h4y
  have e1 : env.kindOf x = some .local := h1
  have e2 : env.kindOf y = some .local := h2
  have e3 : env.kindOf z = some .local := h2z
  have hf : ∀ f : Expr → Option Str, f (.Name x px) = some x → f (.Name y py) = some y → f (.Name z pz) = some z → ([.Name x px, .Name y py, .Name z pz] : List Expr).filterMap f = [x, y, z] := fun f p1 p2 p3 => by simp [List.filterMap_cons, p1, p2, p3]
  have hd : [x, y, z].eraseDups.length = 3 := by
    simp [List.eraseDups_cons, List.filter_cons, hxy.symm, hxz.symm, hyz.symm]
  unfold swappedStores
  simp only
  rw [if_neg (by rw [blk_fun hk]; simp), if_neg (by
    intro z
    rw [List.any_cons, List.any_cons, List.any_cons, List.any_nil, Bool.or_false, Bool.or_eq_true, Bool.or_eq_true] at z
    rcases z with z | z | z
    · cases a <;> first | (exact Bool.noConfusion z) | (exact Bool.noConfusion h5)
    · cases b <;> first | (exact Bool.noConfusion z) | (exact Bool.noConfusion h6)
    · cases c <;> first | (exact Bool.noConfusion z) | (exact Bool.noConfusion h6z))]
  rw [hf]
  · rw [if_neg (by simp [hd]), if_neg (by rw [h7]; decide), if_neg (by rw [h8]; decide)]
  · show (if (env.kindOf x == some .local && px.line == px.line) = true then some x else none) = some x
    rw [e1]; simp
  · show (if (env.kindOf y == some .local && py.line == px.line) = true then some y else none) = some y
    rw [e2, h3]; simp
  · show (if (env.kindOf z == some .local && pz.line == px.line) = true then some z else none) = some z
    rw [e3, h3z]; simp
end DL
end
section
set_option maxHeartbeats 200000
set_option maxRecDepth 100000
/-! DY: stores, lists that grow, returns. -/
namespace DL
open PySem L2
section
variable {X : Cx} {K : PySem.W.Frag} {XR : XRel} {W : WX} {hid : Plc} {pa : Addr} {σ : L2.St} {H H1 : Hp} {r : Evn} {G : Fns} {E : Ends}
/-- a value comes to a target -/
theorem put_end {t : Tg} {d : PyData} {v : V} (S : Sim K hid pa r σ H) (D : Dq K (fz (fun x => hid x ∨ Lv r σ x) H) v d) (w : wpS K XR W hid pa (Lv r σ) H (bnd (putT t d) (fun _ => ret .nx) r) E) : gD K t v σ H E.nx := by
  refine ⟨hid, pa, r, d, S, D, ?_⟩
  unfold bnd at w
  cases e : putT t d r with
  | bad => rw [e] at w; exact w.elim
  | exc c fs r1 => exact absurd e (ss_for.putT_ne t d r r1)
  | ok u r1 =>
    rw [e] at w
    exact fun σ' H' S' x _ => w σ' H' S' x
theorem ss_asg {tg e : Expr} {m : D PyData} {t : Tg} {pos : Pos} (hk : X.env.scope.kind = .function) (he : PE X e (tD X.K XR W m)) (hg : PG X tg (gD X.K t)) (h1 : notSD e = true) (h2 : swB X.env.scope e tg = false) (h3 : stB X.env.scope tg e = true) (h4 : (assignEach [tg] X.env).map (·.2) = [assign tg X.env]) :
    PS X (.Assign [tg] e pos) (tDS X.K XR W (bnd m fun d => bnd (putT t d) fun _ => ret .nx)) :=
  PS_mono (ps_asg he hg (by rw [sw_eq hk h1, h2]) (st_none h3) h4) fun E σ H ⟨hid, pa, r, S, w⟩ => tD_imp (sD_bnd S w) fun v H1 ⟨r1, d, S1, E1, D1, w1⟩ => put_end S1 D1 w1
/-- a new list comes to a slot -/
theorem own_end {i : Nat} {p : Addr} {ws : List V} {ds : List PyData} (np : ¬ hid p) (hp : H p = some (.lst ws)) {L : Plc} {H0 : Hp} (x0 : Ext L H0 (Lv r σ) H) (n0 : H0 p = none) (S : Sim K (fun x => hid x ∨ x = p) pa r σ H) (D : DqAll K (fz (fun x => (hid x ∨ x = p) ∨ Lv r σ x) H) ws ds)
    (w : i < r.length ∧ endS K hid pa L H0 E (r.set i (.ow false ds)) .nx) : E.nx (σ.set i (some (.ref p))) H := by
  obtain ⟨hi, w⟩ := w
  refine w _ _ (S.own hi hp np D) ⟨x0.keep, fun a z => ?_, x0.dom⟩
  obtain ⟨j, t, es, e1, e2⟩ := z
  rcases set_get e1 with ⟨rfl, q⟩ | ⟨q, e1⟩
  · rw [set_self (by rw [← S.len]; exact hi)] at e2
    cases e2
    exact .inr n0
  · rw [set_other q] at e2
    exact x0.liv a ⟨j, t, es, e1, e2⟩
theorem ss_asgF {x : Str} {px : Pos} {e : Expr} {m : D (List PyData)} {i : Nat} {pos : Pos} (hk : X.env.scope.kind = .function) (he : PE X e (tF X.K XR W m)) (hg : PG X (.Name x px) (gName i)) (h1 : notSD e = true) (h2 : swB X.env.scope e (.Name x px) = false) :
    PS X (.Assign [.Name x px] e pos) (tDS X.K XR W (bnd m fun ds r => if i < r.length then .ok .nx (r.set i (.ow false ds)) else .bad)) :=
  PS_mono (ps_asg he hg (by rw [sw_eq hk h1, h2]) (st_none (by cases e <;> rfl)) rfl) fun E σ H ⟨hid, pa, r, S, w⟩ => tF_imp (asgF_core S w) fun v H1 q => q
where
  asgF_core {K : PySem.W.Frag} {XR : XRel} {W : WX} {hid : Plc} {pa : Addr} {σ : L2.St} {H : Hp} {r : Evn} {E : Ends} {m : D (List PyData)} {i : Nat} (S : Sim K hid pa r σ H) (w : wpS K XR W hid pa (Lv r σ) H (bnd m (fun ds r => if i < r.length then .ok .nx (r.set i (.ow false ds)) else .bad) r) E) :
      tF K XR W m σ H fun v H1 => gName i v σ H1 E.nx := by
    refine ⟨hid, pa, r, S, ?_⟩
    unfold bnd at w
    cases e : m r with
    | bad => rw [e] at w; exact w.elim
    | exc c fs r1 => rw [e] at w; exact fun C d H' S' E' x => w σ C d H' S' E' x
    | ok ds r1 =>
      rw [e] at w
      intro p ws H1 np hp S1 E1 D1
      by_cases hi : i < r1.length
      · simp only [if_pos hi] at w
        exact own_end (hid := hid) (pa := pa) (K := K) (fun z => S.hd p z np) hp E1 np S1 D1 ⟨hi, w⟩
      · simp only [if_neg hi] at w
        exact w.elim
/-! ### name = [.. for ..] on one line -/
section
variable {own : List Nat} {t : Tg} {ci : Option Ex} {ee : Ex} {it : Itr} {elt iter tg : Expr} {ifs : List Expr} {scope : Scope} {pos : Pos}
theorem comp_to {Q : VK} (hown : ∀ i ∈ tgSlots t, i ∈ own) (h : tD K XR W (den G (.comp t it ci ee own)) σ H Q) : tLc (tDi K XR W (denI G it)) (gD K t) (tDt K XR W0 (denC G ci)) (tD K XR W0 (den G ee)) own σ H Q := by
  obtain ⟨hid, pa, r, S, w⟩ := h
  have w : wp K XR W hid pa σ (R1 K) (Lv r σ) H (bnd (denI G it) (fun xs => bnd (compD own t (denC G ci) (den G ee) xs) fun ys => ret (.list ys)) r) (fun v _ _ H' => Q v H') := w
  refine lc_core S hown (wp_mono (wp_bnd (R := RJ K) w) fun J xs r1 H1 S1 E1 D1 w1 => ?_)
  unfold bnd at w1
  cases ec : compD own t (denC G ci) (den G ee) xs r1 with
  | bad => rw [ec] at w1; exact w1.elim
  | exc k fs r2 => exact absurd ec compD_noexc
  | ok ys r2 =>
  rw [ec] at w1
  refine ⟨ys, r2, rfl, fun D H' acc nD hD S2 E2 D2 => ?_⟩
  have w1 : wp K XR W hid pa σ (R1 K) (Lv r1 σ) H1 (.ok (.list ys) r2) (fun v _ _ H' => Q v H') := w1
  have sb : Sub (fz (fun x => (hid x ∨ x = D) ∨ Lv r2 σ x) H') (fz (fun x => hid x ∨ Lv r2 σ x) H') := sub_plc fun x z => z.elim (fun z => .inl (.inl z)) .inr
  refine w1 (.ref D) H' (S2.less fun x z => .inl z) E2 (.lst (.inl (.inl (fz_some.mpr ⟨fun z => ?_, hD⟩))) (DpAll_mono sb D2))
  rcases z with z | z
  · exact S1.hd D z nD
  · obtain ⟨_, _, z⟩ := S2.lv_some z
    exact z (.inr rfl)
theorem compF_to {Q : VK} (hown : ∀ i ∈ tgSlots t, i ∈ own) (h : tF K XR W (denF G (.comp t it ci ee own)) σ H Q) : tLc (tDi K XR W (denI G it)) (gD K t) (tDt K XR W0 (denC G ci)) (tD K XR W0 (den G ee)) own σ H Q := by
  obtain ⟨hid, pa, r, S, w⟩ := h
  have w : wpF K XR W hid pa σ (Lv r σ) H (bnd (denI G it) (fun xs => compD own t (denC G ci) (den G ee) xs) r) (fun p _ H' => Q (.ref p) H') := w
  refine lc_core S hown ?_
  unfold bnd at w
  cases ei : denI G it r with
  | bad => rw [ei] at w; exact w.elim
  | exc k fs r1 => rw [ei] at w; exact w
  | ok xs r1 =>
  rw [ei] at w
  intro J H1 S1 E1 D1
  have w := wpF_later w E1
  have w : wpF K XR W hid pa σ (Lv r1 σ) H1 (compD own t (denC G ci) (den G ee) xs r1) (fun p _ H' => Q (.ref p) H') := w
  cases ec : compD own t (denC G ci) (den G ee) xs r1 with
  | bad => rw [ec] at w; exact w.elim
  | exc k fs r2 => exact absurd ec compD_noexc
  | ok ys r2 =>
  rw [ec] at w
  exact ⟨ys, r2, rfl, fun D H' acc nD hD S2 E2 D2 => w D acc H' nD hD S2 E2 D2⟩
/-- the rule, with the swap -/
theorem ss_lcSet {i : Nat} {y : Str} {py spos : Pos} (hc : X.calm = true) (nd : X.N.Nodup) (hy : X.N[i]? = some y) (hyl : X.env.scope.names.lookup y = some .local) (hk : X.env.scope.kind = .function) (hsw : swB X.env.scope (.ListComp elt [⟨tg, iter, ifs, 0⟩] scope pos) (.Name y py) = true)
    (hown : ∀ i ∈ tgSlots t, i ∈ own) (hb : blkC X.N X.env.scope scope (own.map fun i => ((X.N.getD i "" : Str), i)) = true)
    (hi : PI X tg iter (tDi X.K XR W (denI G it))) (hg : chkTg X.N (relS scope X.env.scope) (fun x => scope.names.lookup x == some .cell) t tg = true)
    (ht : ∀ (s : Shared) (H : Hp) (C : Addr) (cl : List (Str × Addr)) (fp : List Addr), PTs (X.blk s H scope (compEnvC scope cl C X.env) fp) ifs (tDt X.K XR W0 (denC G ci)))
    (he : ∀ (s : Shared) (H : Hp) (C : Addr) (cl : List (Str × Addr)) (fp : List Addr), PE (X.blk s H scope (compEnvC scope cl C X.env) fp) elt (tD X.K XR W0 (den G ee))) (hs : ∀ x, foldedSetIterable iter X.env x = pure x) :
    PS X (.Assign [.Name y py] (.ListComp elt [⟨tg, iter, ifs, 0⟩] scope pos) spos) (tAsg (tLc (tDi X.K XR W (denI G it)) (gD X.K t) (tDt X.K XR W0 (denC G ci)) (tD X.K XR W0 (den G ee)) own) (gName i)) := by
  have h0 := sw_eq (env := X.env) (v := .ListComp elt [⟨tg, iter, ifs, 0⟩] scope pos) (t := .Name y py) (line := spos.line) hk rfl
  rw [hsw] at h0
  have q := ps_setLc (g := gD X.K t) (own := own.map fun i => ((X.N.getD i "" : Str), i)) (pos := pos) (spos := spos) hc nd hy hyl h0 hi (blkOk_by hb) (fun s H C cl fp => sound_Tg (X := X.blk s H scope (compEnvC scope cl C X.env) fp) hc nd (fun x h => h) t tg hg) ht he hs
  rw [ownMap] at q
  exact q
end
/-- a value to a slot, as gName has it -/
theorem gName_end {i : Nat} {d : PyData} {v : V} (S : Sim K hid pa r σ H) (D : Dq K (fz (fun x => hid x ∨ Lv r σ x) H) v d) (w : wpS K XR W hid pa (Lv r σ) H (bnd (putT (.nm i) d) (fun _ => ret .nx) r) E) : gName i v σ H E.nx := by
  have w : wpS K XR W hid pa (Lv r σ) H (bnd (fun r => if i < r.length then .ok () (r.set i (.pu d)) else .bad) (fun _ => ret .nx) r) E := w
  unfold bnd at w
  by_cases hi : i < r.length
  · simp only [if_pos hi] at w
    exact w _ _ (S.put hi D) ⟨fun _ _ e _ => e, fun _ z => .inl (lv_set_pu z), fun _ z => z⟩
  · simp only [if_neg hi] at w
    exact w.elim
/-! ### lists that grow -/
def rExtK (K : PySem.W.Frag) : V → List V → Hp → VK → Prop := fun x vs H Q => ∃ l b xs zs, x = .ref l ∧ vs = [.ref b] ∧ H l = some (.lst xs) ∧ LsK K H b zs ∧ xs.length + zs.length ≤ sizeLine ∧ Q .non (upd H l (.lst (xs ++ zs)))
theorem mt_extK : MtM X "list.extend" (rExtK X.K) := by
  intro pins s σ H x vs v us Q I rx rv h
  obtain ⟨l, b, xs, zs, rfl, rfl, hH, hB, hz, q⟩ := h
  cases rx
  obtain ⟨u, rfl, ru⟩ := rv.one
  cases ru
  obtain ⟨z, its, n, r, hl, e⟩ := I.lstM hH
  obtain ⟨its2, n2, r2, e2⟩ := Inv.isl I hB
  have hl2 := r2.length
  have hsz : its.toArray.size + its2.toArray.size ≤ sizeLine := by rw [List.size_toArray, List.size_toArray]; omega
  have hlong : ¬ (!its.toArray.isEmpty && Builtin.List.listTooLong (its.toArray.size + its2.toArray.size)) = true := by
    rw [notLongL hsz, Bool.and_false]
    exact Bool.false_ne_true
  refine PySem.call_meets PySem.F.slot_list_extend ⟨_, e, rfl⟩ PySem.F.entry_list_extend (PySem.F.args_list_extend_2 _ _)
    (AutoSeq1.list_extend_list_list_0 l its.toArray n b its2.toArray n2 hlong (by rw [List.size_toArray]; omega) (by omega)) ⟨e, e2, ?_⟩
  refine ⟨.non, _, I.lset (its' := its ++ its2) hH e (by simp) (r.append r2) ?_, rfl, q⟩
  rw [List.length_append]
  omega
theorem line_ok {p q : Pos} (h : (p.endLine == q.line) = true) : (p.endLine == q.line) = true := h
theorem pe_mt {i : Nat} {x name : Str} {px ap cp : Pos} {e : Expr} {m : D PyData} {id : String} {rr : V → List V → Hp → VK → Prop} (h1 : X.N[i]? = some x) (h2 : visB X.env.scope x = true) (h3 : okName x = true) (hs : noStar e = true) (hl : (ap.endLine == cp.line) = true)
    (slot : Slot "list" name id) (hty : typeOf (.builtin id) = pure (.type "method_descriptor")) (hm : MtR X id rr) (he : PE X e (tD X.K XR W m)) : PE X (.Call (.Attribute (.Name x px) name ap) [e] [] cp) (tBM X.K "list" rr (tVar i) (tCons (tD X.K XR W m) tNil)) := by
  obtain ⟨o1, o2⟩ := okName_of h3
  exact pe_bm PySem.F.plainAttrs_list slot hty hm (pe_var h1 (vis_of h2) o1 o2) (pa_cons he pa_nil (star_of hs [])) rfl (by rw [star_of hs]; rfl) hl (star_of hs []) rfl
/-- a list changed at its slot -/
theorem grow_core {i : Nat} {f : PyData → List PyData → Option (List PyData)} {m : D PyData} {rr : V → List V → Hp → VK → Prop} (S : Sim K hid pa r σ H)
    (w : wpS K XR W hid pa (Lv r σ) H (ifOwn i (bnd m fun d => onOwn i (f d)) r) E)
    (hr : ∀ (a : Addr) (v : V) (vs : List V) (d : PyData) (ds ds' : List PyData) (P : Plc) (H1 : Hp) (Q : VK), H1 a = some (.lst vs) → DqAll K (fz P H1) vs ds → Dq K (fz P H1) v d → f d ds = some ds' → (∀ a, P a → H1 a ≠ none) → P a →
      (∀ vs', DqAll K (fz P H1) vs' ds' → Q .non (upd H1 a (.lst vs'))) → rr (.ref a) [v] H1 Q) : tDrop (tBM K "list" rr (tVar i) (tCons (tD K XR W m) tNil)) E σ H := by
  unfold ifOwn at w
  cases es : getS r i with
  | un => rw [es] at w; exact w.elim
  | pu d => rw [es] at w; exact w.elim
  | ow t ds =>
    rw [es] at w
    simp only at w
    obtain ⟨a, vs, e1, e2, _⟩ := S.ow i t ds (getS_some es (fun z => nomatch z))
    refine ⟨.ref a, e1, .inl ⟨rfl, vs, .inl (.inl e2)⟩, ?_⟩
    refine tD_imp (sD_bnd S w) fun v H1 ⟨r1, d, S1, E1, D1, w1⟩ => ?_
    unfold onOwn at w1
    cases es1 : getS r1 i with
    | un => rw [es1] at w1; exact w1.elim
    | pu d => rw [es1] at w1; exact w1.elim
    | ow t1 ds1 =>
      rw [es1] at w1
      simp only at w1
      have er := getS_some es1 (fun z => nomatch z)
      obtain ⟨b, vs1, b1, b2, b3, b4, b5⟩ := S1.ow i t1 ds1 er
      rw [e1] at b1
      cases b1
      cases ef : f d ds1 with
      | none => rw [ef] at w1; exact w1.elim
      | some ds' =>
        rw [ef] at w1
        refine hr a v vs1 d ds1 ds' _ H1 _ b2 b4 D1 ef S1.held (.inr ⟨i, t1, ds1, er, e1⟩) fun vs' q => ?_
        exact w1 _ _ (S1.chg er e1 q) (Ext.chg er e1)
end
end DL
end
section
set_option maxHeartbeats 200000
set_option maxRecDepth 100000
/-! DZ: pairs stored, returns; every checked statement keeps its meaning. -/
namespace DL
open PySem L2
section
variable {X : Cx} {K : PySem.W.Frag} {XR : XRel} {W : WX} {hid : Plc} {pa : Addr} {σ : L2.St} {H H1 : Hp} {r : Evn} {G : Fns} {E : Ends}
inductive AwP (K : PySem.W.Frag) (F : Hp) (H : Hp) : List V → List Aw → Prop
  | nil : AwP K F H [] []
  | pu {v : V} {d : PyData} {vs : List V} {l : List Aw} : Dq K F v d → AwP K F H vs l → AwP K F H (v :: vs) (.pu d :: l)
  | rf {v : V} {i : Nat} {vs : List V} {l : List Aw} : AwP K F H vs l → AwP K F H (v :: vs) (.rf i :: l)
  | fr {p : Addr} {ws : List V} {ds : List PyData} {vs : List V} {l : List Aw} : H p = some (.lst ws) → DqAll K F ws ds → AwP K F H vs l → AwP K F H (.ref p :: vs) (.fr ds :: l)
theorem AwR.plain {F : Hp} {Z : Plc} : ∀ {vs : List V} {l : List Aw}, AwR K F Z r σ H vs l → AwP K F H vs l
  | _, _, .nil => .nil
  | _, _, .pu a t => .pu a (AwR.plain t)
  | _, _, .rf a t => .rf (AwR.plain t)
  | _, _, .fr a b c t => .fr b c (AwR.plain t)
theorem AwP.mono {F F' : Hp} (m : Sub F F') : ∀ {vs : List V} {l : List Aw}, AwP K F H vs l → AwP K F' H vs l
  | _, _, .nil => .nil
  | _, _, .pu a t => .pu (Dp_mono m a) (AwP.mono m t)
  | _, _, .rf t => .rf (AwP.mono m t)
  | _, _, .fr b c t => .fr b (DpAll_mono m c) (AwP.mono m t)
def setMany : L2.St → List Nat → List V → L2.St
  | σ, i :: is, v :: vs => setMany (σ.set i (some v)) is vs
  | σ, _, _ => σ
theorem many_end {L0 : Plc} {H0 : Hp} : ∀ {is : List Nat} {l : List Aw} {vs : List V} {r : Evn} {σ : L2.St}, Sim K (fun x => hid x ∨ FrA l vs x) pa r σ H → AwP K (fz (fun x => (hid x ∨ FrA l vs x) ∨ Lv r σ x) H) H vs l → FrD l vs →
    (∀ x, FrA l vs x → ¬ hid x ∧ H0 x = none) → Ext L0 H0 (Lv r σ) H → wpS K XR W hid pa L0 H0 (bnd (putMany is l) (fun _ => ret .nx) r) E → is.length = vs.length ∧ E.nx (setMany σ is vs) H
  | [], [], vs, r, σ, S, A, f, n, x, w => by
    cases A
    exact ⟨rfl, w σ H (S.less fun x z => .inl z) x⟩
  | [], _ :: _, vs, r, σ, S, A, f, n, x, w => w.elim
  | _ :: _, [], vs, r, σ, S, A, f, n, x, w => w.elim
  | i :: is, .rf k :: l, vs, r, σ, S, A, f, n, x, w => w.elim
  | i :: is, .pu d :: l, vs, r, σ, S, A, f, n, x, w => by
    cases A with
    | @pu v _ vs _ a t =>
      have w : wpS K XR W hid pa L0 H0 (bnd (bnd (fun r => if i < r.length then .ok () (r.set i (.pu d)) else .bad) fun _ => putMany is l) (fun _ => ret .nx) r) E := w
      rw [bnd_assoc] at w
      unfold bnd at w
      by_cases hi : i < r.length
      · simp only [if_pos hi] at w
        have S2 := S.put hi a
        have q := many_end (is := is) (l := l) S2 (t.mono (sub_plc fun x z => Or.imp id lv_set_pu z)) f n ⟨x.keep, fun a z => x.liv a (lv_set_pu z), x.dom⟩ w
        exact ⟨by simp [q.1], q.2⟩
      · simp only [if_neg hi] at w
        exact w.elim
  | i :: is, .fr ds :: l, vs, r, σ, S, A, f, n, x, w => by
    cases A with
    | @fr p ws _ vs _ hp D t =>
      have w : wpS K XR W hid pa L0 H0 (bnd (bnd (fun r => if i < r.length then .ok () (r.set i (.ow false ds)) else .bad) fun _ => putMany is l) (fun _ => ret .nx) r) E := w
      rw [bnd_assoc] at w
      unfold bnd at w
      by_cases hi : i < r.length
      · simp only [if_pos hi] at w
        obtain ⟨f1, f2⟩ := f
        obtain ⟨n1, n2⟩ := n p (.inl rfl)
        have eq1 : ∀ x, ((hid x ∨ FrA l vs x) ∨ x = p) → (hid x ∨ FrA (.fr ds :: l) (.ref p :: vs) x) := fun x z => z.elim (fun z => z.imp id .inr) fun z => .inr (.inl (by rw [z]))
        have eq2 : ∀ x, (hid x ∨ FrA (.fr ds :: l) (.ref p :: vs) x) → ((hid x ∨ FrA l vs x) ∨ x = p) := fun x z => z.elim (fun z => .inl (.inl z)) fun z => z.elim (fun z => .inr (V.ref.inj z).symm) fun z => .inl (.inr z)
        have np : ¬ (hid p ∨ FrA l vs p) := fun z => z.elim n1 (f1 p rfl)
        have S2 : Sim K (fun x => hid x ∨ FrA l vs x) pa (r.set i (.ow false ds)) (σ.set i (some (.ref p))) H := Sim.own (hid := fun x => hid x ∨ FrA l vs x) (S.less eq1) hi hp np (DpAll_mono (sub_plc fun x z => z.imp (eq1 x) id) D)
        have lv : ∀ a, Lv (r.set i (.ow false ds)) (σ.set i (some (.ref p))) a → Lv r σ a ∨ a = p := fun a ⟨j, t, es, e1, e2⟩ => by
          rcases set_get e1 with ⟨rfl, q⟩ | ⟨q, e1⟩
          · rw [set_self (by rw [← S.len]; exact hi)] at e2
            cases e2
            exact .inr rfl
          · rw [set_other q] at e2
            exact .inl ⟨j, t, es, e1, e2⟩
        have x2 : Ext L0 H0 (Lv (r.set i (.ow false ds)) (σ.set i (some (.ref p)))) H := ⟨x.keep, fun a z => (lv a z).elim (x.liv a) fun z => .inr (by rw [z]; exact n2), x.dom⟩
        have sb : Sub (fz (fun x => (hid x ∨ FrA (.fr ds :: l) (.ref p :: vs) x) ∨ Lv r σ x) H) (fz (fun x => (hid x ∨ FrA l vs x) ∨ Lv (r.set i (.ow false ds)) (σ.set i (some (.ref p))) x) H) := sub_plc fun x z => by
          rcases z with z | z
          · exact .inl (eq1 x (.inl z))
          · rcases lv x z with z | z
            · exact .inr z
            · exact .inl (eq1 x (.inr z))
        have q := many_end (is := is) (l := l) S2 (t.mono sb) f2 (fun x z => n x (.inr z)) x2 w
        exact ⟨by simp [q.1], q.2⟩
      · simp only [if_neg hi] at w
        exact w.elim
/-- several values, then stored -/
theorem par_core {args : List Ar} {is : List Nat} (hX : ∀ c fs F F' C d H, Sub F F' → XR c fs F C d H → XR c fs F' C d H) (S : Sim K hid pa r σ H) (w : wpS K XR W hid pa (Lv r σ) H (bnd (denA G args) (fun l => bnd (putMany is l) fun _ => ret .nx) r) E) :
    tAr K XR W G args σ H fun vs H1 => is.length = vs.length ∧ E.nx (setMany σ is vs) H1 := by
  unfold bnd at w
  refine denA_tAr hX (Q := fun vs l r' H' => wpS K XR W hid pa (Lv r σ) H (bnd (putMany is l) (fun _ => ret .nx) r') E) S ?_ fun vs l r' H1 S1 E1 n1 f1 A1 hq => ?_
  · cases ea : denA G args r with
    | bad => rw [ea] at w; exact w.elim
    | exc c fs r2 => rw [ea] at w; exact fun C d H' S' E' x => w σ C d H' S' E' x
    | ok l r1 => rw [ea] at w; exact fun vs H1 _ _ _ _ _ => w
  · exact many_end S1 A1.plain f1 (fun x z => ⟨fun y => S.hd x y (n1 x z), n1 x z⟩) E1 hq
/-- an owned list is given away -/
theorem Sim.release (S : Sim K hid pa r σ H) {i : Nat} {t : Bool} {ds : List PyData} {a : Addr} (e : r[i]? = some (.ow t ds)) (ea : σ[i]? = some (some (.ref a))) : Sim K (fun x => hid x ∨ x = a) pa (r.set i .un) σ H ∧ (∀ x, Lv (r.set i .un) σ x → Lv r σ x) := by
  have lv : ∀ x, Lv (r.set i .un) σ x → Lv r σ x := fun x ⟨j, u, es, e1, e2⟩ => by
    rcases set_get e1 with ⟨_, q⟩ | ⟨_, e1⟩
    · cases q
    · exact ⟨j, u, es, e1, e2⟩
  have lva : Lv r σ a := ⟨i, t, ds, e, ea⟩
  have sb : Sub (fz (fun x => hid x ∨ Lv r σ x) H) (fz (fun x => (hid x ∨ x = a) ∨ Lv (r.set i .un) σ x) H) := sub_plc fun x z => by
    rcases z with (z | z) | z
    · exact .inl z
    · exact .inr (by rw [z]; exact lva)
    · exact .inr (lv x z)
  refine ⟨⟨by rw [List.length_set]; exact S.len, fun j d q => ?_, fun j u es q => ?_, fun x z => ?_, fun j k u u' es es' b q1 q2 p1 p2 => ?_⟩, lv⟩
  · rcases set_get q with ⟨_, q⟩ | ⟨_, q⟩
    · cases q
    · obtain ⟨v, z1, z2⟩ := S.pu j d q
      exact ⟨v, z1, Dp_mono sb z2⟩
  · rcases set_get q with ⟨_, q⟩ | ⟨n, q⟩
    · cases q
    · obtain ⟨b, ws, z1, z2, z3, z4, z5⟩ := S.ow j u es q
      exact ⟨b, ws, z1, z2, fun z => z.elim z3 fun z => by subst z; exact n (S.inj j i u t es ds b q e z1 ea), DpAll_mono sb z4, z5⟩
  · rcases z with z | z
    · exact S.hd x z
    · obtain ⟨vs, z1, _⟩ := S.lv_some lva
      rw [z, z1]; exact fun z => nomatch z
  · rcases set_get q1 with ⟨_, q⟩ | ⟨_, q1⟩
    · cases q
    · rcases set_get q2 with ⟨_, q⟩ | ⟨_, q2⟩
      · cases q
      · exact S.inj j k u u' es es' b q1 q2 p1 p2
theorem ss_ret {e : Expr} {m : D PyData} {pos : Pos} (he : PE X e (tD X.K XR W m)) : PS X (.Return (some e) pos) (tDS X.K XR W (bnd m fun d => ret (.rt (.pu d)))) :=
  PS_mono (ps_ret he) fun E σ H ⟨hid, pa, r, S, w⟩ => tD_imp (sD_bnd S w) fun v H1 ⟨r1, d, S1, E1, D1, w1⟩ => w1 σ H1 v .refl ⟨S1, D1⟩
theorem ss_retN {pos : Pos} : PS X (.Return none pos) (tDS X.K XR W (ret (.rt (.pu .none)))) :=
  PS_mono ps_retN fun E σ H ⟨hid, pa, r, S, w⟩ => w σ H .non .refl ⟨S, .non⟩
theorem ss_retF {e : Expr} {m : D (List PyData)} {pos : Pos} (he : PE X e (tF X.K XR W m)) : PS X (.Return (some e) pos) (tDS X.K XR W (bnd m fun ds => ret (.rt (.fr ds)))) :=
  PS_mono (ps_ret he) fun E σ H ⟨hid, pa, r, S, w⟩ => by
    refine ⟨hid, pa, r, S, ?_⟩
    unfold bnd at w
    cases e : m r with
    | bad => rw [e] at w; exact w.elim
    | exc c fs r1 => rw [e] at w; exact fun C d H' S' E' x => w σ C d H' S' E' x
    | ok ds r1 =>
      rw [e] at w
      exact fun p ws H1 np hp S1 E1 D1 => w σ H1 (.ref p) E1 ⟨p, ws, rfl, hp, .inr np, S1, D1⟩
theorem ss_retO {i : Nat} {x : Str} {px pos : Pos} (h1 : X.N[i]? = some x) (h2 : visB X.env.scope x = true) (h3 : okName x = true) : PS X (.Return (some (.Name x px)) pos) (tDS X.K XR W (denS G (.retO i))) := by
  obtain ⟨o1, o2⟩ := okName_of h3
  refine PS_mono (ps_ret (pe_var h1 (vis_of h2) o1 o2)) fun E σ H ⟨hid, pa, r, S, w⟩ => ?_
  have w : wpS X.K XR W hid pa (Lv r σ) H (match getS r i with | .ow false ds => .ok (.rt (.fr ds)) (r.set i .un) | _ => .bad) E := w
  cases es : getS r i with
  | un => rw [es] at w; exact w.elim
  | pu d => rw [es] at w; exact w.elim
  | ow t ds =>
    cases t with
    | true => rw [es] at w; exact w.elim
    | false =>
      rw [es] at w
      have er := getS_some es (fun z => nomatch z)
      obtain ⟨a, vs, q1, q2, q3, q4, _⟩ := S.ow i false ds er
      obtain ⟨S2, lv⟩ := S.release er q1
      have lva : Lv r σ a := ⟨i, false, ds, er, q1⟩
      refine ⟨.ref a, q1, w σ H (.ref a) ⟨fun _ _ e _ => e, fun x z => .inl (lv x z), fun _ z => z⟩ ⟨a, vs, rfl, q2, .inl lva, S2, DpAll_mono (sub_plc fun x z => ?_) q4⟩⟩
      rcases z with (z | z) | z
      · exact .inl z
      · exact .inr (by rw [z]; exact lva)
      · exact .inr (lv x z)
end
end DL
end
section
set_option maxHeartbeats 200000
set_option maxRecDepth 100000
/-! EA: every checked statement keeps its meaning. -/
namespace DL
open PySem L2
def noComp : Expr → Bool
  | .ListComp _ _ _ _ => false
  | .SetComp _ _ _ _ => false
  | .DictComp _ _ _ _ _ => false
  | _ => true
theorem noComp_of {e : Expr} {l : Nat} {env : PySem.Env} (h : noComp e = true) : swapsWith e none l env = pure false := by
  cases e <;> first | rfl | (exact Bool.noConfusion h)
def chkPar (T : Tab) (N : List Str) (sc : Scope) (is : List Nat) (as : List Ar) (t v : Expr) : Bool := match is, t, v with
  | [i, j], .Tuple [.Name x px, .Name y py] _ _, .Tuple [a, b] _ _ => decide (N[i]? = some x) && decide (N[j]? = some y) && decide (i ≠ j) && pairB sc x y px py a b && chkA T N sc as [a, b]
  | [i, j, l], .Tuple [.Name x px, .Name y py, .Name z pz] _ _, .Tuple [a, b, c] _ _ => decide (N[i]? = some x) && decide (N[j]? = some y) && decide (N[l]? = some z) && decide (i ≠ j) && decide (i ≠ l) && decide (j ≠ l) && tripB sc x y z px py pz a b c && chkA T N sc as [a, b, c]
  | _, _, _ => false
mutual
def chkS (T : Tab) (N : List Str) (sc : Scope) (own : Str → Bool) : Sm → Stmt → Bool
  | .asg tg m, .Assign [t] v _ => chkE T N sc m v && chkTg N sc own tg t && notSD v && stB sc t v
  | .asgF i m, .Assign [.Name x px] v _ => chkE T N sc m v && decide (N[i]? = some x) && locB sc own x && notSD v
  | .par is as, .Assign [t] v _ => chkPar T N sc is as t v
  | .app i m, .Expr (.Call (.Attribute (.Name x _) nm ap) [e] [] cp) _ => decide (nm = "append") && decide (N[i]? = some x) && visB sc x && okName x && (ap.endLine == cp.line) && chkE T N sc m e
  | .ext i m, .Expr (.Call (.Attribute (.Name x _) nm ap) [e] [] cp) _ => decide (nm = "extend") && decide (N[i]? = some x) && visB sc x && okName x && (ap.endLine == cp.line) && chkE T N sc m e
  | .expr m, .Expr e _ => noComp e && chkE T N sc m e
  | .doc, .Expr (.Constant (.str _) _ _) _ => true
  | .ret m, .Return (some e) _ => chkE T N sc m e
  | .retN, .Return none _ => true
  | .retF m, .Return (some e) _ => chkE T N sc m e
  | .retO i, .Return (some (.Name x _)) _ => decide (N[i]? = some x) && visB sc x && okName x
  | .ifs c a b, .If t p q _ => chkE T N sc c t && chkB T N sc own a p && chkB T N sc own b q
  | .whl c b, .While t p [] _ => chkE T N sc c t && chkB T N sc own b p
  | .fr tg it b, .For t iter p [] _ => chkTg N sc own tg t && chkI T N sc it t iter && chkB T N sc own b p
  | .brk, .Break _ => true
  | .cnt, .Continue _ => true
  | .pass, .Pass _ => true
  | .nev, _ => true
  | _, _ => false
def chkB (T : Tab) (N : List Str) (sc : Scope) (own : Str → Bool) : List Sm → List Stmt → Bool
  | [], [] => true
  | s :: ss, st :: sts => chkS T N sc own s st && chkB T N sc own ss sts
  | _, _ => false
end
section
variable {XR : XRel} {G : Fns} {T : Tab}
structure StOk (X : Cx) (W : WX) (own : Str → Bool) : Prop where
  tk : Takes X W
  hp : PassesOwn (model X.prog X.w) X.A X.env X.xe
  ho : ∀ x, own x = true → X.fn x = true
  hk : X.env.scope.kind = .function
section
variable {X : Cx} {W : WX} {own : Str → Bool}
theorem inv_nmComp {elt t iter : Expr} {ifs : List Expr} {k : Nat} {gens : List Comprehension} {scope : Scope} {p : Pos} {m : Ex} {N : List Str} {sc : Scope} (h : chkE T N sc m (.ListComp elt gens scope p) = true) : ∃ tg it c e o, m = .comp tg it c e o := by
  cases m <;> first | (exact ⟨_, _, _, _, _, rfl⟩) | (exact Bool.noConfusion h) | (simp [chkE] at h)
theorem nm_slot {N : List Str} {sc : Scope} {tg : Tg} {x : Str} {p : Pos} (h : chkTg N sc own tg (.Name x p) = true) : ∃ i, tg = .nm i ∧ N[i]? = some x := by
  cases tg <;> first | (exact Bool.noConfusion h) | skip
  rename_i i
  have h' : (decide (N[i]? = some x) && locB sc own x) = true := h
  exact ⟨i, rfl, of_decide_eq_true (and2 h').1⟩
theorem swB_inv {sc : Scope} {v t : Expr} (h : swB sc v t = true) : ∃ elt gens scope p x px, v = .ListComp elt gens scope p ∧ t = .Name x px ∧ sc.names.lookup x = some .local := by
  cases v <;> first | (exact Bool.noConfusion h) | skip
  cases t <;> first | (exact Bool.noConfusion h) | skip
  rename_i elt gens scope p x px
  have h' : (sc.names.lookup x == some .local && px.line == p.line && !(scope.names.any fun y => y.1 == x && (y.2 == .local || y.2 == .cell))) = true := h
  exact ⟨_, _, _, _, _, _, rfl, rfl, by simpa using (and2 (and2 h').1).1⟩
/-- the parts of a comprehension, sound -/
theorem lc_parts {tg : Tg} {it : Itr} {c : Option Ex} {m : Ex} {own' : List Nat} {e : Expr} (ok : TabOk X T G XR) (tk : Takes X W) (h : chkE T X.N X.env.scope (.comp tg it c m own') e = true) :
    ∃ elt t iter ifs scope p, e = .ListComp elt [⟨t, iter, ifs, 0⟩] scope p ∧ (∀ i ∈ tgSlots tg, i ∈ own') ∧ blkC X.N X.env.scope scope (own'.map fun i => ((X.N.getD i "" : Str), i)) = true ∧ PI X t iter (tDi X.K XR W (denI G it)) ∧
      chkTg X.N (relS scope X.env.scope) (fun x => scope.names.lookup x == some .cell) tg t = true ∧ (∀ (s : Shared) (H : Hp) (C : Addr) (cl : List (Str × Addr)) (fp : List Addr), PTs (X.blk s H scope (compEnvC scope cl C X.env) fp) ifs (tDt X.K XR W0 (denC G c))) ∧
      (∀ (s : Shared) (H : Hp) (C : Addr) (cl : List (Str × Addr)) (fp : List Addr), PE (X.blk s H scope (compEnvC scope cl C X.env) fp) elt (tD X.K XR W0 (den G m))) ∧ (∀ x, foldedSetIterable iter X.env x = pure x) := by
  obtain ⟨elt, t, iter, ifs, scope, p, rfl, h1, h2, h3, h4, h5, h6⟩ := inv_comp h
  obtain ⟨i1, i2⟩ := sound_I it X W t iter ok tk h4
  exact ⟨elt, t, iter, ifs, scope, p, rfl, tgOk_of h2, h1, i1, h3, fun s H C cl fp => sound_C c (X.blk s H scope (compEnvC scope cl C X.env) fp) W0 ifs (ok.blk _ _ _ _ _) takesN h5,
    fun s H C cl fp => (sound_E m (X.blk s H scope (compEnvC scope cl C X.env) fp) W0 elt (ok.blk _ _ _ _ _) takesN h6).1, i2⟩
theorem sound_asg {tg : Tg} {m : Ex} {t v : Expr} {p : Pos} (ok : TabOk X T G XR) (so : StOk X W own) (h1 : chkE T X.N X.env.scope m v = true) (h2 : chkTg X.N X.env.scope own tg t = true) (h3 : notSD v = true) (h4 : stB X.env.scope t v = true) : PS X (.Assign [t] v p) (tDS X.K XR W (denS G (.asg tg m))) := by
  cases hs : swB X.env.scope v t with
  | false => exact ss_asg so.hk (sound_E m X W v ok so.tk h1).1 (sound_Tg ok.calm ok.nd so.ho tg t h2) h3 hs h4 (by rw [tg_noStar h2]; rfl)
  | true =>
    obtain ⟨elt, gens, scope, q, x, px, rfl, rfl, hl⟩ := swB_inv hs
    obtain ⟨tg', it, c, e, o, rfl⟩ := inv_nmComp (t := elt) (iter := elt) (ifs := []) (k := 0) (elt := elt) h1
    obtain ⟨i, rfl, hi⟩ := nm_slot h2
    obtain ⟨elt, t, iter, ifs, scope, q, e0, a1, a2, a3, a4, a5, a6, a7⟩ := lc_parts ok so.tk h1
    cases e0
    refine PS_mono (ss_lcSet ok.calm ok.nd hi hl so.hk hs a1 a2 a3 a4 a5 a6 a7) fun E σ H ⟨hid, pa, r, S, w⟩ => comp_to a1 (tD_imp (sD_bnd S w) fun v H1 ⟨r1, d, S1, E1, D1, w1⟩ => gName_end S1 D1 w1)
theorem sound_asgF {i : Nat} {m : Ex} {x : Str} {px : Pos} {v : Expr} {p : Pos} (ok : TabOk X T G XR) (so : StOk X W own) (h1 : chkE T X.N X.env.scope m v = true) (h2 : X.N[i]? = some x) (h3 : locB X.env.scope own x = true) (h4 : notSD v = true) :
    PS X (.Assign [.Name x px] v p) (tDS X.K XR W (denS G (.asgF i m))) := by
  have hl := loc_of h3
  cases hs : swB X.env.scope v (.Name x px) with
  | false => exact ss_asgF so.hk (sound_F m X W v ok so.tk h1) (pg_name ok.nd h2 (hl.imp id (·.1)) (hl.symm.imp (fun z => so.ho x z.2) id)) h4 hs
  | true =>
    obtain ⟨elt, gens, scope, q, x', px', rfl, e1, hl⟩ := swB_inv hs
    cases e1
    obtain ⟨tg', it, c, e, o, rfl⟩ := inv_nmComp (t := elt) (iter := elt) (ifs := []) (k := 0) (elt := elt) h1
    obtain ⟨elt, t, iter, ifs, scope, q, e0, a1, a2, a3, a4, a5, a6, a7⟩ := lc_parts ok so.tk h1
    cases e0
    exact PS_mono (ss_lcSet ok.calm ok.nd h2 hl so.hk hs a1 a2 a3 a4 a5 a6 a7) fun E σ H ⟨hid, pa, r, S, w⟩ => compF_to a1 (ss_asgF.asgF_core S w)
theorem sound_par2 {i j : Nat} {as : List Ar} {x y : Str} {px py pt pt2 p : Pos} {k k2 : Nat} {a b : Expr} (ok : TabOk X T G XR) (so : StOk X W own) (h1 : X.N[i]? = some x) (h2 : X.N[j]? = some y) (h3 : i ≠ j) (h4 : pairB X.env.scope x y px py a b = true) (h5 : chkA T X.N X.env.scope as [a, b] = true) :
    PS X (.Assign [.Tuple [.Name x px, .Name y py] k pt] (.Tuple [a, b] k2 pt2) p) (tDS X.K XR W (denS G (.par [i, j] as))) := by
  have hx : X.env.scope.names.lookup x = some .local ∧ X.env.scope.names.lookup y = some .local := by
    unfold pairB at h4
    simp only [Bool.and_eq_true, beq_iff_eq] at h4
    exact h4.1.1.1.1.1.1
  refine PS_mono (ps_par ok.calm ok.nd h1 h2 h3 hx.1 hx.2 (sound_A as X W _ ok so.tk h5).pax (pair_sw so.hk h4) rfl) fun E σ H ⟨hid, pa, r, S, w⟩ => ?_
  refine tAr_imp (par_core ok.mono S w) fun vs H1 _ ⟨q1, q2⟩ => ?_
  match vs, q1, q2 with
  | [v, w], _, q2 => exact ⟨v, w, rfl, q2⟩
theorem sound_par3 {i j l : Nat} {as : List Ar} {x y z : Str} {px py pz pt pt2 p : Pos} {k k2 : Nat} {a b c : Expr} (ok : TabOk X T G XR) (so : StOk X W own) (h1 : X.N[i]? = some x) (h2 : X.N[j]? = some y) (h2z : X.N[l]? = some z) (h3 : i ≠ j) (h3a : i ≠ l) (h3b : j ≠ l) (h4 : tripB X.env.scope x y z px py pz a b c = true) (h5 : chkA T X.N X.env.scope as [a, b, c] = true) :
    PS X (.Assign [.Tuple [.Name x px, .Name y py, .Name z pz] k pt] (.Tuple [a, b, c] k2 pt2) p) (tDS X.K XR W (denS G (.par [i, j, l] as))) := by
  have hx : (X.env.scope.names.lookup x = some .local ∧ X.env.scope.names.lookup y = some .local) ∧ X.env.scope.names.lookup z = some .local := by
    unfold tripB at h4
    simp only [Bool.and_eq_true, beq_iff_eq] at h4
    exact h4.1.1.1.1.1.1.1.1.1.1
  refine PS_mono (ps_par3 ok.calm ok.nd h1 h2 h2z h3 h3a h3b hx.1.1 hx.1.2 hx.2 (sound_A as X W _ ok so.tk h5).pax (trip_sw so.hk h4) rfl) fun E σ H ⟨hid, pa, r, S, w⟩ => ?_
  refine tAr_imp (par_core ok.mono S w) fun vs H1 _ ⟨q1, q2⟩ => ?_
  match vs, q1, q2 with
  | [u, v, w], _, q2 => exact ⟨u, v, w, rfl, q2⟩
theorem sound_par {is : List Nat} {as : List Ar} {t v : Expr} {p : Pos} (ok : TabOk X T G XR) (so : StOk X W own) (h : chkPar T X.N X.env.scope is as t v = true) : PS X (.Assign [t] v p) (tDS X.K XR W (denS G (.par is as))) := by
  unfold chkPar at h
  split at h
  · simp only [Bool.and_eq_true, decide_eq_true_eq] at h
    obtain ⟨⟨⟨⟨q1, q2⟩, q3⟩, q4⟩, q5⟩ := h
    exact sound_par2 ok so q1 q2 q3 q4 q5
  · simp only [Bool.and_eq_true, decide_eq_true_eq] at h
    obtain ⟨⟨⟨⟨⟨⟨⟨q1, q2⟩, q2z⟩, q3⟩, q3a⟩, q3b⟩, q4⟩, q5⟩ := h
    exact sound_par3 ok so q1 q2 q2z q3 q3a q3b q4 q5
  · cases h
theorem sound_app {i : Nat} {m : Ex} {x : Str} {px ap cp p : Pos} {e : Expr} (ok : TabOk X T G XR) (so : StOk X W own) (h1 : X.N[i]? = some x) (h2 : visB X.env.scope x = true) (h3 : okName x = true) (h4 : (ap.endLine == cp.line) = true) (h5 : chkE T X.N X.env.scope m e = true) :
    PS X (.Expr (.Call (.Attribute (.Name x px) "append" ap) [e] [] cp) p) (tDS X.K XR W (denS G (.app i m))) :=
  PS_mono (ps_expr (pe_mt h1 h2 h3 (chkE_star h5) h4 PySem.F.slot_list_append PySem.F.type_list_append mt_append (sound_E m X W e ok so.tk h5).1) rfl) fun E σ H ⟨hid, pa, r, S, w⟩ =>
    grow_core (f := fun d ds => if ds.length < sizeLine then some (ds ++ [d]) else none) S w fun a v vs d ds ds' P H1 Q hH hd hv hf hP pa' q => by
      obtain ⟨hl, rfl⟩ := if_some hf
      exact ⟨a, vs, v, rfl, rfl, hH, by rw [DpAll_len hd]; exact hl, q _ (DpAll_app hd (.cons hv .nil))⟩
theorem sound_ext {i : Nat} {m : Ex} {x : Str} {px ap cp p : Pos} {e : Expr} (ok : TabOk X T G XR) (so : StOk X W own) (h1 : X.N[i]? = some x) (h2 : visB X.env.scope x = true) (h3 : okName x = true) (h4 : (ap.endLine == cp.line) = true) (h5 : chkE T X.N X.env.scope m e = true) :
    PS X (.Expr (.Call (.Attribute (.Name x px) "extend" ap) [e] [] cp) p) (tDS X.K XR W (denS G (.ext i m))) :=
  PS_mono (ps_expr (pe_mt h1 h2 h3 (chkE_star h5) h4 PySem.F.slot_list_extend PySem.F.type_list_extend mt_extK (sound_E m X W e ok so.tk h5).1) rfl) fun E σ H ⟨hid, pa, r, S, w⟩ => by
    refine grow_core (f := fun d ds => match d with | .list es => if ds.length + es.length ≤ sizeLine then some (ds ++ es) else none | _ => none) S (E := E) (XR := XR) (W := W) (m := den G m) (i := i) ?_ fun a v vs d ds ds' P H1 Q hH hd hv hf hP pa' q => ?_
    · have e1 : (fun d => onOwn i ((fun d ds => match d with | .list es => if ds.length + es.length ≤ sizeLine then some (ds ++ es) else none | _ => none) d)) = fun d : PyData => (match d with | .list es => onOwn i fun ds => if ds.length + es.length ≤ sizeLine then some (ds ++ es) else none | _ => fun _ => Res.bad : D Flow) := by
        funext d r
        cases d <;> first
          | rfl
          | (show onOwn i (fun _ => none) r = .bad
             unfold onOwn
             cases getS r i <;> rfl)
      rw [e1]
      exact w
    · cases d with
      | list es =>
        obtain ⟨hl, rfl⟩ := if_some hf
        cases hv with
        | @lst b zs _ z1 z2 => exact ⟨a, b, vs, zs, rfl, rfl, hH, LsK_fz z1, by rw [DpAll_len hd, DpAll_len z2]; exact hl, q _ (DpAll_app hd z2)⟩
      | _ => cases hf
end
end
end DL
end
section
set_option maxHeartbeats 200000
set_option maxRecDepth 100000
/-! EB: bodies. -/
namespace DL
open PySem L2
section
variable {XR : XRel} {G : Fns} {T : Tab}
section
variable {X : Cx} {W : WX} {own : Str → Bool}
theorem ss_here {s : Stmt} {f : Flow} {t : TS} (h : PS X s t) (m : ∀ E σ H hid pa r, Sim X.K hid pa r σ H → endS X.K hid pa (Lv r σ) H E r f → t E σ H) : PS X s (tDS X.K XR W (ret f)) :=
  PS_mono h fun E σ H ⟨hid, pa, r, S, w⟩ => m E σ H hid pa r S w
theorem ss_expr {e : Expr} {m : D PyData} {p : Pos} (he : PE X e (tD X.K XR W m)) (hc : noComp e = true) : PS X (.Expr e p) (tDS X.K XR W (bnd m fun _ => ret .nx)) :=
  PS_mono (ps_expr he (noComp_of hc)) fun E σ H ⟨hid, pa, r, S, w⟩ => tD_imp (sD_bnd S w) fun v H1 ⟨r1, d, S1, E1, D1, w1⟩ => w1 σ H1 S1 .refl
theorem ss_nev {s : Stmt} : PS X s (tDS X.K XR W (denS G .nev)) := PS_mono ps_never fun E σ H ⟨hid, pa, r, S, w⟩ => w
theorem ifs_den {c : Ex} {a b : List Sm} : denS G (.ifs c a b) = bnd (tden (den G c)) fun t => if t then denB G a else denB G b := by
  show (bnd (den G c) fun x => bnd (lift (truD x)) fun t => if t then denB G a else denB G b) = _
  rw [bnd_assoc]
theorem inv_ifs {c : Ex} {a b : List Sm} {st : Stmt} {N : List Str} {sc : Scope} (h : chkS T N sc own (.ifs c a b) st = true) : ∃ t p q pos, st = .If t p q pos ∧ chkE T N sc c t = true ∧ chkB T N sc own a p = true ∧ chkB T N sc own b q = true := by
  cases st <;> first | (exact Bool.noConfusion h) | skip
  rename_i t p q pos
  have h' : (chkE T N sc c t && chkB T N sc own a p && chkB T N sc own b q) = true := h
  exact ⟨t, p, q, pos, rfl, (and2 (and2 h').1).1, (and2 (and2 h').1).2, (and2 h').2⟩
theorem inv_whl {c : Ex} {b : List Sm} {st : Stmt} {N : List Str} {sc : Scope} (h : chkS T N sc own (.whl c b) st = true) : ∃ t p pos, st = .While t p [] pos ∧ chkE T N sc c t = true ∧ chkB T N sc own b p = true := by
  cases st <;> first | (exact Bool.noConfusion h) | skip
  rename_i t p q pos
  cases q with
  | cons _ _ => exact Bool.noConfusion h
  | nil =>
    have h' : (chkE T N sc c t && chkB T N sc own b p) = true := h
    exact ⟨t, p, pos, rfl, (and2 h').1, (and2 h').2⟩
theorem inv_fr {tg : Tg} {it : Itr} {b : List Sm} {st : Stmt} {N : List Str} {sc : Scope} (h : chkS T N sc own (.fr tg it b) st = true) : ∃ t iter p pos, st = .For t iter p [] pos ∧ chkTg N sc own tg t = true ∧ chkI T N sc it t iter = true ∧ chkB T N sc own b p = true := by
  cases st <;> first | (exact Bool.noConfusion h) | skip
  rename_i t iter p q pos
  cases q with
  | cons _ _ => exact Bool.noConfusion h
  | nil =>
    have h' : (chkTg N sc own tg t && chkI T N sc it t iter && chkB T N sc own b p) = true := h
    exact ⟨t, iter, p, pos, rfl, (and2 (and2 h').1).1, (and2 (and2 h').1).2, (and2 h').2⟩
set_option maxHeartbeats 4000000 in
/-- what is not made of statements -/
theorem sound_plain {s : Sm} {st : Stmt} (ok : TabOk X T G XR) (so : StOk X W own) (h : chkS T X.N X.env.scope own s st = true) (n1 : ∀ c a b, s ≠ .ifs c a b) (n2 : ∀ c b, s ≠ .whl c b) (n3 : ∀ t i b, s ≠ .fr t i b) : PS X st (tDS X.K XR W (denS G s)) := by
  cases s with
  | ifs c a b => exact absurd rfl (n1 c a b)
  | whl c b => exact absurd rfl (n2 c b)
  | fr t i b => exact absurd rfl (n3 t i b)
  | nev => exact ss_nev
  | asg tg m =>
    cases st <;> first | (exact Bool.noConfusion h) | skip
    rename_i ts v pos
    match ts, h with
    | [t], h =>
      have h' : (chkE T X.N X.env.scope m v && chkTg X.N X.env.scope own tg t && notSD v && stB X.env.scope t v) = true := h
      exact sound_asg ok so (and2 (and2 (and2 h').1).1).1 (and2 (and2 (and2 h').1).1).2 (and2 (and2 h').1).2 (and2 h').2
  | asgF i m =>
    cases st <;> first | (exact Bool.noConfusion h) | skip
    rename_i ts v pos
    match ts, h with
    | [.Name x px], h =>
      have h' : (chkE T X.N X.env.scope m v && decide (X.N[i]? = some x) && locB X.env.scope own x && notSD v) = true := h
      exact sound_asgF ok so (and2 (and2 (and2 h').1).1).1 (of_decide_eq_true (and2 (and2 (and2 h').1).1).2) (and2 (and2 h').1).2 (and2 h').2
  | par is as =>
    cases st <;> first | (exact Bool.noConfusion h) | skip
    rename_i ts v pos
    match ts, h with
    | [t], h => exact sound_par ok so h
  | aug i n e => cases st <;> exact Bool.noConfusion h
  | app i m =>
    cases st <;> first | (exact Bool.noConfusion h) | skip
    rename_i v pos
    match v, h with
    | .Call (.Attribute (.Name x px) nm ap) [e] [] cp, h =>
      have h' : (decide (nm = "append") && decide (X.N[i]? = some x) && visB X.env.scope x && okName x && (ap.endLine == cp.line) && chkE T X.N X.env.scope m e) = true := h
      rw [Bool.and_eq_true, Bool.and_eq_true, Bool.and_eq_true, Bool.and_eq_true, Bool.and_eq_true, decide_eq_true_eq, decide_eq_true_eq] at h'
      obtain ⟨⟨⟨⟨⟨rfl, q2⟩, q3⟩, q4⟩, q5⟩, q6⟩ := h'
      exact sound_app ok so q2 q3 q4 q5 q6
  | ext i m =>
    cases st <;> first | (exact Bool.noConfusion h) | skip
    rename_i v pos
    match v, h with
    | .Call (.Attribute (.Name x px) nm ap) [e] [] cp, h =>
      have h' : (decide (nm = "extend") && decide (X.N[i]? = some x) && visB X.env.scope x && okName x && (ap.endLine == cp.line) && chkE T X.N X.env.scope m e) = true := h
      rw [Bool.and_eq_true, Bool.and_eq_true, Bool.and_eq_true, Bool.and_eq_true, Bool.and_eq_true, decide_eq_true_eq, decide_eq_true_eq] at h'
      obtain ⟨⟨⟨⟨⟨rfl, q2⟩, q3⟩, q4⟩, q5⟩, q6⟩ := h'
      exact sound_ext ok so q2 q3 q4 q5 q6
  | expr m =>
    cases st <;> first | (exact Bool.noConfusion h) | skip
    rename_i v pos
    have h' : (noComp v && chkE T X.N X.env.scope m v) = true := h
    exact ss_expr (sound_E m X W v ok so.tk (and2 h').2).1 (and2 h').1
  | doc =>
    cases st <;> first | (exact Bool.noConfusion h) | skip
    rename_i v pos
    match v, h with
    | .Constant (.str x) j p, h => exact ss_here ps_doc fun E σ H hid pa r S w => w σ H S .refl
  | ret m =>
    cases st <;> first | (exact Bool.noConfusion h) | skip
    rename_i v pos
    cases v with
    | none => exact Bool.noConfusion h
    | some e => exact ss_ret (sound_E m X W e ok so.tk h).1
  | retN =>
    cases st <;> first | (exact Bool.noConfusion h) | skip
    rename_i v pos
    cases v with
    | none => exact ss_retN
    | some e => exact Bool.noConfusion h
  | retF m =>
    cases st <;> first | (exact Bool.noConfusion h) | skip
    rename_i v pos
    cases v with
    | none => exact Bool.noConfusion h
    | some e => exact ss_retF (sound_F m X W e ok so.tk h)
  | retO i =>
    cases st <;> first | (exact Bool.noConfusion h) | skip
    rename_i v pos
    match v, h with
    | some (.Name x px), h =>
      have h' : (decide (X.N[i]? = some x) && visB X.env.scope x && okName x) = true := h
      exact ss_retO (of_decide_eq_true (and2 (and2 h').1).1) (and2 (and2 h').1).2 (and2 h').2
  | brk =>
    cases st <;> first | (exact Bool.noConfusion h) | skip
    exact ss_here ps_break fun E σ H hid pa r S w => w σ H S .refl
  | cnt =>
    cases st <;> first | (exact Bool.noConfusion h) | skip
    exact ss_here ps_continue fun E σ H hid pa r S w => w σ H S .refl
  | pass =>
    cases st <;> first | (exact Bool.noConfusion h) | skip
    exact ss_here ps_pass fun E σ H hid pa r S w => w σ H S .refl
  | rse c es => cases st <;> exact Bool.noConfusion h
end
mutual
theorem sound_S : ∀ (s : Sm) (X : Cx) (W : WX) (own : Str → Bool) (st : Stmt), TabOk X T G XR → StOk X W own → chkS T X.N X.env.scope own s st = true → PS X st (tDS X.K XR W (denS G s))
  | .ifs c a b, X, W, own, st, ok, so, h => by
    obtain ⟨t, p, q, pos, rfl, h1, h2, h3⟩ := inv_ifs h
    rw [ifs_den]
    exact ss_if (sound_E c X W t ok so.tk h1).2 (sound_B a X W own p ok so h2) (sound_B b X W own q ok so h3)
  | .whl c b, X, W, own, st, ok, so, h => by
    obtain ⟨t, p, pos, rfl, h1, h2⟩ := inv_whl h
    exact ss_while so.hp (sound_E c X W t ok so.tk h1).2 (sound_B b X W own p ok so h2)
  | .fr tg it b, X, W, own, st, ok, so, h => by
    obtain ⟨t, iter, p, pos, rfl, h1, h2, h3⟩ := inv_fr h
    obtain ⟨i1, i2⟩ := sound_I it X W t iter ok so.tk h2
    exact ss_for so.hp ok.calm i1 (sound_Tg ok.calm ok.nd so.ho tg t h1) (sound_B b X W own p ok so h3) i2
  | .asg tg m, X, W, own, st, ok, so, h => sound_plain ok so h (fun _ _ _ z => nomatch z) (fun _ _ z => nomatch z) (fun _ _ _ z => nomatch z)
  | .asgF i m, X, W, own, st, ok, so, h => sound_plain ok so h (fun _ _ _ z => nomatch z) (fun _ _ z => nomatch z) (fun _ _ _ z => nomatch z)
  | .par i m, X, W, own, st, ok, so, h => sound_plain ok so h (fun _ _ _ z => nomatch z) (fun _ _ z => nomatch z) (fun _ _ _ z => nomatch z)
  | .aug i n m, X, W, own, st, ok, so, h => sound_plain ok so h (fun _ _ _ z => nomatch z) (fun _ _ z => nomatch z) (fun _ _ _ z => nomatch z)
  | .app i m, X, W, own, st, ok, so, h => sound_plain ok so h (fun _ _ _ z => nomatch z) (fun _ _ z => nomatch z) (fun _ _ _ z => nomatch z)
  | .ext i m, X, W, own, st, ok, so, h => sound_plain ok so h (fun _ _ _ z => nomatch z) (fun _ _ z => nomatch z) (fun _ _ _ z => nomatch z)
  | .expr m, X, W, own, st, ok, so, h => sound_plain ok so h (fun _ _ _ z => nomatch z) (fun _ _ z => nomatch z) (fun _ _ _ z => nomatch z)
  | .ret m, X, W, own, st, ok, so, h => sound_plain ok so h (fun _ _ _ z => nomatch z) (fun _ _ z => nomatch z) (fun _ _ _ z => nomatch z)
  | .retF m, X, W, own, st, ok, so, h => sound_plain ok so h (fun _ _ _ z => nomatch z) (fun _ _ z => nomatch z) (fun _ _ _ z => nomatch z)
  | .retO m, X, W, own, st, ok, so, h => sound_plain ok so h (fun _ _ _ z => nomatch z) (fun _ _ z => nomatch z) (fun _ _ _ z => nomatch z)
  | .brk, X, W, own, st, ok, so, h => sound_plain ok so h (fun _ _ _ z => nomatch z) (fun _ _ z => nomatch z) (fun _ _ _ z => nomatch z)
  | .cnt, X, W, own, st, ok, so, h => sound_plain ok so h (fun _ _ _ z => nomatch z) (fun _ _ z => nomatch z) (fun _ _ _ z => nomatch z)
  | .pass, X, W, own, st, ok, so, h => sound_plain ok so h (fun _ _ _ z => nomatch z) (fun _ _ z => nomatch z) (fun _ _ _ z => nomatch z)
  | .doc, X, W, own, st, ok, so, h => sound_plain ok so h (fun _ _ _ z => nomatch z) (fun _ _ z => nomatch z) (fun _ _ _ z => nomatch z)
  | .retN, X, W, own, st, ok, so, h => sound_plain ok so h (fun _ _ _ z => nomatch z) (fun _ _ z => nomatch z) (fun _ _ _ z => nomatch z)
  | .nev, X, W, own, st, ok, so, h => sound_plain ok so h (fun _ _ _ z => nomatch z) (fun _ _ z => nomatch z) (fun _ _ _ z => nomatch z)
  | .rse c m, X, W, own, st, ok, so, h => sound_plain ok so h (fun _ _ _ z => nomatch z) (fun _ _ z => nomatch z) (fun _ _ _ z => nomatch z)
theorem sound_B : ∀ (ss : List Sm) (X : Cx) (W : WX) (own : Str → Bool) (sts : List Stmt), TabOk X T G XR → StOk X W own → chkB T X.N X.env.scope own ss sts = true → PSs X sts (tDS X.K XR W (denB G ss))
  | [], X, W, own, [], ok, so, h => PSs_mono pss_nil fun E σ H ⟨hid, pa, r, S, w⟩ => w σ H S .refl
  | s :: ss, X, W, own, st :: sts, ok, so, h => by
    have h' : (chkS T X.N X.env.scope own s st && chkB T X.N X.env.scope own ss sts) = true := h
    exact ss_seq (sound_S s X W own st ok so (and2 h').1) (sound_B ss X W own sts ok so (and2 h').2)
  | [], X, W, own, _ :: _, ok, so, h => by cases h
  | _ :: _, X, W, own, [], ok, so, h => by cases h
end
end
end DL
end
section
set_option maxHeartbeats 200000
set_option maxRecDepth 100000
/-! EC: defs keep their promises. -/
namespace DL
open PySem L2
/-- THE RULE, where nothing is being shown -/
theorem fnG_of {P : Program} {w : World} {K : PySem.W.Frag} {mg : Str → Option Value} {base : Heap} {k : Nat} {f : Addr} {name qual : Str} {params : Arguments} {body : List Stmt} {scope : Scope} {dV kV doc pm cdv ct oc : Value} {an od : Option Addr}
    {osl : Array (Option Value)} {N ps : List Str} {sp : Sp} (lk : K.lookup f = some ⟨oc, od, .func (PySem.W.fnOf name qual params body scope dV kV doc pm an cdv ct), osl⟩) (hcd : PySem.W.codeIn K cdv qual = true) (S : FnScope N ps scope)
    (hbody : ∀ (A : Around) (outer : List PySem.Env) (s : Shared) (H : Hp) (vs : List V) (Q : VK) (E : XK), Room k (A.deeper (PyProof.Rows.envOfC qual scope s.heap.objs.size f cdv)) → (A.deeper (PyProof.Rows.envOfC qual scope s.heap.objs.size f cdv)).guards = some [] → vs.length = ps.length → sp vs H Q E →
      ∃ t, PSs (cxOf (L2.CX P w) P w K mg base N qual scope f cdv A outer s H E) body t ∧ t { nx := fun _ H' => Q .non H', rt := Q } (L2.start N vs) H) :
    FnG P w K mg base (L2.CX P w) (k + 1) f (PySem.W.fnOf name qual params body scope dV kV doc pm an cdv ct) ps sp := by
  intro A outer s H args us vs Q E hr hg e0 hb r hl hsp
  have KX : K.In s.heap := e0.mod.kin.keeps fun b o e => (e0.bs b o e).1
  have lim : s.heap.NoLimit := e0.mod.nolimit.keeps fun b o e => (e0.bs b o e).1
  have hkind : ∀ y ∈ ps.zip us, scope.names.lookup y.1 = some .local ∨ (scope.names.lookup y.1 = some .cell ∧ ((PySem.cellsFrom (s.heap.objs.size + 1) scope.names []).lookup y.1).isSome = true) := fun ⟨n, v⟩ hy => by
    rcases S.par n (List.of_mem_zip hy).1 with q | q
    · exact .inl q
    · exact .inr ⟨q, PySem.W.cellsFrom_some _ _ _ (.inl q)⟩
  refine codeAny_call_function hr.depth (KX _ _ lk) rfl S.co S.gen rfl (PySem.W.codeRec_of KX hcd) (hb _ _ _ _ ?_)
  refine wpAny_newFunctionEnv_cells S.kind hkind fun env he s1 x => ?_
  subst he
  refine ⟨lim.keeps x.toInCall.keep, codeAny_func ?_⟩
  obtain ⟨t, ht, hq⟩ := hbody A outer s H vs Q E (hr.deeper _) hg hl hsp
  have I : Inv (cxOf (L2.CX P w) P w K mg base N qual scope f cdv A outer s H E) [] (L2.start N vs) H s1 := inv_start S hr.hd e0 hl r x
  refine wpAny_mono (ht.run [] s1 (L2.start N vs) H _ I hq) (fun fl s' hs => ?_) fun e s' hs => hs
  have fin : ∀ {σ' : L2.St} {H' : Hp} {v : V} {u : Value}, Inv (cxOf (L2.CX P w) P w K mg base N qual scope f cdv A outer s H E) [] σ' H' s' → RelV v u → Q v H' → CE outer P w H s Q u s' :=
    fun {σ' H' v u} J rv q => ⟨v, H', J.os, J.bare, J.base, J.hok, rv, q⟩
  cases fl with
  | ret u =>
    obtain ⟨v, σ', H', J, rv, q⟩ := hs
    exact fin J rv q
  | next =>
    obtain ⟨σ', H', J, q⟩ := hs
    exact fin (v := V.non) (u := Value.none) J rfl q
  | brk =>
    obtain ⟨_, _, _, q⟩ := hs
    exact False.elim q
  | cont =>
    obtain ⟨_, _, _, q⟩ := hs
    exact False.elim q
/-! ### the entry -/
section
variable {K : PySem.W.Frag} {XR : XRel} {hid : Plc} {pa : Addr} {H : Hp} {P : Plc}
theorem AvR.len : ∀ {vs : List V} {avs : List Av}, AvR K P hid pa H vs avs → vs.length = avs.length
  | _, _, .nil => rfl
  | _, _, .pu _ t => by simp [AvR.len t]
  | _, _, .ow _ _ _ t => by simp [AvR.len t]
theorem AvR.get : ∀ {vs : List V} {avs : List Av} {i : Nat} {a : Av}, AvR K P hid pa H vs avs → avs[i]? = some a → ∃ v, vs[i]? = some v ∧ (match a with
    | .pu d => Dq K (fz P H) v d
    | .ow ds => ∃ ws, v = .ref pa ∧ H pa = some (.lst ws) ∧ ¬ hid pa ∧ DqAll K (fz P H) ws ds)
  | _, _, i, a, .nil, h => by simp at h
  | _, _, 0, a, .pu (v := v) q t, h => by
    simp at h; subst h
    exact ⟨v, rfl, q⟩
  | _, _, 0, a, .ow (ws := ws) q n b t, h => by
    simp at h; subst h
    exact ⟨_, rfl, ws, rfl, q, n, b⟩
  | _, _, i + 1, a, .pu q t, h => by
    obtain ⟨v, h1, h2⟩ := AvR.get t (by simpa using h)
    exact ⟨v, by simpa using h1, h2⟩
  | _, _, i + 1, a, .ow q n b t, h => by
    obtain ⟨v, h1, h2⟩ := AvR.get t (by simpa using h)
    exact ⟨v, by simpa using h1, h2⟩
def slOf : Av → Sl
  | .pu d => .pu d
  | .ow ds => .ow true ds
theorem entry_eq (n : Nat) (avs : List Av) : entry n avs = avs.map slOf ++ List.replicate (n - avs.length) .un := by
  unfold entry
  congr 1
theorem entry_get {n : Nat} {avs : List Av} {i : Nat} {s : Sl} (h : (entry n avs)[i]? = some s) (ne : s ≠ .un) : ∃ a, avs[i]? = some a ∧ s = slOf a := by
  rw [entry_eq] at h
  by_cases hi : i < avs.length
  · rw [List.getElem?_append_left (by simpa using hi), List.getElem?_map] at h
    cases e : avs[i]? with
    | none => rw [e] at h; cases h
    | some a => rw [e] at h; cases h; exact ⟨a, rfl, rfl⟩
  · rw [List.getElem?_append_right (by simpa using hi), List.getElem?_replicate] at h
    split at h
    · cases h; exact absurd rfl ne
    · cases h
theorem start_get {N : List Str} {vs : List V} {i : Nat} {v : V} (h : vs[i]? = some v) : (L2.start N vs)[i]? = some (some v) := by
  unfold L2.start
  rw [List.getElem?_append_left (by simpa using lt_of_some h), List.getElem?_map, h]
  rfl
theorem fits_ow {own : Option Nat} {avs : List Av} {i : Nat} {ds : List PyData} (h : fits own avs = true) (e : avs[i]? = some (.ow ds)) : own = some i := by
  unfold fits at h
  cases own with
  | none =>
    have := List.all_eq_true.mp h _ (List.mem_of_getElem? e)
    cases this
  | some j =>
    have hm : (Av.ow ds, i) ∈ avs.zipIdx := by
      have hl := lt_of_some e
      rw [List.mem_iff_getElem?]
      exact ⟨i, by rw [List.getElem?_zipIdx, e]; simp⟩
    have := List.all_eq_true.mp h _ hm
    simp at this
    rw [this]
theorem entry_sim {N : List Str} {vs : List V} {avs : List Av} {own : Option Nat} (hd : ∀ a, hid a → H a ≠ none) (A : AvR K (fun x => hid x ∨ OwA avs pa x) hid pa H vs avs) (hf : fits own avs = true) (hn : avs.length ≤ N.length) :
    Sim K hid pa (entry N.length avs) (L2.start N vs) H ∧ ∀ x, Lv (entry N.length avs) (L2.start N vs) x → OwA avs pa x := by
  have lv : ∀ x, Lv (entry N.length avs) (L2.start N vs) x → OwA avs pa x := fun x ⟨i, t, ds, e1, e2⟩ => by
    obtain ⟨a, ea, es⟩ := entry_get e1 (fun z => nomatch z)
    cases a with
    | pu d => cases es
    | ow ds' =>
      cases es
      obtain ⟨v, q1, ws, q2, _⟩ := A.get ea
      rw [start_get q1] at e2
      cases e2
      exact ⟨V.ref.inj q2, ds, List.mem_of_getElem? ea⟩
  have sb : Sub (fz (fun x => hid x ∨ OwA avs pa x) H) (fz (fun x => hid x ∨ Lv (entry N.length avs) (L2.start N vs) x) H) := sub_plc fun x z => z.imp id (lv x)
  have hlen := A.len
  refine ⟨⟨?_, fun i d e => ?_, fun i t ds e => ?_, hd, fun i j t u ds es a e1 e2 p1 p2 => ?_⟩, lv⟩
  · rw [entry_eq]
    unfold L2.start
    simp only [List.length_append, List.length_map, List.length_replicate, hlen]
  · obtain ⟨a, ea, es⟩ := entry_get e (fun z => nomatch z)
    cases a with
    | ow ds' => cases es
    | pu d' =>
      cases es
      obtain ⟨v, q1, q2⟩ := A.get ea
      exact ⟨v, start_get q1, Dp_mono sb q2⟩
  · obtain ⟨a, ea, es⟩ := entry_get e (fun z => nomatch z)
    cases a with
    | pu d' => cases es
    | ow ds' =>
      cases es
      obtain ⟨v, q1, ws, q2, q3, q4, q5⟩ := A.get ea
      subst q2
      exact ⟨pa, ws, start_get q1, q3, q4, DpAll_mono sb q5, fun _ => rfl⟩
  · have own_of : ∀ {i : Nat} {t : Bool} {ds : List PyData}, (entry N.length avs)[i]? = some (.ow t ds) → own = some i := fun {i t ds} e => by
      obtain ⟨a, ea, es⟩ := entry_get e (fun z => nomatch z)
      cases a with
      | pu d' => cases es
      | ow ds' => exact fits_ow hf ea
    have h1 := own_of e1
    rw [own_of e2] at h1
    exact (Option.some.inj h1).symm
/-- the owned argument at the end -/
theorem out_back {avs : List Av} {own : Option Nat} {r : Evn} {σ' : L2.St} {H' : Hp} {out : List PyData} {fr : Plc} {L : Plc} (hf : fits own avs = true) (ho : outOf r own = some out) (lv : ∀ x, L x → OwA avs pa x) (S : Sim K (fun x => hid x ∨ fr x) pa r σ' H') (E : Ext L H (Lv r σ') H') :
    Back K hid pa avs H H' out fr ∧ ∀ x, OwA avs pa x → Lv r σ' x := by
  have key : (∃ ds, Av.ow ds ∈ avs) → ∃ i, r[i]? = some (Sl.ow true out) := fun ⟨ds, hm⟩ => by
    obtain ⟨i, hi⟩ := List.mem_iff_getElem?.mp hm
    have := fits_ow hf hi
    subst this
    unfold outOf at ho
    cases es : getS r i with
    | un => simp only [es] at ho; cases ho
    | pu d => simp only [es] at ho; cases ho
    | ow t ds =>
      cases t with
      | false => simp only [es] at ho; cases ho
      | true =>
        simp only [es] at ho
        cases ho
        exact ⟨i, getS_some es (fun z => nomatch z)⟩
  have here : ∀ x, OwA avs pa x → Lv r σ' x := fun x z => by
    obtain ⟨i, e⟩ := key z.2
    obtain ⟨a, ws, q1, q2, q3, q4, q5⟩ := S.ow i true out e
    have := q5 rfl
    subst this
    rw [z.1]
    exact ⟨i, true, out, e, q1⟩
  refine ⟨⟨fun a o e n => E.keep a o e fun z => n (lv a z), fun ho' => ?_⟩, here⟩
  obtain ⟨i, e⟩ := key ho'
  obtain ⟨a, ws, q1, q2, q3, q4, q5⟩ := S.ow i true out e
  have := q5 rfl
  subst this
  refine ⟨ws, q2, DpAll_mono (sub_plc fun x z => ?_) q4⟩
  rcases z with (z | z) | z
  · exact .inl (.inl z)
  · exact .inr (here x z)
  · exact .inl (.inr z)
end
/-- a body's meaning is its promise -/
theorem body_spec {K : PySem.W.Frag} {XR : XRel} {G : Fns} {fd : FnD} {vs : List V} {H : Hp} {Q : VK} {E : XK} (hX : ∀ c fs F F' C d H, Sub F F' → XR c fs F C d H → XR c fs F' C d H) (hnp : fd.np ≤ fd.names.length) (h : spD K XR (runD G fd) vs H Q E) :
    tDS K XR (fun cls d _ H' => E cls d H') (denB G fd.body) { nx := fun _ H' => Q .non H', rt := Q } (L2.start fd.names vs) H := by
  obtain ⟨hid, pa, avs, hd, A, w⟩ := h
  unfold runD at w
  by_cases hc : (avs.length = fd.np && fits fd.own avs) = true
  · rw [if_pos hc] at w
    obtain ⟨h1, hf⟩ := Bool.and_eq_true_iff.mp hc
    have h1 := of_decide_eq_true h1
    obtain ⟨S, lv⟩ := entry_sim (N := fd.names) hd A hf (by omega)
    refine ⟨hid, pa, _, S, ?_⟩
    have no : ∀ (rv : RV) (v : V), rv = .pu .none → v = .non → True := fun _ _ _ _ => trivial
    cases eb : denB G fd.body (entry fd.names.length avs) with
    | bad => rw [eb] at w; exact w.elim
    | exc c fs r =>
      rw [eb] at w
      simp only at w
      cases eo : outOf r fd.own with
      | none => rw [eo] at w; exact w.elim
      | some out =>
        rw [eo] at w
        intro σ' C d H' S' E' x
        have S'' : Sim K (fun x => hid x ∨ (fun _ => False) x) pa r σ' H' := S'.to (fun a o n e => ⟨fun z => z.elim (fun z => n z) id, e⟩) (fun a z => z.elim (S'.hd a) False.elim)
        obtain ⟨B, here⟩ := out_back hf eo lv S'' E'
        exact w C d H' B (hX _ _ _ _ _ _ _ (sub_plc fun x z => z.imp id (here x)) x)
    | ok fl r =>
      rw [eb] at w
      simp only at w
      cases eo : outOf r fd.own with
      | none => rw [eo] at w; exact w.elim
      | some out =>
        rw [eo] at w
        cases fl with
        | bk => exact w.elim
        | ct => exact w.elim
        | nx =>
          intro σ' H' S' E'
          have S'' : Sim K (fun x => hid x ∨ FrV (.pu .none) .non x) pa r σ' H' := S'.to (fun a o n e => ⟨fun z => z.elim (fun z => n z) id, e⟩) (fun a z => z.elim (S'.hd a) False.elim)
          obtain ⟨B, here⟩ := out_back hf eo lv S'' E'
          exact w .non H' B .non
        | rt rv =>
          intro σ' H' v E' R
          cases rv with
          | pu d =>
            obtain ⟨S', D⟩ := R
            have S'' : Sim K (fun x => hid x ∨ FrV (.pu d) v x) pa r σ' H' := S'.to (fun a o n e => ⟨fun z => z.elim (fun z => n z) id, e⟩) (fun a z => z.elim (S'.hd a) False.elim)
            obtain ⟨B, here⟩ := out_back hf eo lv S'' E'
            refine w v H' B (Dp_mono (sub_plc fun x z => ?_) D)
            rcases z with (z | z) | z
            · exact .inl z
            · exact .inr (here x z)
            · exact z.elim
          | fr ds =>
            obtain ⟨p, ws, rfl, hp, hl, S', D⟩ := R
            have eq1 : ∀ x, (hid x ∨ FrV (.fr ds) (.ref p) x) → (hid x ∨ x = p) := fun x z => z.imp id fun z => (V.ref.inj (show V.ref p = V.ref x from z)).symm
            have eq2 : ∀ x, (hid x ∨ x = p) → (hid x ∨ FrV (.fr ds) (.ref p) x) := fun x z => z.imp id fun z => by rw [z]; rfl
            have S'' : Sim K (fun x => hid x ∨ FrV (.fr ds) (.ref p) x) pa r σ' H' := S'.less eq1
            obtain ⟨B, here⟩ := out_back hf eo lv S'' E'
            have np : H p = none := by
              rcases hl with hl | hl
              · obtain ⟨_, _, z⟩ := S'.lv_some (here p (lv p hl))
                exact absurd (.inr rfl) z
              · exact hl
            refine w (.ref p) H' B ⟨p, ws, rfl, np, hp, DpAll_mono (sub_plc fun x z => ?_) D⟩
            rcases z with (z | z) | z
            · exact .inl (.inl z)
            · exact .inr (here x z)
            · exact .inl (eq1 x (.inr z))
  · rw [if_neg hc] at w; exact w.elim
end DL
end
section
set_option maxHeartbeats 200000
set_option maxRecDepth 100000
/-! ED: a text of defs; the law's call. -/
namespace DL
open PySem L2
open PySem.W (Frag)
/-- the def number f of the text: its object, its body -/
structure DefOk (K : PySem.W.Frag) (mg : Str → Option Value) (T : Tab) (f : Nat) (x : Str) (fdm : FnD) (a : Addr) (fd : FuncData) (params : Arguments) (body : List Stmt) (scope : Scope) (ps : List Str) : Prop where
  F : L2.FunD K x x params body scope [] [] a fd
  g : mg x = some (.ref a)
  S : FnScope fdm.names ps scope
  np : T.np[f]? = some ps.length
  le : ps.length = fdm.np
  chk : chkB T fdm.names scope (fun _ => true) fdm.body body = true
  bind : ∀ (s : Shared) (us : List Value), us.length = ps.length → BindsTo s fd ⟨us, []⟩ (ps.zip us)
  bindK : ∀ (n : Nat) (ks : List Str) (kw : List Nat), (f, n, ks, kw) ∈ T.shapes → ∀ (s : Shared) (us ws : List Value), us.length = n → ws.length = ks.length → BindsTo s fd ⟨us, ks.zip ws⟩ (ps.zip (arr kw (us ++ ws)))
theorem funD_bindK {K : PySem.W.Frag} {x qual : Str} {params : Arguments} {body : List Stmt} {scope : Scope} {kws : List (Str × V)} {f : Addr} {fd : FuncData} (F : L2.FunD K x qual params body scope [] kws f fd) {us : List Value} {kv binds : List (Str × Value)}
    (h : ∀ (kV doc pm : Value) (an : Option Addr) (cdv ct : Value), bindArgs (PySem.W.fnOf x qual params body scope .none kV doc pm an cdv ct) ⟨us, kv⟩ = pure binds) (s : Shared) : BindsTo s fd ⟨us, kv⟩ binds := by
  obtain ⟨oc, od, dV, kV, doc, pm, an, cdv, ct, osl, rfl, lk, hcd, hD, hK⟩ := F.ex
  rcases hD with ⟨_, rfl⟩ | ⟨e, _⟩
  · exact .of_eq (h kV doc pm an cdv ct)
  · exact absurd rfl e
structure ModG (K : PySem.W.Frag) (mg : Str → Option Value) (T : Tab) (fs : List FnD) (XR : XRel) : Prop where
  blt : ∀ x ∈ bltNames, mg x = none
  con : ∀ x c, (x, c) ∈ T.cons → ∃ v u, mg x = some u ∧ RelV v u ∧ ∀ H, Dq K H v c.d
  mono : ∀ c fs F F' C d H, Sub F F' → XR c fs F C d H → XR c fs F' C d H
  defs : ∀ (f : Nat) (x : Str), T.fns[f]? = some x → ∃ fdm a fd params body scope ps, fs[f]? = some fdm ∧ DefOk K mg T f x fdm a fd params body scope ps
theorem scope_le {N P : List Str} {sc : Scope} (S : FnScope N P sc) : P.length ≤ N.length := by
  have := congrArg List.length S.pre
  rw [List.length_take] at this
  omega
theorem hu_of {k : Nat} {A : Around} (h : Room k A) : A.units + 65 < cLine := by
  have := h.un
  omega
theorem fns_ok {P : Program} {w : World} {K : PySem.W.Frag} {mg : Str → Option Value} {base : Heap} {T : Tab} {fs : List FnD} {XR : XRel} (M : ModG K mg T fs XR) : ∀ (lvl : Nat) (f : Nat) (x : Str) (fdm : FnD) (a : Addr) (fd : FuncData) (params : Arguments) (body : List Stmt) (scope : Scope) (ps : List Str),
    fs[f]? = some fdm → DefOk K mg T f x fdm a fd params body scope ps → FnG P w K mg base (L2.CX P w) lvl a fd ps (spD K XR (runN fs lvl f))
  | 0, f, x, fdm, a, fd, params, body, scope, ps, hf, D => fun A outer s H args us vs Q E hr hg e0 hb r hl hsp => by
    obtain ⟨hid, pa, avs, _, _, w⟩ := hsp
    exact w.elim
  | lvl + 1, f, x, fdm, a, fd, params, body, scope, ps, hf, D => by
    obtain ⟨oc, od, dV, kV, doc, pm, an, cdv, ct, osl, rfl, lk, hcd, _, _⟩ := D.F.ex
    refine fnG_of lk hcd D.S fun A outer s H vs Q E hr hg hl hsp => ?_
    have hsp : spD K XR (runD (runN fs lvl) fdm) vs H Q E := by
      obtain ⟨hid, pa, avs, q1, q2, w⟩ := hsp
      have e : runN fs (lvl + 1) f avs = runD (runN fs lvl) fdm avs := by
        show (match fs[f]? with | some fd => runD (runN fs lvl) fd avs | none => .bad) = _
        rw [hf]
      rw [e] at w
      exact ⟨hid, pa, avs, q1, q2, w⟩
    refine ⟨_, sound_B (XR := XR) (G := runN fs lvl) (T := T) fdm.body (cxOf (L2.CX P w) P w K mg base fdm.names x scope a cdv A outer s H E) (fun cls d _ H' => E cls d H') (fun _ => true) body ?_ ?_ D.chk,
      body_spec M.mono (by rw [← D.le]; exact scope_le D.S) hsp⟩
    · refine ⟨rfl, D.S.nd, hu_of hr, hg, M.blt, M.con, fun f' x' h' => ?_, M.mono⟩
      obtain ⟨fdm', a', fd', params', body', scope', ps', hf', D'⟩ := M.defs f' x' h'
      exact ⟨a', fd', ps', lvl, ⟨D'.g, D'.F.kp, hr, fns_ok M lvl f' x' fdm' a' fd' params' body' scope' ps' hf' D', fun s us _ hl => D'.bind s us hl, fun n ks kw hm s us ws _ h1 h2 => D'.bindK n ks kw hm s us ws h1 h2⟩, D'.np⟩
    · exact ⟨takes_of rfl rfl rfl rfl, passes_of rfl, fun _ _ => rfl, D.S.kind⟩

/-! ### the law's call -/
/-- the entry from a heap in which the script alone may be seen -/
theorem env_at {P : Program} {w : World} {K : PySem.W.Frag} {mg mb : Str → Option Value} {s : Shared} {H : Hp} {a : Addr} {vs : List Value} (KX : K.In s.heap) (hns : s.heap.Ns mainGlobals mg) (hb : s.heap.Ns builtinsNs mb) (hbb : ∀ x : Str, x ≠ "__name__" → mb x = bootBuiltins x) (hlim : s.heap.NoLimit) (hg : s.gens = #[])
    (ha : s.heap.get? a = some { cls := .type "list", data := .seq vs.toArray }) (hok : HOk P w H s.heap) (hA : ∀ b, H b ≠ none → b = a ∧ K.lookup a = none) : Env0 P w K mg (hidT s.heap H) callerA [] s H := by
  have out : ∀ {b : Addr} {o : Obj}, s.heap.get? b = some o → (b = a → K.lookup a = none → False) → H b = none := fun {b o} e n => by
    cases q : H b with
    | none => rfl
    | some u =>
      obtain ⟨z1, z2⟩ := hA b (by rw [q]; exact fun z => nomatch z)
      exact (n z1 z2).elim
  have dict : ∀ {b : Addr} {o : Obj} {es : Array DictEntry} {ep : Nat}, s.heap.get? b = some o → o.data = .dict es ep → (hidT s.heap H).get? b = some o := fun {b o es ep} e d =>
    hidT_get e (out e fun z _ => by
      subst z
      rw [ha] at e
      cases e
      cases (show Data.seq vs.toArray _ = Data.dict es ep from d))
  have ns : ∀ {b : Addr} {m : Str → Option Value}, s.heap.Ns b m → (hidT s.heap H).Ns b m := fun ⟨o, es, ep, e, d, r⟩ => ⟨o, es, ep, dict e d, d, r⟩
  obtain ⟨mc, l1, l2⟩ := hlim
  exact ⟨rfl, ⟨fun b o e => hidT_get (KX b o e) (out (KX b o e) fun z1 z2 => by subst z1; rw [z2] at e; cases e), ns hns, ⟨mb, ns hb, hbb⟩, mc, ns l1, l2⟩, fun b o e => of_hidT e, Nat.le_of_eq (hidT_size _ _), trivial,
    (fun b hb => absurd (show b ∈ ([] : List Addr) from hb) (by simp)), hok, .of_eq hg⟩
/-- the script as it is read -/
theorem script_seen {P : Program} {w : World} {K : PySem.W.Frag} {s : Shared} {a : Addr} {vs : List Value} {ns : List Int} (KX : K.In s.heap) (ha : s.heap.get? a = some { cls := .type "list", data := .seq vs.toArray }) (hi : PyProof.Rows.IntsAre vs ns) (hl : ns.length ≤ sizeLine) :
    ∃ H : Hp, HOk P w H s.heap ∧ (∀ b, H b ≠ none → b = a ∧ K.lookup a = none) ∧ (∀ b, H b = none ∨ ∃ o u, H b = some (.frz o u)) ∧ LsK K H a (ns.map V.int) := by
  have rv := vals_ints hi
  cases hk : K.lookup a with
  | some o =>
    have e := KX a o hk
    rw [ha] at e
    cases e
    exact ⟨fun _ => none, fun b u z => (nomatch z), fun b z => absurd rfl z, fun _ => .inl rfl, .inr ⟨vs, _, hk, by rw [hi.length]; exact hl, rv⟩⟩
  | none =>
    have self : ∀ b u, (if b = a then some (HO.frz { cls := .type "list", data := .seq vs.toArray } (.lst (ns.map V.int))) else none) = some u → b = a ∧ u = .frz { cls := .type "list", data := .seq vs.toArray } (.lst (ns.map V.int)) := fun b u z => by
      by_cases h : b = a
      · rw [if_pos h] at z; exact ⟨h, (Option.some.inj z).symm⟩
      · rw [if_neg h] at z; cases z
    refine ⟨fun b => if b = a then some (.frz { cls := .type "list", data := .seq vs.toArray } (.lst (ns.map V.int))) else none, fun b u z => ?_, fun b z => ?_, fun b => ?_, .inl (.inr ⟨_, if_pos rfl⟩)⟩
    · obtain ⟨rfl, rfl⟩ := self b u z
      exact ⟨ha, by rw [List.length_map]; exact hl, vs, _, rv, ha⟩
    · by_cases h : b = a
      · exact ⟨h, rfl⟩
      · exact absurd (if_neg h) z
    · by_cases h : b = a
      · exact .inr ⟨_, _, if_pos h⟩
      · exact .inl (if_neg h)
theorem law_at {P : Program} {w : World} {K : PySem.W.Frag} {mg mb : Str → Option Value} {k f : Nat} {fa a : Addr} {fd : FuncData} {x : Str} {s : Shared} {vs : List Value} {ns : List Int} {fs : List FnD} {out : List PyData} (KX : K.In s.heap) (hns : s.heap.Ns mainGlobals mg) (hb : s.heap.Ns builtinsNs mb) (hbb : ∀ x : Str, x ≠ "__name__" → mb x = bootBuiltins x) (hlim : s.heap.NoLimit) (hg : s.gens = #[])
    (ha : s.heap.get? a = some { cls := .type "list", data := .seq vs.toArray }) (hi : PyProof.Rows.IntsAre vs ns) (hl : ns.length ≤ sizeLine) (hr : Room k callerA)
    (F : ∀ base : Heap, FnG P w K mg base (L2.CX P w) k fa fd [x] (spD K (fun _ _ _ _ _ _ => False) (runN fs k f))) (hbind : ∀ (s : Shared) (u : Value), BindsTo s fd ⟨[u], []⟩ [(x, u)]) (hrun : runN fs k f [.pu (.list (ns.map .int))] = .ok (.pu (.bool true)) out) :
    codeAny (model P w) callerA (.call (.ref fa) ⟨[.ref a], []⟩) (fun r s' => r = .ok (.ret (.bool true)) ∧ OldK s.heap s'.heap ∧ s'.os = s.os ∧ PyProof.Rows.AllBare s'.gens) s := by
  obtain ⟨H, hok, hA, hO, hS⟩ := script_seen (P := P) (w := w) KX ha hi hl
  have e0 := env_at (P := P) (w := w) KX hns hb hbb hlim hg ha hok hA
  refine codeAny_mono (F _ callerA [] s H ⟨[.ref a], []⟩ [.ref a] [.ref a] (fun v _ => v = .bl true) (fun _ _ _ => False) hr rfl e0 (hbind s (.ref a)) (.cons rfl .nil) rfl ?_) fun r s' h => ?_
  · have no : ∀ x, ¬ ((fun _ : Addr => False) x ∨ OwA [.pu (.list (ns.map .int))] 0 x) := fun x z => z.elim id fun z => by
      obtain ⟨_, ds, z⟩ := z
      simp at z
    have sb : Sub H (fz (fun x => (fun _ : Addr => False) x ∨ OwA [.pu (.list (ns.map .int))] 0 x) H) := fun b o e => fz_some.mpr ⟨no b, e⟩
    refine ⟨fun _ => False, 0, [.pu (.list (ns.map .int))], fun _ z => z.elim, .pu (.lst (LsK.mono sb hS) ints_dp) .nil, ?_⟩
    rw [hrun]
    intro v H' _ R
    have R : Dq K _ v (.bool true) := R
    cases R
    rfl
  · cases r with
    | error e =>
      obtain ⟨_, _, _, _, _, _, _, _, _, _, _, _, z⟩ := h
      exact z.elim
    | ok fl =>
      cases fl with
      | next => exact False.elim h
      | brk => exact False.elim h
      | cont => exact False.elim h
      | ret u =>
        obtain ⟨v, H', os, bare, un, hok', r', q⟩ := h
        have q : v = .bl true := q
        subst q
        obtain rfl : u = Value.bool true := r'
        refine ⟨rfl, OldK.of_keep fun b o e => ?_, os, bare⟩
        rcases hO b with z | ⟨ob, u, z⟩
        · exact un.keep b o e z (by intro y; exact absurd (show b ∈ ([] : List Addr) from y) (by simp)) (by simp)
        · obtain ⟨e1, _⟩ := hok b _ z
          obtain ⟨e2, _⟩ := hok' b _ (un.frzs b ob _ z)
          rw [e] at e1
          cases e1
          exact e2
theorem walk_G {l : PySem.W.OpenLaw} {n k f : Nat} {q : Program} {loose : List Str} {XP : (Str → Option Value) → Heap → Prop} {YP : World → Heap → Prop} {d : DefRec} {x : Str} {fs : List FnD}
    (hn : l.most = some n) (hn2 : n ≤ sizeLine) (hdf : d.params.defaults = []) (hr : Room k callerA)
    (F : ∀ (w : World) (mg : Str → Option Value) (fa : Addr) (h : Heap), YP w h → h.Ns mainGlobals mg → mg d.name = some (.ref fa) →
      ∃ (K : PySem.W.Frag) (fd : FuncData), K.In h ∧ (∀ (s : Shared) (u : Value), BindsTo s fd ⟨[u], []⟩ [(x, u)]) ∧
        ∀ base : Heap, FnG l.prog w K mg base (L2.CX l.prog w) k fa fd [x] (spD K (fun _ _ _ _ _ _ => False) (runN fs k f)))
    (hrun : ∀ ns : List Int, ns.length ≤ n → ∃ out, runN fs k f [.pu (.list (ns.map .int))] = .ok (.pu (.bool true)) out) :
    PySem.W.WalkO q loose XP YP l.row.toRowW d [] (fun f vs => PySem.call f vs) := by
  refine Att.attach_call hn hdf fun w s₀ s₁ mg mb fa o pm cd doc a vs ns G Y ho hd hcd hmg hobj hints hlen hg => ?_
  obtain ⟨K, fd, KX, hb, hF⟩ := F w mg fa _ Y G.T.g hmg
  obtain ⟨out, hr'⟩ := hrun ns hlen
  exact law_at KX G.T.g G.T.b G.T.builtins G.T.nolimit hg hobj hints (Nat.le_trans hlen hn2) hr hF hb hr'
end DL
end
section
set_option maxHeartbeats 200000
set_option maxRecDepth 100000
/-! EE: the small language, run. -/
namespace DL
open PySem
section
variable {G : Fns} {r r' r1 r2 : Evn}
theorem ev_bnd {α β : Type} {m : D α} {f : α → D β} : bnd m f r = (match m r with | .ok a r' => f a r' | .exc c fs r' => .exc c fs r' | .bad => .bad) := rfl
theorem ev_ret {α : Type} {a : α} : DL.ret a r = .ok a r := rfl
theorem ev_some {α : Type} {a : α} : lift (some a) r = .ok a r := rfl
theorem ev_none {α : Type} : lift (none : Option α) r = .bad := rfl
theorem ev_cst {c : Cn} : den G (.cst c) r = .ok c.d r := rfl
theorem ev_var {i : Nat} : den G (.var i) r = rdV i r := rfl
theorem ev_glb {x : Str} {c : Cn} : den G (.glb x c) r = .ok c.d r := rfl
theorem ev_tup {es : List Ex} : den G (.tup es) r = bnd (denL G es) (fun ds => if ds.length ≤ sizeLine then DL.ret (.tuple ds) else fun _ => .bad) r := rfl
theorem ev_lst {es : List Ex} : den G (.lst es) r = bnd (denL G es) (fun ds => if ds.length ≤ sizeLine then DL.ret (.list ds) else fun _ => .bad) r := rfl
theorem ev_bin {o : Bop} {a b : Ex} : den G (.bin o a b) r = bnd (den G a) (fun x => bnd (den G b) fun y => lift (binD o x y)) r := rfl
theorem ev_neg {a : Ex} : den G (.neg a) r = bnd (den G a) (fun x => match x with | .int i => DL.ret (.int (-i)) | _ => fun _ => .bad) r := rfl
theorem ev_cmp {o : Cop} {a b : Ex} : den G (.cmp o a b) r = bnd (den G a) (fun x => bnd (den G b) fun y => lift (cmpD o x y)) r := rfl
theorem ev_chn {o1 o2 : Cop} {a b c : Ex} : den G (.chn o1 o2 a b c) r = bnd (den G a) (fun x => bnd (den G b) fun y => bnd (lift (cmpD o1 x y)) fun z => match z with | .bool true => bnd (den G c) fun w => lift (cmpD o2 y w) | .bool false => DL.ret (.bool false) | _ => fun _ => .bad) r := rfl
theorem ev_nt {a : Ex} : den G (.nt a) r = bnd (den G a) (fun x => bnd (lift (truD x)) fun t => DL.ret (.bool (!t))) r := rfl
theorem ev_an {a b : Ex} : den G (.an a b) r = bnd (den G a) (fun x => bnd (lift (truD x)) fun t => if t then den G b else DL.ret x) r := rfl
theorem ev_orr {a b : Ex} : den G (.orr a b) r = bnd (den G a) (fun x => bnd (lift (truD x)) fun t => if t then DL.ret x else den G b) r := rfl
theorem ev_ite {c a b : Ex} : den G (.ite c a b) r = bnd (den G c) (fun x => bnd (lift (truD x)) fun t => if t then den G a else den G b) r := rfl
theorem ev_idx {a i : Ex} : den G (.idx a i) r = bnd (den G a) (fun x => bnd (den G i) fun y => lift (idxD x y)) r := rfl
theorem ev_slc {a : Ex} {lo hi : Option Ex} : den G (.slc a lo hi) r = bnd (den G a) (fun x => bnd (denO G lo) fun l => bnd (denO G hi) fun h => lift (slcD x l h)) r := rfl
theorem ev_rev {a : Ex} : den G (.rev a) r = bnd (den G a) (fun x => match x with | .list ds => DL.ret (.list ds.reverse) | _ => fun _ => .bad) r := rfl
theorem ev_prim {p : Pr} {es : List Ex} : den G (.prim p es) r = bnd (denL G es) (fun ds => lift (primD p ds)) r := rfl
theorem ev_itm {i : Nat} {ix : Ex} : den G (.itm i ix) r = isOw i (bnd (den G ix) fun y => atOw i y) r := rfl
theorem ev_peek {p : Pr} {i : Nat} : den G (.peek p i) r = peekD p i r := rfl
theorem ev_isi {a : Ex} {ks : List Kd} : den G (.isi a ks) r = bnd (den G a) (fun x => DL.ret (.bool (ks.any fun k => isK k x))) r := rfl
theorem ev_call {f : Nat} {args : List Ar} {kw : List Nat} : den G (.call f args kw) r = bnd (denA G args) (fun l => bnd (callA G f kw l) fun v => DL.ret v.d) r := rfl
theorem ev_L0 : denL G [] r = .ok [] r := rfl
theorem ev_L1 {e : Ex} {es : List Ex} : denL G (e :: es) r = bnd (den G e) (fun x => bnd (denL G es) fun xs => DL.ret (x :: xs)) r := rfl
theorem ev_O0 : denO G none r = .ok none r := rfl
theorem ev_O1 {e : Ex} : denO G (some e) r = bnd (den G e) (fun x => match x with | .int i => DL.ret (some i) | _ => fun _ => .bad) r := rfl
theorem ev_C0 : denC G none r = .ok true r := rfl
theorem ev_C1 {e : Ex} : denC G (some e) r = bnd (den G e) (fun x => lift (truD x)) r := rfl
theorem ev_A0 : denA G [] r = .ok [] r := rfl
theorem ev_Av {e : Ex} {l : List Ar} : denA G (.val e :: l) r = bnd (den G e) (fun x => bnd (denA G l) fun ys => DL.ret (.pu x :: ys)) r := rfl
theorem ev_Ar {i : Nat} {l : List Ar} : denA G (.ref i :: l) r = (match getS r i with | .ow _ _ => (bnd (denA G l) fun ys => DL.ret (.rf i :: ys)) r | _ => .bad) := rfl
theorem ev_Af {e : Ex} {l : List Ar} : denA G (.fre e :: l) r = bnd (denF G e) (fun x => bnd (denA G l) fun ys => DL.ret (.fr x :: ys)) r := rfl
theorem ev_Iover {e : Ex} : denI G (.over e) r = bnd (den G e) (fun x => lift (itemsD x)) r := rfl
theorem ev_Irng {b : Ex} : denI G (.rng b) r = bnd (den G b) (fun y => match y with | .int j => if -(2 ^ 62) ≤ j ∧ j < 2 ^ 62 then DL.ret (rngL 0 j) else fun _ => .bad | _ => fun _ => .bad) r := rfl
theorem ev_Ienum {e : Ex} : denI G (.enum e) r = bnd (den G e) (fun x => bnd (lift (itemsD x)) fun ds => DL.ret (enumFrom 0 ds)) r := rfl
theorem ev_Flst {es : List Ex} : denF G (.lst es) r = bnd (denL G es) (fun ds => if ds.length ≤ sizeLine then DL.ret ds else fun _ => .bad) r := rfl
theorem ev_Fcall {f : Nat} {args : List Ar} {kw : List Nat} : denF G (.call f args kw) r = bnd (denA G args) (fun l => bnd (callA G f kw l) fun v => match v with | .fr ds => DL.ret ds | .pu _ => fun _ => .bad) r := rfl
theorem ev_asg {tg : Tg} {e : Ex} : denS G (.asg tg e) r = bnd (den G e) (fun d => bnd (putT tg d) fun _ => DL.ret .nx) r := rfl
theorem ev_asgF {i : Nat} {e : Ex} : denS G (.asgF i e) r = bnd (denF G e) (fun ds r => if i < r.length then .ok .nx (r.set i (.ow false ds)) else .bad) r := rfl
theorem ev_par {is : List Nat} {es : List Ar} : denS G (.par is es) r = bnd (denA G es) (fun ds => bnd (putMany is ds) fun _ => DL.ret .nx) r := rfl
theorem ev_app {i : Nat} {e : Ex} : denS G (.app i e) r = ifOwn i (bnd (den G e) fun d => onOwn i fun ds => if ds.length < sizeLine then some (ds ++ [d]) else none) r := rfl
theorem ev_expr {e : Ex} : denS G (.expr e) r = bnd (den G e) (fun _ => DL.ret .nx) r := rfl
theorem ev_retS {e : Ex} : denS G (.ret e) r = bnd (den G e) (fun d => DL.ret (.rt (.pu d))) r := rfl
theorem ev_retF {e : Ex} : denS G (.retF e) r = bnd (denF G e) (fun d => DL.ret (.rt (.fr d))) r := rfl
theorem ev_retO {i : Nat} : denS G (.retO i) r = (match getS r i with | .ow false ds => .ok (.rt (.fr ds)) (r.set i .un) | _ => .bad) := rfl
theorem ev_ifs {c : Ex} {a b : List Sm} : denS G (.ifs c a b) r = bnd (den G c) (fun x => bnd (lift (truD x)) fun t => if t then denB G a else denB G b) r := rfl
theorem ev_whl {c : Ex} {b : List Sm} : denS G (.whl c b) r = whileN fuel (bnd (den G c) fun x => lift (truD x)) (denB G b) r := rfl
theorem ev_nev : denS G .nev r = .bad := rfl
theorem ev_B0 : denB G [] r = .ok .nx r := rfl
theorem ev_B1 {s : Sm} {ss : List Sm} : denB G (s :: ss) r = bnd (denS G s) (fun f => match f with | .nx => denB G ss | g => DL.ret g) r := rfl
theorem ev_nm {i : Nat} {d : PyData} : putT (.nm i) d r = if i < r.length then .ok () (r.set i (.pu d)) else .bad := rfl
theorem ev_tp {ts : List Tg} {ds : List PyData} : putT (.tp ts) (.tuple ds) r = putTs ts ds r := rfl
theorem ev_ts0 : putTs [] [] r = .ok () r := rfl
theorem ev_ts1 {t : Tg} {ts : List Tg} {d : PyData} {ds : List PyData} : putTs (t :: ts) (d :: ds) r = bnd (putT t d) (fun _ => putTs ts ds) r := rfl
theorem ev_sub {i : Nat} {ix : Int} {d : PyData} : putT (.sub i ix) d r = (match getS r i with | .ow t ds => (match DL.ixN ds.length ix with | some j => .ok () (r.set i (.ow t (ds.set j d))) | none => .bad) | _ => .bad) := rfl
theorem ev_pm0 : putMany [] [] r = .ok () r := rfl
theorem ev_pm1 {i : Nat} {is : List Nat} {d : Aw} {ds : List Aw} : putMany (i :: is) (d :: ds) r = bnd (putA i d) (fun _ => putMany is ds) r := rfl
theorem c_eqI {i j : Int} : cmpD .eq (.int i) (.int j) = some (.bool (decide (i = j))) := rfl
theorem c_neI {i j : Int} : cmpD .ne (.int i) (.int j) = some (.bool (!decide (i = j))) := rfl
theorem c_eqS {i j : Str} : cmpD .eq (.str i) (.str j) = some (.bool (decide (i = j))) := rfl
theorem c_neS {i j : Str} : cmpD .ne (.str i) (.str j) = some (.bool (!decide (i = j))) := rfl
theorem c_lt {i j : Int} : cmpD .lt (.int i) (.int j) = some (.bool (decide (i < j))) := rfl
theorem c_le {i j : Int} : cmpD .le (.int i) (.int j) = some (.bool (decide (i ≤ j))) := rfl
theorem c_gt {i j : Int} : cmpD .gt (.int i) (.int j) = some (.bool (decide (j < i))) := rfl
theorem c_ge {i j : Int} : cmpD .ge (.int i) (.int j) = some (.bool (decide (j ≤ i))) := rfl
theorem c_is {d : PyData} : cmpD .is d .none = some (.bool (isN d)) := rfl
theorem c_isnot {d : PyData} : cmpD .isnot d .none = some (.bool (!isN d)) := rfl
/-! ### comprehensions -/
theorem ev_comp {tg : Tg} {it : Itr} {c : Option Ex} {e : Ex} {own : List Nat} {xs ys : List PyData} (h1 : denI G it r = .ok xs r1) (h2 : compD own tg (denC G c) (den G e) xs r1 = .ok ys r2) : den G (.comp tg it c e own) r = .ok (.list ys) r2 := by
  show bnd (denI G it) (fun xs => bnd (compD own tg (denC G c) (den G e) xs) fun ys => DL.ret (PyData.list ys)) r = _
  rw [ev_bnd, h1]
  show bnd (compD own tg (denC G c) (den G e) xs) (fun ys => DL.ret (PyData.list ys)) r1 = _
  rw [ev_bnd, h2]
  rfl
theorem ev_Fcomp {tg : Tg} {it : Itr} {c : Option Ex} {e : Ex} {own : List Nat} {xs ys : List PyData} (h1 : denI G it r = .ok xs r1) (h2 : compD own tg (denC G c) (den G e) xs r1 = .ok ys r2) : denF G (.comp tg it c e own) r = .ok ys r2 := by
  show bnd (denI G it) (fun xs => compD own tg (denC G c) (den G e) xs) r = _
  rw [ev_bnd, h1]
  exact h2
theorem back_same {own : List Nat} (h : wipeE r2 own = wipeE r own) : backE r r2 own = r := by
  have hl : r2.length = r.length := by have := congrArg List.length h; rw [wipeE_len, wipeE_len] at this; exact this
  refine List.ext_getElem? fun i => ?_
  by_cases hi : i ∈ own
  · cases e : (backE r r2 own)[i]? with
    | none =>
      have := List.getElem?_eq_none_iff.mp e
      rw [backE_len, hl] at this
      exact (List.getElem?_eq_none_iff.mpr this).symm
    | some s =>
      have hs := backE_in hi e
      have hlt := lt_of_some e
      rw [backE_len, hl] at hlt
      rw [hs]
      unfold getS
      rw [List.getD_eq_getElem?_getD, List.getElem?_eq_getElem hlt]
      rfl
  · rw [backE_out hi, ← wipeE_out (vs := own) hi, h, wipeE_out hi]
theorem step_wipe {own : List Nat} {tg : Tg} {c : D Bool} {e : D PyData} {x : PyData} (h : wipeE r' own = wipeE r own) : stepC own tg c e x r' = stepC own tg c e x r := by
  show (bnd (putT tg x) fun _ => bnd c fun t => if t then bnd e fun y => DL.ret (some y) else DL.ret none) (wipeE r' own) = (bnd (putT tg x) fun _ => bnd c fun t => if t then bnd e fun y => DL.ret (some y) else DL.ret none) (wipeE r own)
  rw [h]
theorem map_pure {own : List Nat} {tg : Tg} {c : D Bool} {e : D PyData} {f : PyData → Option PyData} : ∀ {xs : List PyData} {r' : Evn}, wipeE r' own = wipeE r own → (∀ x ∈ xs, ∃ r2, stepC own tg c e x r = .ok (f x) r2 ∧ wipeE r2 own = wipeE r own) → ∃ r2, mapL (stepC own tg c e) xs r' = .ok (xs.filterMap f) r2 ∧ wipeE r2 own = wipeE r own
  | [], r', h, _ => ⟨r', rfl, h⟩
  | x :: xs, r', h, hx => by
    obtain ⟨r2, q1, q2⟩ := hx x List.mem_cons_self
    obtain ⟨r3, q3, q4⟩ := map_pure (xs := xs) q2 fun y hy => hx y (List.mem_cons_of_mem _ hy)
    refine ⟨r3, ?_, q4⟩
    show bnd (stepC own tg c e x) (fun o => bnd (mapL (stepC own tg c e) xs) fun ys => DL.ret (match o with | some y => y :: ys | none => ys)) r' = _
    rw [ev_bnd, step_wipe h, q1]
    show bnd (mapL (stepC own tg c e) xs) (fun ys => DL.ret (match f x with | some y => y :: ys | none => ys)) r2 = _
    rw [ev_bnd, q3]
    cases hf : f x with
    | none => simp [List.filterMap_cons, hf, DL.ret]
    | some y => simp [List.filterMap_cons, hf, DL.ret]
theorem comp_pure {own : List Nat} {tg : Tg} {c : D Bool} {e : D PyData} {xs : List PyData} (f : PyData → Option PyData) (hn : noOw r own = true) (hl : xs.length ≤ sizeLine) (h : ∀ x ∈ xs, ∃ r2, stepC own tg c e x r = .ok (f x) r2 ∧ wipeE r2 own = wipeE r own) : compD own tg c e xs r = .ok (xs.filterMap f) r := by
  obtain ⟨r2, q1, q2⟩ := map_pure (r := r) (r' := r) rfl h
  unfold compD
  rw [if_pos (by rw [hn, decide_eq_true hl]; rfl), ev_bnd]
  unfold nox
  rw [q1]
  show Res.ok _ (backE r r2 own) = _
  rw [back_same q2]
/-- a step: the target, the condition, the value -/
theorem ev_step {own : List Nat} {tg : Tg} {c : D Bool} {e : D PyData} {x : PyData} : stepC own tg c e x r = (bnd (putT tg x) fun _ => bnd c fun t => if t then bnd e fun y => DL.ret (some y) else DL.ret none) (wipeE r own) := rfl
/-- a comprehension that changes what it captures -/
theorem map_state {S : Type} {own : List Nat} {tg : Tg} {c : D Bool} {e : D PyData} {En : S → Evn} {Inv : S → Prop} {Good : PyData → Prop} : ∀ {xs : List PyData} {s : S} {r' : Evn}, wipeE r' own = wipeE (En s) own → Inv s →
    (∀ x ∈ xs, ∀ s, Inv s → ∃ y s' r2, stepC own tg c e x (En s) = .ok (some y) r2 ∧ wipeE r2 own = wipeE (En s') own ∧ Inv s' ∧ Good y) → ∃ ys s' r2, mapL (stepC own tg c e) xs r' = .ok ys r2 ∧ wipeE r2 own = wipeE (En s') own ∧ Inv s' ∧ ys.length = xs.length ∧ ∀ y ∈ ys, Good y
  | [], s, r', h, hi, _ => ⟨[], s, r', rfl, h, hi, rfl, fun _ z => nomatch z⟩
  | x :: xs, s, r', h, hi, hx => by
    obtain ⟨y, s1, r2, q1, q2, q3, q4⟩ := hx x List.mem_cons_self s hi
    obtain ⟨ys, s2, r3, p1, p2, p3, p4, p5⟩ := map_state (xs := xs) q2 q3 fun z hz => hx z (List.mem_cons_of_mem _ hz)
    refine ⟨y :: ys, s2, r3, ?_, p2, p3, by simp [p4], fun z hz => ?_⟩
    · show bnd (stepC own tg c e x) (fun o => bnd (mapL (stepC own tg c e) xs) fun ys => DL.ret (match o with | some y => y :: ys | none => ys)) r' = _
      rw [ev_bnd, step_wipe h, q1]
      show bnd (mapL (stepC own tg c e) xs) (fun ys => DL.ret (y :: ys)) r2 = _
      rw [ev_bnd, p1]
      rfl
    · rcases List.mem_cons.mp hz with rfl | hz
      · exact q4
      · exact p5 z hz
theorem comp_state {S : Type} {own : List Nat} {tg : Tg} {c : D Bool} {e : D PyData} {xs : List PyData} (En : S → Evn) (Inv : S → Prop) (Good : PyData → Prop) (s : S) (hi : Inv s) (hn : noOw (En s) own = true) (hl : xs.length ≤ sizeLine)
    (hb : ∀ s s' r2, wipeE r2 own = wipeE (En s') own → backE (En s) r2 own = En s')
    (h : ∀ x ∈ xs, ∀ s, Inv s → ∃ y s' r2, stepC own tg c e x (En s) = .ok (some y) r2 ∧ wipeE r2 own = wipeE (En s') own ∧ Inv s' ∧ Good y) :
    ∃ ys s', compD own tg c e xs (En s) = .ok ys (En s') ∧ Inv s' ∧ ys.length = xs.length ∧ ∀ y ∈ ys, Good y := by
  obtain ⟨ys, s', r2, q1, q2, q3, q4, q5⟩ := map_state (r' := En s) (En := En) rfl hi h
  refine ⟨ys, s', ?_, q3, q4, q5⟩
  unfold compD
  rw [if_pos (by rw [hn, decide_eq_true hl]; rfl), ev_bnd]
  unfold nox
  rw [q1]
  show Res.ok _ (backE (En s) r2 own) = _
  rw [hb s s' r2 q2]
/-! ### loops -/
theorem while_up {c : D Bool} {body : D Flow} (En : Int → Evn) : ∀ (N n : Nat) (m : Int), N < n → (∀ j : Nat, j < N → c (En (m + j)) = .ok true (En (m + j)) ∧ body (En (m + j)) = .ok .nx (En (m + j + 1))) → c (En (m + N)) = .ok false (En (m + N)) → whileN n c body (En m) = .ok .nx (En (m + N))
  | _, 0, _, h, _, _ => absurd h (Nat.not_lt_zero _)
  | 0, n + 1, m, h, _, hc => by
    have hc : c (En m) = .ok false (En m) := by simpa using hc
    show bnd c _ (En m) = _
    rw [ev_bnd, hc]
    simp [DL.ret]
  | N + 1, n + 1, m, h, hs, hc => by
    obtain ⟨h1, h2⟩ := hs 0 (Nat.succ_pos _)
    have h1 : c (En m) = .ok true (En m) := by simpa using h1
    have h2 : body (En m) = .ok .nx (En (m + 1)) := by simpa using h2
    have ih := while_up (c := c) (body := body) En N n (m + 1) (Nat.lt_of_succ_lt_succ h) (fun j hj => by
      have := hs (j + 1) (Nat.succ_lt_succ hj)
      rw [show m + ((j + 1 : Nat) : Int) = m + 1 + (j : Int) by push_cast; omega] at this
      exact this) (by
      rw [show m + ((N + 1 : Nat) : Int) = m + 1 + (N : Int) by push_cast; omega] at hc
      exact hc)
    show bnd c _ (En m) = _
    rw [ev_bnd, h1]
    show bnd body _ (En m) = _
    rw [ev_bnd, h2]
    show whileN n c body (En (m + 1)) = _
    rw [ih, show m + ((N + 1 : Nat) : Int) = m + 1 + (N : Int) by push_cast; omega]
theorem ints_map (l : List Int) : ints? (l.map .int) = some l := by
  induction l with
  | nil => rfl
  | cons a l ih => simp [ints?, ih]
theorem bools_map (l : List Bool) : bools? (l.map .bool) = some l := by
  induction l with
  | nil => rfl
  | cons a l ih => simp [bools?, ih]
end
end DL
end
section
set_option maxHeartbeats 200000
set_option maxRecDepth 100000
/-! EF: what may be shown. -/
namespace DL
open PySem
mutual
/-- short leaves, no dict -/
def okD : PyData → Bool
  | .none => true
  | .bool _ => true
  | .int i => decide (i.natAbs < 10 ^ 30)
  | .str x => decide (x.cps.size ≤ 90) && x.cps.toList.all fun c => decide (c < 0x110000)
  | .list xs => okAll xs
  | .tuple xs => okAll xs
  | .dict _ => false
def okAll : List PyData → Bool
  | [] => true
  | x :: xs => okD x && okAll xs
end
mutual
def cnt : PyData → Nat
  | .list xs => cntAll xs + 1
  | .tuple xs => cntAll xs + 1
  | _ => 1
def cntAll : List PyData → Nat
  | [] => 0
  | x :: xs => cnt x + cntAll xs
end
theorem log_le {n : Nat} (h : n < 10 ^ 30) : n.log2 ≤ 99 := by
  by_cases h0 : n = 0
  · subst h0; decide
  · have h1 := Nat.log2_self_le h0
    by_cases h2 : n.log2 ≤ 99
    · exact h2
    · exfalso
      have h3 : 2 ^ 100 ≤ 2 ^ n.log2 := Nat.pow_le_pow_right (by decide) (by omega)
      have h4 : (10 : Nat) ^ 30 < 2 ^ 100 := by decide
      omega
mutual
theorem ok_weight : ∀ d : PyData, okD d = true → d.weight + 1 ≤ 101 * cnt d
  | .none, _ => by simp [PyData.weight, cnt]
  | .bool _, _ => by simp [PyData.weight, cnt]
  | .int i, h => by
    have h := log_le (of_decide_eq_true h)
    simp only [PyData.weight, cnt]
    split <;> omega
  | .str x, h => by
    have h := of_decide_eq_true (Bool.and_eq_true_iff.mp h).1
    simp only [PyData.weight, cnt]
    omega
  | .list xs, h => by
    have := ok_weights xs h
    simp only [PyData.weight, cnt]
    omega
  | .tuple xs, h => by
    have := ok_weights xs h
    simp only [PyData.weight, cnt]
    omega
  | .dict _, h => by cases h
theorem ok_weights : ∀ xs : List PyData, okAll xs = true → PyData.weightAll xs ≤ 101 * cntAll xs
  | [], _ => by simp [PyData.weightAll]
  | x :: xs, h => by
    obtain ⟨h1, h2⟩ := Bool.and_eq_true_iff.mp (show (okD x && okAll xs) = true from h)
    have q1 := ok_weight x h1
    have q2 := ok_weights xs h2
    simp only [PyData.weightAll, cntAll]
    omega
end
mutual
theorem ok_short : ∀ d : PyData, okD d = true → d.leavesShort 31 = true
  | .none, _ => rfl
  | .bool _, _ => rfl
  | .int i, h => by
    have e := int_text_length_le10 (k := 30) (by decide) (of_decide_eq_true h)
    have e2 : (PyData.shown (.int i)).length ≤ 31 := by
      show (Str.ofString (toString i)).length ≤ 31
      rw [ofString_length]; exact e
    simpa only [PyData.leavesShort, decide_eq_true_eq] using e2
  | .str x, h => by
    have h := (Bool.and_eq_true_iff.mp h).2
    simp only [PyData.leavesShort, List.all_eq_true, decide_eq_true_eq] at h ⊢
    intro c hc
    have := h c hc
    have e : (16 : Nat) ^ 8 = 4294967296 := by decide
    omega
  | .list xs, h => by
    simp only [PyData.leavesShort]
    exact ok_shorts xs h
  | .tuple xs, h => by
    simp only [PyData.leavesShort]
    exact ok_shorts xs h
  | .dict _, h => by cases h
theorem ok_shorts : ∀ xs : List PyData, okAll xs = true → PyData.leavesShortAll 31 xs = true
  | [], _ => rfl
  | x :: xs, h => by
    obtain ⟨h1, h2⟩ := Bool.and_eq_true_iff.mp (show (okD x && okAll xs) = true from h)
    simp only [PyData.leavesShortAll, Bool.and_eq_true]
    exact ⟨ok_short x h1, ok_shorts xs h2⟩
end
mutual
theorem ok_showable : ∀ d : PyData, okD d = true → d.showable = true ∧ d.hasDict = false
  | .none, _ => ⟨rfl, rfl⟩
  | .bool _, _ => ⟨rfl, rfl⟩
  | .int i, h => by
    have h := log_le (of_decide_eq_true h)
    exact ⟨by simp only [PyData.showable, decide_eq_true_eq]; omega, rfl⟩
  | .str x, h => ⟨rfl, rfl⟩
  | .list xs, h => by
    have := ok_showables xs h
    simp only [PyData.showable, PyData.hasDict]
    exact this
  | .tuple xs, h => by
    have := ok_showables xs h
    simp only [PyData.showable, PyData.hasDict]
    exact this
  | .dict _, h => by cases h
theorem ok_showables : ∀ xs : List PyData, okAll xs = true → PyData.showableAll xs = true ∧ PyData.hasDictAll xs = false
  | [], _ => ⟨rfl, rfl⟩
  | x :: xs, h => by
    obtain ⟨h1, h2⟩ := Bool.and_eq_true_iff.mp (show (okD x && okAll xs) = true from h)
    have q1 := ok_showable x h1
    have q2 := ok_showables xs h2
    simp only [PyData.showableAll, PyData.hasDictAll, q1.1, q1.2, q2.1, q2.2]
    exact ⟨rfl, rfl⟩
end
theorem show_ok {d : PyData} (h : okD d = true) (hd : d.depth ≤ 64) (hc : cnt d ≤ 4000) : showOk d = true := by
  have h1 := ok_weight d h
  have h2 := PyData.shown_le 31 (by decide) d (ok_short d h)
  have h3 : d.shown.length ≤ sizeLine := by
    have : (31 + 2) * d.weight ≤ 33 * 404000 := Nat.mul_le_mul (by omega) (by omega)
    have e : sizeLine = 16777216 := by decide
    omega
  obtain ⟨h4, h5⟩ := ok_showable d h
  unfold showOk
  rw [h4, h5, decide_eq_true hd, decide_eq_true h3]
  rfl
theorem okAll_of {xs : List PyData} (h : ∀ x ∈ xs, okD x = true) : okAll xs = true := by
  induction xs with
  | nil => rfl
  | cons x xs ih =>
    show (okD x && okAll xs) = true
    rw [h x List.mem_cons_self, ih fun y hy => h y (List.mem_cons_of_mem _ hy)]
    rfl
theorem depthAll_le {n : Nat} {xs : List PyData} (h : ∀ x ∈ xs, x.depth ≤ n) : PyData.depthAll xs ≤ n := by
  induction xs with
  | nil => simp [PyData.depthAll]
  | cons x xs ih =>
    have h1 := h x List.mem_cons_self
    have h2 := ih fun y hy => h y (List.mem_cons_of_mem _ hy)
    simp only [PyData.depthAll]
    omega
theorem cntAll_le {n : Nat} {xs : List PyData} (h : ∀ x ∈ xs, cnt x ≤ n) : cntAll xs ≤ n * xs.length := by
  induction xs with
  | nil => simp [cntAll]
  | cons x xs ih =>
    have h1 := h x List.mem_cons_self
    have h2 := ih fun y hy => h y (List.mem_cons_of_mem _ hy)
    simp only [cntAll, List.length_cons]
    rw [Nat.mul_succ]
    omega
/-- a comprehension over coded things -/
theorem comp_gen {α : Type} (enc : α → PyData) {r : Evn} {own : List Nat} {tg : Tg} {cc : D Bool} {ee : D PyData} (xs : List α) (g : α → Option PyData) (hn : noOw r own = true) (hl : xs.length ≤ sizeLine)
    (h : ∀ f ∈ xs, ∃ r2, stepC own tg cc ee (enc f) r = .ok (g f) r2 ∧ wipeE r2 own = wipeE r own) : compD own tg cc ee (xs.map enc) r = .ok (xs.filterMap g) r := by
  have key : ∀ (xs : List α) (r' : Evn), wipeE r' own = wipeE r own → (∀ f ∈ xs, ∃ r2, stepC own tg cc ee (enc f) r = .ok (g f) r2 ∧ wipeE r2 own = wipeE r own) → ∃ r2, mapL (stepC own tg cc ee) (xs.map enc) r' = .ok (xs.filterMap g) r2 ∧ wipeE r2 own = wipeE r own := by
    intro xs
    induction xs with
    | nil => exact fun r' h _ => ⟨r', rfl, h⟩
    | cons f xs ih =>
      intro r' hw hx
      obtain ⟨r2, q1, q2⟩ := hx f List.mem_cons_self
      obtain ⟨r3, q3, q4⟩ := ih r2 q2 fun y hy => hx y (List.mem_cons_of_mem _ hy)
      refine ⟨r3, ?_, q4⟩
      show bnd (stepC own tg cc ee (enc f)) (fun o => bnd (mapL (stepC own tg cc ee) (xs.map enc)) fun ys => DL.ret (match o with | some y => y :: ys | none => ys)) r' = _
      rw [ev_bnd, step_wipe hw, q1]
      show bnd (mapL (stepC own tg cc ee) (xs.map enc)) (fun ys => DL.ret (match g f with | some y => y :: ys | none => ys)) r2 = _
      rw [ev_bnd, q3]
      cases hf : g f with
      | none => simp [List.filterMap_cons, hf, DL.ret]
      | some y => simp [List.filterMap_cons, hf, DL.ret]
  obtain ⟨r2, q1, q2⟩ := key xs r rfl h
  unfold compD
  rw [if_pos (by rw [hn, List.length_map, decide_eq_true hl]; rfl), ev_bnd]
  unfold nox
  rw [q1]
  show Res.ok _ (backE r r2 own) = _
  rw [back_same q2]
theorem fm_some {α β : Type} (g : α → β) (l : List α) : l.filterMap (fun x => some (g x)) = l.map g := by
  induction l with
  | nil => rfl
  | cons a l ih => simp [List.filterMap_cons, ih]
/-- things numbered -/
def numFrom {α : Type} (n : Nat) : List α → List (Nat × α)
  | [] => []
  | a :: l => (n, a) :: numFrom (n + 1) l
theorem numFrom_len {α : Type} : ∀ (n : Nat) (l : List α), (numFrom n l).length = l.length
  | _, [] => rfl
  | n, _ :: l => by simp [numFrom, numFrom_len (n + 1) l]
theorem enum_num {α : Type} (enc : α → PyData) : ∀ (n : Nat) (l : List α), enumFrom n (l.map enc) = (numFrom n l).map fun x => PyData.tuple [.int (x.1 : Nat), enc x.2]
  | _, [] => rfl
  | n, a :: l => by simp [enumFrom, numFrom, enum_num enc (n + 1) l]
theorem numFrom_mem {α : Type} {x : Nat × α} : ∀ {n : Nat} {l : List α}, x ∈ numFrom n l → x.2 ∈ l
  | n, a :: l, h => by
    rcases List.mem_cons.mp (show x ∈ (n, a) :: numFrom (n + 1) l from h) with rfl | h
    · exact List.mem_cons_self
    · exact List.mem_cons_of_mem _ (numFrom_mem h)
end DL
end
section
set_option maxHeartbeats 200000
set_option maxRecDepth 100000
namespace K28
open PySem L2 DL
/-! the text, printed by gen.py -/
def tp (i : Nat) : Stmt := PySem.Challenge.pw_citylines_k28_asks_and_leaves_at_each_mi.main.body.getD i (.Pass ⟨0, 0, 0, 0⟩)
def d_is_integer : FnD := ⟨["value"], 1, none, [
  .ret (.an (.isi (.var 0) [.kint]) (.nt (.isi (.var 0) [.kbool])))]⟩
def d_is_count : FnD := ⟨["value"], 1, none, [
  .ret (.an (.call 0 [.val (.var 0)] []) (.cmp .ge (.var 0) (.cst (.int 0))))]⟩
def d_is_way_word : FnD := ⟨["value"], 1, none, [
  .ret (.an (.isi (.var 0) [.kstr]) (.cmp .inn (.var 0) (.tup [.glb "BLIND" (.str "blind"), .glb "NEWS" (.str "news")])))]⟩
def d_is_feed : FnD := ⟨["value", "one"], 1, none, [
  .ifs (.orr (.nt (.isi (.var 0) [.ktuple])) (.orr (.cmp .ne (.prim .len [.var 0]) (.cst (.int 6))) (.nt (.prim .all [.comp (.nm 1) (.over (.slc (.var 0) none (some (.cst (.int 5))))) none (.call 1 [.val (.var 1)] []) [1]])))) [.ret (.cst (.bl false))] [],
  .ret (.an (.cmp .ge (.idx (.var 0) (.cst (.int 2))) (.cst (.int 1))) (.an (.cmp .ge (.idx (.var 0) (.cst (.int 1))) (.bin .add (.idx (.var 0) (.cst (.int 0))) (.idx (.var 0) (.cst (.int 2))))) (.call 2 [.val (.idx (.var 0) (.cst (.int 5)))] [])))]⟩
def d_soonest_of : FnD := ⟨["feed", "minute", "left", "end", "least", "change"], 2, none, [
  .asg (.tp [.nm 2, .nm 3, .nm 4, .nm 5]) (.slc (.var 0) none (some (.cst (.int 4)))),
  .ret (.ite (.cmp .le (.var 2) (.var 1)) (.bin .add (.var 3) (.var 5)) (.bin .add (.bin .add (.bin .add (.var 1) (.cst (.int 1))) (.var 4)) (.var 5)))]⟩
def d_asking : FnD := ⟨["feed", "minute"], 2, none, [
  .ifs (.orr (.cmp .le (.bin .add (.idx (.var 0) (.cst (.int 1))) (.idx (.var 0) (.cst (.int 3)))) (.var 1)) (.cmp .ge (.var 1) (.idx (.var 0) (.cst (.int 4))))) [.ret (.cst (.bl false))] [],
  .ret (.orr (.cmp .eq (.idx (.var 0) (.cst (.int 5))) (.glb "BLIND" (.str "blind"))) (.cmp .le (.call 4 [.val (.var 0), .val (.var 1)] []) (.idx (.var 0) (.cst (.int 4)))))]⟩
def d_quiet_of : FnD := ⟨["feed", "left", "end", "least", "change", "till", "way"], 1, none, [
  .asg (.tp [.nm 1, .nm 2, .nm 3, .nm 4, .nm 5, .nm 6]) (.var 0),
  .ifs (.cmp .eq (.var 6) (.glb "BLIND" (.str "blind"))) [.ret (.prim .min [.bin .add (.var 2) (.var 4), .var 5])] [],
  .ret (.ite (.cmp .le (.bin .add (.var 2) (.var 4)) (.var 5)) (.bin .add (.var 2) (.var 4)) (.prim .max [.cst (.int 0), .prim .min [.var 1, .bin .sub (.bin .sub (.var 5) (.var 3)) (.var 4)]]))]⟩
def d_leaving : FnD := ⟨["minute", "feeds", "feed"], 2, none, [
  .ret (.prim .max [.bin .add (.lst [.var 0]) (.comp (.nm 2) (.over (.var 1)) none (.call 6 [.val (.var 2)] []) [2])])]⟩
def d_made_by : FnD := ⟨["feed", "departure"], 2, none, [
  .ret (.cmp .le (.bin .add (.idx (.var 0) (.cst (.int 1))) (.idx (.var 0) (.cst (.int 3)))) (.var 1))]⟩
def d_want_feed : FnD := ⟨["feed"], 1, none, [
  .ifs (.nt (.call 3 [.val (.var 0)] [])) [.nev] []]⟩
def d_want_moment : FnD := ⟨["minute"], 1, none, [
  .ifs (.nt (.call 1 [.val (.var 0)] [])) [.nev] []]⟩
def d_want_feeds : FnD := ⟨["feeds", "feed"], 1, none, [
  .ifs (.orr (.nt (.isi (.var 0) [.klist, .ktuple])) (.orr (.cmp .gt (.prim .len [.var 0]) (.glb "MOST_MEETS" (.int 24))) (.nt (.prim .all [.comp (.nm 1) (.over (.var 0)) none (.call 3 [.val (.var 1)] []) [1]])))) [.nev] []]⟩
def d_soonest : FnD := ⟨["feed", "minute"], 2, none, [
  .expr (.call 9 [.val (.var 0)] []),
  .expr (.call 10 [.val (.var 1)] []),
  .ret (.call 4 [.val (.var 0), .val (.var 1)] [])]⟩
def d_asks : FnD := ⟨["feed", "minute"], 2, none, [
  .expr (.call 9 [.val (.var 0)] []),
  .expr (.call 10 [.val (.var 1)] []),
  .ret (.call 5 [.val (.var 0), .val (.var 1)] [])]⟩
def d_quiet : FnD := ⟨["feed"], 1, none, [
  .expr (.call 9 [.val (.var 0)] []),
  .ret (.call 6 [.val (.var 0)] [])]⟩
def d_is_made : FnD := ⟨["feed", "departure"], 2, none, [
  .expr (.call 9 [.val (.var 0)] []),
  .ifs (.nt (.call 1 [.val (.var 1)] [])) [.nev] [],
  .ret (.call 8 [.val (.var 0), .val (.var 1)] [])]⟩
def d_leaves : FnD := ⟨["minute", "feeds"], 2, none, [
  .expr (.call 10 [.val (.var 0)] []),
  .expr (.call 11 [.val (.var 1)] []),
  .ret (.call 7 [.val (.var 0), .val (.var 1)] [])]⟩
def d_in_vain : FnD := ⟨["minute", "feeds", "departure", "position", "feed"], 2, none, [
  .expr (.call 10 [.val (.var 0)] []),
  .expr (.call 11 [.val (.var 1)] []),
  .asg (.nm 2) (.call 7 [.val (.var 0), .val (.var 1)] []),
  .retF (.comp (.tp [.nm 3, .nm 4]) (.enum (.var 1)) (some (.an (.cmp .gt (.call 6 [.val (.var 4)] []) (.var 0)) (.nt (.call 8 [.val (.var 4), .val (.var 2)] [])))) (.var 3) [3, 4])]⟩
def d_law_pot : FnD := ⟨["script", "k", "cell"], 2, none, [
  .asg (.nm 2) (.ite (.cmp .lt (.var 1) (.prim .len [.var 0])) (.prim .abs [.idx (.var 0) (.var 1)]) (.bin .add (.bin .mul (.cst (.int 811)) (.var 1)) (.cst (.int 97)))),
  .retF (.lst [.prim .max [.cst (.int 0), .bin .sub (.var 2) (.bin .pow (.cst (.int 10)) (.cst (.int 18)))], .bin .add (.bin .mod (.prim .int [.bin .add (.bin .add (.bin .mul (.bin .mod (.prim .int [.var 2]) (.cst (.int 2147483549))) (.cst (.int 40014))) (.bin .mul (.cst (.int 6131)) (.var 1))) (.cst (.int 173))]) (.cst (.int 2147483563))) (.cst (.int 1))])]⟩
def d_law_draw : FnD := ⟨["pot", "many", "digit"], 2, (some 0), [
  .ifs (.cmp .gt (.itm 0 (.cst (.int 0))) (.cst (.int 0))) [.asg (.tp [.sub 0 0, .nm 2]) (.prim .divmod [.itm 0 (.cst (.int 0)), .var 1]), .ret (.var 2)] [],
  .asg (.sub 0 1) (.bin .mod (.prim .int [.bin .add (.bin .mul (.itm 0 (.cst (.int 1))) (.cst (.int 40692))) (.cst (.int 2711))]) (.cst (.int 2147483587))),
  .ret (.bin .mod (.prim .int [.bin .fdiv (.bin .mod (.prim .int [.bin .mul (.itm 0 (.cst (.int 1))) (.itm 0 (.cst (.int 1)))]) (.cst (.int 2147483549))) (.cst (.int 17))]) (.var 1))]⟩
def d_law_pick : FnD := ⟨["pot", "some"], 2, (some 0), [
  .ret (.idx (.var 1) (.call 19 [.ref 0, .val (.prim .len [.var 1])] []))]⟩
def d_law_feed : FnD := ⟨["pot", "least", "change", "left", "end", "till"], 1, (some 0), [
  .par [1, 2, 3] [.val (.bin .add (.cst (.int 1)) (.call 19 [.ref 0, .val (.cst (.int 9))] [])), .val (.call 19 [.ref 0, .val (.cst (.int 5))] []), .val (.call 19 [.ref 0, .val (.cst (.int 30))] [])],
  .asg (.nm 4) (.bin .add (.bin .add (.var 3) (.var 1)) (.call 20 [.ref 0, .val (.lst [.cst (.int 0), .cst (.int 0), .cst (.int 1), .cst (.int 2), .cst (.int 5), .cst (.int 9)])] [])),
  .asg (.nm 5) (.prim .max [.cst (.int 0), .bin .add (.bin .add (.var 4) (.var 2)) (.call 20 [.ref 0, .val (.lst [.cst (.int 0), .bin .sub (.cst (.int 0)) (.cst (.int 1)), .cst (.int 1), .cst (.int 4), .bin .sub (.cst (.int 0)) (.cst (.int 4)), .bin .sub (.call 19 [.ref 0, .val (.cst (.int 40))] []) (.cst (.int 20))])] [])]),
  .ret (.tup [.var 3, .var 4, .var 1, .var 2, .var 5, .call 20 [.ref 0, .val (.lst [.cst (.str "blind"), .cst (.str "news")])] []])]⟩
def d_law_soonest : FnD := ⟨["feed", "minute"], 2, none, [
  .ifs (.cmp .le (.idx (.var 0) (.cst (.int 0))) (.var 1)) [.ret (.bin .add (.idx (.var 0) (.cst (.int 1))) (.idx (.var 0) (.cst (.int 3))))] [],
  .ret (.bin .add (.bin .add (.bin .add (.var 1) (.cst (.int 1))) (.idx (.var 0) (.cst (.int 2)))) (.idx (.var 0) (.cst (.int 3))))]⟩
def d_law_asks : FnD := ⟨["feed", "minute", "is_here"], 2, none, [
  .asg (.nm 2) (.cmp .le (.bin .add (.idx (.var 0) (.cst (.int 1))) (.idx (.var 0) (.cst (.int 3)))) (.var 1)),
  .ifs (.orr (.var 2) (.cmp .ge (.var 1) (.idx (.var 0) (.cst (.int 4))))) [.ret (.cst (.bl false))] [],
  .ret (.orr (.cmp .eq (.idx (.var 0) (.cst (.int 5))) (.cst (.str "blind"))) (.cmp .le (.call 22 [.val (.var 0), .val (.var 1)] []) (.idx (.var 0) (.cst (.int 4)))))]⟩
def d_law_leaves : FnD := ⟨["minute", "feeds", "feed"], 2, none, [
  .whl (.prim .any [.comp (.nm 2) (.over (.var 1)) none (.call 23 [.val (.var 2), .val (.var 0)] []) [2]]) [.asg (.nm 0) (.bin .add (.var 0) (.cst (.int 1)))],
  .ret (.var 0)]⟩
def d_law_feed_right : FnD := ⟨["feed", "asked", "known", "first", "made", "minute"], 1, none, [
  .par [1, 2] [.val (.comp (.nm 5) (.rng (.cst (.int 80))) none (.call 13 [.val (.var 0), .val (.var 5)] []) [5]), .val (.comp (.nm 5) (.rng (.cst (.int 80))) none (.call 12 [.val (.var 0), .val (.var 5)] []) [5])],
  .ifs (.cmp .ne (.prim .repr [.var 1]) (.prim .repr [.comp (.nm 5) (.rng (.cst (.int 80))) none (.call 23 [.val (.var 0), .val (.var 5)] []) [5]])) [.ret (.cst (.bl false))] [],
  .ifs (.orr (.cmp .ne (.prim .repr [.var 2]) (.prim .repr [.comp (.nm 5) (.rng (.cst (.int 80))) none (.call 22 [.val (.var 0), .val (.var 5)] []) [5]])) (.cmp .ne (.var 2) (.prim .sorted [.var 2]))) [.ret (.cst (.bl false))] [],
  .asg (.nm 3) (.call 24 [.val (.cst (.int 0)), .val (.lst [.var 0])] []),
  .ifs (.cmp .ne (.prim .repr [.lst [.call 14 [.val (.var 0)] [], .call 14 [.val (.var 0)] [0], .call 3 [.val (.var 0)] [0]]]) (.prim .repr [.lst [.var 3, .var 3, .cst (.bl true)]])) [.ret (.cst (.bl false))] [],
  .ifs (.orr (.prim .any [.slc (.var 1) (some (.var 3)) none]) (.orr (.nt (.prim .all [.slc (.var 1) none (some (.var 3))])) (.orr (.cmp .ne (.call 12 [.val (.cst (.int 7)), .val (.var 0)] [1, 0]) (.idx (.var 2) (.cst (.int 7)))) (.cmp .ne (.call 13 [.val (.cst (.int 7)), .val (.var 0)] [1, 0]) (.idx (.var 1) (.cst (.int 7))))))) [.ret (.cst (.bl false))] [],
  .asg (.nm 4) (.comp (.nm 5) (.rng (.cst (.int 80))) none (.call 15 [.val (.var 5), .val (.var 0)] [1, 0]) [5]),
  .ret (.cmp .eq (.prim .repr [.var 4]) (.prim .repr [.comp (.nm 5) (.rng (.cst (.int 80))) none (.cmp .le (.bin .add (.idx (.var 0) (.cst (.int 1))) (.idx (.var 0) (.cst (.int 3)))) (.var 5)) [5]]))]⟩
def d_law_all_right : FnD := ⟨["pot", "feeds", "minute", "shown", "due", "lost", "told", "heard", "more", "moved", "at", "feed"], 3, (some 0), [
  .asg (.tp [.nm 3, .nm 4]) (.tup [.prim .repr [.var 1], .call 24 [.val (.var 2), .val (.var 1)] []]),
  .asg (.nm 5) (.comp (.tp [.nm 10, .nm 11]) (.enum (.var 1)) (some (.an (.call 23 [.val (.var 11), .val (.var 2)] []) (.cmp .gt (.bin .add (.idx (.var 11) (.cst (.int 1))) (.idx (.var 11) (.cst (.int 3)))) (.var 4)))) (.var 10) [10, 11]),
  .asg (.nm 6) (.lst [.call 16 [.val (.var 2), .val (.var 1)] [], .call 16 [.val (.prim .tuple [.rev (.var 1)]), .val (.var 2)] [1, 0], .call 16 [.val (.var 4), .val (.var 1)] []]),
  .ifs (.orr (.cmp .ne (.prim .repr [.var 6]) (.prim .repr [.lst [.var 4, .var 4, .var 4]])) (.cmp .ne (.prim .repr [.call 17 [.val (.var 2), .val (.prim .tuple [.var 1])] []]) (.prim .repr [.var 5]))) [.ret (.cst (.bl false))] [],
  .asgF 7 (.call 17 [.val (.var 2), .val (.var 1)] []),
  .app 7 (.cst .non),
  .ifs (.cmp .ne (.prim .repr [.call 17 [.val (.var 2), .val (.var 1)] []]) (.prim .repr [.var 5])) [.ret (.cst (.bl false))] [],
  .asg (.nm 8) (.call 20 [.ref 0, .val (.lst [.cst (.int 1), .cst (.int 60), .cst (.int 1440), .bin .pow (.cst (.int 10)) (.cst (.int 25))])] []),
  .asg (.nm 9) (.comp (.nm 11) (.over (.var 1)) none (.tup [.bin .add (.idx (.var 11) (.cst (.int 0))) (.var 8), .bin .add (.idx (.var 11) (.cst (.int 1))) (.var 8), .idx (.var 11) (.cst (.int 2)), .idx (.var 11) (.cst (.int 3)), .bin .add (.idx (.var 11) (.cst (.int 4))) (.var 8), .idx (.var 11) (.cst (.int 5))]) [11]),
  .ifs (.cmp .ne (.prim .repr [.lst [.call 16 [.val (.bin .add (.var 2) (.var 8)), .val (.var 9)] [], .call 17 [.val (.var 9), .val (.bin .add (.var 2) (.var 8))] [1, 0]]]) (.prim .repr [.lst [.bin .add (.var 4) (.var 8), .var 5]])) [.ret (.cst (.bl false))] [],
  .ret (.cmp .eq (.prim .repr [.var 1]) (.var 3))]⟩
def d_law_known_right : FnD := ⟨["told", "blind", "far", "late", "till", "feed"], 0, none, [
  .asg (.nm 0) (.comp (.nm 3) (.rng (.cst (.int 8))) none (.call 16 [.val (.cst (.int 12)), .val (.lst [.tup [.cst (.int 0), .bin .add (.cst (.int 10)) (.var 3), .cst (.int 10), .cst (.int 1), .cst (.int 15), .cst (.str "news")]])] []) [3]),
  .asg (.nm 1) (.comp (.nm 3) (.rng (.cst (.int 8))) none (.call 16 [.val (.cst (.int 12)), .val (.lst [.tup [.cst (.int 0), .bin .add (.cst (.int 10)) (.var 3), .cst (.int 10), .cst (.int 1), .cst (.int 15), .cst (.str "blind")]])] []) [3]),
  .ifs (.cmp .ne (.prim .repr [.lst [.var 0, .var 1]]) (.prim .repr [.lst [.lst [.cst (.int 12), .cst (.int 12), .cst (.int 13), .cst (.int 14), .cst (.int 15), .cst (.int 12), .cst (.int 12), .cst (.int 12)], .lst [.cst (.int 12), .cst (.int 12), .cst (.int 13), .cst (.int 14), .cst (.int 15), .cst (.int 15), .cst (.int 15), .cst (.int 15)]]])) [.ret (.cst (.bl false))] [],
  .asg (.nm 2) (.comp (.nm 4) (.over (.lst [.cst (.int 15), .cst (.int 16), .cst (.int 17), .cst (.int 23)])) none (.tup [.cst (.int 20), .cst (.int 22), .cst (.int 2), .cst (.int 1), .var 4, .cst (.str "news")]) [4]),
  .ret (.cmp .eq (.prim .repr [.comp (.nm 5) (.over (.var 2)) none (.lst [.call 16 [.val (.cst (.int 12)), .val (.lst [.var 5])] [], .call 17 [.val (.cst (.int 12)), .val (.lst [.var 5])] []]) [5]]) (.prim .repr [.lst [.lst [.cst (.int 12), .lst []], .lst [.cst (.int 13), .lst [.cst (.int 0)]], .lst [.cst (.int 14), .lst [.cst (.int 0)]], .lst [.cst (.int 23), .lst []]]]))]⟩
def d_law_right : FnD := ⟨["pot", "many", "minute", "feeds", "turn", "feed"], 1, (some 0), [
  .par [1, 2] [.val (.call 20 [.ref 0, .val (.lst [.cst (.int 0), .cst (.int 1), .cst (.int 1), .cst (.int 2), .cst (.int 3), .cst (.int 4), .cst (.int 6), .cst (.int 24)])] []), .val (.call 19 [.ref 0, .val (.cst (.int 45))] [])],
  .asg (.nm 3) (.comp (.nm 4) (.rng (.var 1)) none (.call 21 [.ref 0] []) [4]),
  .ifs (.nt (.prim .all [.comp (.nm 5) (.over (.slc (.var 3) none (some (.cst (.int 6))))) none (.call 25 [.val (.var 5)] []) [5]])) [.ret (.cst (.bl false))] [],
  .ret (.an (.call 26 [.ref 0, .val (.var 3), .val (.var 2)] []) (.call 27 [] []))]⟩
def d_law : FnD := ⟨["script", "k"], 1, none, [
  .ret (.prim .all [.comp (.nm 1) (.rng (.prim .max [.cst (.int 1), .prim .min [.cst (.int 3), .prim .len [.var 0]]])) none (.call 28 [.fre (.call 18 [.val (.var 0), .val (.var 1)] [])] []) [1]])]⟩
def fs : List FnD := [d_is_integer, d_is_count, d_is_way_word, d_is_feed, d_soonest_of, d_asking, d_quiet_of, d_leaving, d_made_by, d_want_feed, d_want_moment, d_want_feeds, d_soonest, d_asks, d_quiet, d_is_made, d_leaves, d_in_vain, d_law_pot, d_law_draw, d_law_pick, d_law_feed, d_law_soonest, d_law_asks, d_law_leaves, d_law_feed_right, d_law_all_right, d_law_known_right, d_law_right, d_law]
def tab : Tab := ⟨["is_integer", "is_count", "is_way_word", "is_feed", "soonest_of", "asking", "quiet_of", "leaving", "made_by", "want_feed", "want_moment", "want_feeds", "soonest", "asks", "quiet", "is_made", "leaves", "in_vain", "_law_pot", "_law_draw", "_law_pick", "_law_feed", "_law_soonest", "_law_asks", "_law_leaves", "_law_feed_right", "_law_all_right", "_law_known_right", "_law_right", "law"], [(14, 0, ["feed"], [0]), (3, 0, ["value"], [0]), (13, 0, ["minute", "feed"], [1, 0]), (12, 0, ["minute", "feed"], [1, 0]), (15, 0, ["departure", "feed"], [1, 0]), (16, 0, ["feeds", "minute"], [1, 0]), (17, 0, ["feeds", "minute"], [1, 0])], [("BLIND", (.str "blind")), ("NEWS", (.str "news")), ("MOST_MEETS", (.int 24))], [1, 1, 1, 1, 2, 2, 1, 2, 2, 1, 1, 1, 2, 2, 1, 2, 2, 2, 2, 2, 2, 1, 2, 2, 2, 1, 3, 0, 1, 1]⟩
theorem chk_0 : chkB tab d_is_integer.names (defScope (tp 7)) (fun _ => true) d_is_integer.body (defBody (tp 7)) = true := by decide +kernel
theorem sc_0 : FnScope d_is_integer.names ["value"] (defScope (tp 7)) := ⟨by kernel_rfl, by kernel_rfl, by kernel_rfl, by decide +kernel, by kernel_rfl, by decide +kernel, by decide +kernel⟩
theorem chk_1 : chkB tab d_is_count.names (defScope (tp 8)) (fun _ => true) d_is_count.body (defBody (tp 8)) = true := by decide +kernel
theorem sc_1 : FnScope d_is_count.names ["value"] (defScope (tp 8)) := ⟨by kernel_rfl, by kernel_rfl, by kernel_rfl, by decide +kernel, by kernel_rfl, by decide +kernel, by decide +kernel⟩
theorem chk_2 : chkB tab d_is_way_word.names (defScope (tp 13)) (fun _ => true) d_is_way_word.body (defBody (tp 13)) = true := by decide +kernel
theorem sc_2 : FnScope d_is_way_word.names ["value"] (defScope (tp 13)) := ⟨by kernel_rfl, by kernel_rfl, by kernel_rfl, by decide +kernel, by kernel_rfl, by decide +kernel, by decide +kernel⟩
theorem chk_3 : chkB tab d_is_feed.names (defScope (tp 14)) (fun _ => true) d_is_feed.body (defBody (tp 14)) = true := by decide +kernel
theorem sc_3 : FnScope d_is_feed.names ["value"] (defScope (tp 14)) := ⟨by kernel_rfl, by kernel_rfl, by kernel_rfl, by decide +kernel, by kernel_rfl, by decide +kernel, by decide +kernel⟩
theorem chk_4 : chkB tab d_soonest_of.names (defScope (tp 15)) (fun _ => true) d_soonest_of.body (defBody (tp 15)) = true := by decide +kernel
theorem sc_4 : FnScope d_soonest_of.names ["feed", "minute"] (defScope (tp 15)) := ⟨by kernel_rfl, by kernel_rfl, by kernel_rfl, by decide +kernel, by kernel_rfl, by decide +kernel, by decide +kernel⟩
theorem chk_5 : chkB tab d_asking.names (defScope (tp 16)) (fun _ => true) d_asking.body (defBody (tp 16)) = true := by decide +kernel
theorem sc_5 : FnScope d_asking.names ["feed", "minute"] (defScope (tp 16)) := ⟨by kernel_rfl, by kernel_rfl, by kernel_rfl, by decide +kernel, by kernel_rfl, by decide +kernel, by decide +kernel⟩
theorem chk_6 : chkB tab d_quiet_of.names (defScope (tp 17)) (fun _ => true) d_quiet_of.body (defBody (tp 17)) = true := by decide +kernel
theorem sc_6 : FnScope d_quiet_of.names ["feed"] (defScope (tp 17)) := ⟨by kernel_rfl, by kernel_rfl, by kernel_rfl, by decide +kernel, by kernel_rfl, by decide +kernel, by decide +kernel⟩
theorem chk_7 : chkB tab d_leaving.names (defScope (tp 18)) (fun _ => true) d_leaving.body (defBody (tp 18)) = true := by decide +kernel
theorem sc_7 : FnScope d_leaving.names ["minute", "feeds"] (defScope (tp 18)) := ⟨by kernel_rfl, by kernel_rfl, by kernel_rfl, by decide +kernel, by kernel_rfl, by decide +kernel, by decide +kernel⟩
theorem chk_8 : chkB tab d_made_by.names (defScope (tp 19)) (fun _ => true) d_made_by.body (defBody (tp 19)) = true := by decide +kernel
theorem sc_8 : FnScope d_made_by.names ["feed", "departure"] (defScope (tp 19)) := ⟨by kernel_rfl, by kernel_rfl, by kernel_rfl, by decide +kernel, by kernel_rfl, by decide +kernel, by decide +kernel⟩
theorem chk_9 : chkB tab d_want_feed.names (defScope (tp 20)) (fun _ => true) d_want_feed.body (defBody (tp 20)) = true := by decide +kernel
theorem sc_9 : FnScope d_want_feed.names ["feed"] (defScope (tp 20)) := ⟨by kernel_rfl, by kernel_rfl, by kernel_rfl, by decide +kernel, by kernel_rfl, by decide +kernel, by decide +kernel⟩
theorem chk_10 : chkB tab d_want_moment.names (defScope (tp 21)) (fun _ => true) d_want_moment.body (defBody (tp 21)) = true := by decide +kernel
theorem sc_10 : FnScope d_want_moment.names ["minute"] (defScope (tp 21)) := ⟨by kernel_rfl, by kernel_rfl, by kernel_rfl, by decide +kernel, by kernel_rfl, by decide +kernel, by decide +kernel⟩
theorem chk_11 : chkB tab d_want_feeds.names (defScope (tp 22)) (fun _ => true) d_want_feeds.body (defBody (tp 22)) = true := by decide +kernel
theorem sc_11 : FnScope d_want_feeds.names ["feeds"] (defScope (tp 22)) := ⟨by kernel_rfl, by kernel_rfl, by kernel_rfl, by decide +kernel, by kernel_rfl, by decide +kernel, by decide +kernel⟩
theorem chk_12 : chkB tab d_soonest.names (defScope (tp 23)) (fun _ => true) d_soonest.body (defBody (tp 23)) = true := by decide +kernel
theorem sc_12 : FnScope d_soonest.names ["feed", "minute"] (defScope (tp 23)) := ⟨by kernel_rfl, by kernel_rfl, by kernel_rfl, by decide +kernel, by kernel_rfl, by decide +kernel, by decide +kernel⟩
theorem chk_13 : chkB tab d_asks.names (defScope (tp 24)) (fun _ => true) d_asks.body (defBody (tp 24)) = true := by decide +kernel
theorem sc_13 : FnScope d_asks.names ["feed", "minute"] (defScope (tp 24)) := ⟨by kernel_rfl, by kernel_rfl, by kernel_rfl, by decide +kernel, by kernel_rfl, by decide +kernel, by decide +kernel⟩
theorem chk_14 : chkB tab d_quiet.names (defScope (tp 25)) (fun _ => true) d_quiet.body (defBody (tp 25)) = true := by decide +kernel
theorem sc_14 : FnScope d_quiet.names ["feed"] (defScope (tp 25)) := ⟨by kernel_rfl, by kernel_rfl, by kernel_rfl, by decide +kernel, by kernel_rfl, by decide +kernel, by decide +kernel⟩
theorem chk_15 : chkB tab d_is_made.names (defScope (tp 26)) (fun _ => true) d_is_made.body (defBody (tp 26)) = true := by decide +kernel
theorem sc_15 : FnScope d_is_made.names ["feed", "departure"] (defScope (tp 26)) := ⟨by kernel_rfl, by kernel_rfl, by kernel_rfl, by decide +kernel, by kernel_rfl, by decide +kernel, by decide +kernel⟩
theorem chk_16 : chkB tab d_leaves.names (defScope (tp 27)) (fun _ => true) d_leaves.body (defBody (tp 27)) = true := by decide +kernel
theorem sc_16 : FnScope d_leaves.names ["minute", "feeds"] (defScope (tp 27)) := ⟨by kernel_rfl, by kernel_rfl, by kernel_rfl, by decide +kernel, by kernel_rfl, by decide +kernel, by decide +kernel⟩
theorem chk_17 : chkB tab d_in_vain.names (defScope (tp 28)) (fun _ => true) d_in_vain.body (defBody (tp 28)) = true := by decide +kernel
theorem sc_17 : FnScope d_in_vain.names ["minute", "feeds"] (defScope (tp 28)) := ⟨by kernel_rfl, by kernel_rfl, by kernel_rfl, by decide +kernel, by kernel_rfl, by decide +kernel, by decide +kernel⟩
theorem chk_18 : chkB tab d_law_pot.names (defScope (tp 30)) (fun _ => true) d_law_pot.body (defBody (tp 30)) = true := by decide +kernel
theorem sc_18 : FnScope d_law_pot.names ["script", "k"] (defScope (tp 30)) := ⟨by kernel_rfl, by kernel_rfl, by kernel_rfl, by decide +kernel, by kernel_rfl, by decide +kernel, by decide +kernel⟩
theorem chk_19 : chkB tab d_law_draw.names (defScope (tp 31)) (fun _ => true) d_law_draw.body (defBody (tp 31)) = true := by decide +kernel
theorem sc_19 : FnScope d_law_draw.names ["pot", "many"] (defScope (tp 31)) := ⟨by kernel_rfl, by kernel_rfl, by kernel_rfl, by decide +kernel, by kernel_rfl, by decide +kernel, by decide +kernel⟩
theorem chk_20 : chkB tab d_law_pick.names (defScope (tp 32)) (fun _ => true) d_law_pick.body (defBody (tp 32)) = true := by decide +kernel
theorem sc_20 : FnScope d_law_pick.names ["pot", "some"] (defScope (tp 32)) := ⟨by kernel_rfl, by kernel_rfl, by kernel_rfl, by decide +kernel, by kernel_rfl, by decide +kernel, by decide +kernel⟩
theorem chk_21 : chkB tab d_law_feed.names (defScope (tp 33)) (fun _ => true) d_law_feed.body (defBody (tp 33)) = true := by decide +kernel
theorem sc_21 : FnScope d_law_feed.names ["pot"] (defScope (tp 33)) := ⟨by kernel_rfl, by kernel_rfl, by kernel_rfl, by decide +kernel, by kernel_rfl, by decide +kernel, by decide +kernel⟩
theorem chk_22 : chkB tab d_law_soonest.names (defScope (tp 34)) (fun _ => true) d_law_soonest.body (defBody (tp 34)) = true := by decide +kernel
theorem sc_22 : FnScope d_law_soonest.names ["feed", "minute"] (defScope (tp 34)) := ⟨by kernel_rfl, by kernel_rfl, by kernel_rfl, by decide +kernel, by kernel_rfl, by decide +kernel, by decide +kernel⟩
theorem chk_23 : chkB tab d_law_asks.names (defScope (tp 35)) (fun _ => true) d_law_asks.body (defBody (tp 35)) = true := by decide +kernel
theorem sc_23 : FnScope d_law_asks.names ["feed", "minute"] (defScope (tp 35)) := ⟨by kernel_rfl, by kernel_rfl, by kernel_rfl, by decide +kernel, by kernel_rfl, by decide +kernel, by decide +kernel⟩
theorem chk_24 : chkB tab d_law_leaves.names (defScope (tp 36)) (fun _ => true) d_law_leaves.body (defBody (tp 36)) = true := by decide +kernel
theorem sc_24 : FnScope d_law_leaves.names ["minute", "feeds"] (defScope (tp 36)) := ⟨by kernel_rfl, by kernel_rfl, by kernel_rfl, by decide +kernel, by kernel_rfl, by decide +kernel, by decide +kernel⟩
theorem chk_25 : chkB tab d_law_feed_right.names (defScope (tp 37)) (fun _ => true) d_law_feed_right.body (defBody (tp 37)) = true := by decide +kernel
theorem sc_25 : FnScope d_law_feed_right.names ["feed"] (defScope (tp 37)) := ⟨by kernel_rfl, by kernel_rfl, by kernel_rfl, by decide +kernel, by kernel_rfl, by decide +kernel, by decide +kernel⟩
theorem chk_26 : chkB tab d_law_all_right.names (defScope (tp 38)) (fun _ => true) d_law_all_right.body (defBody (tp 38)) = true := by decide +kernel
theorem sc_26 : FnScope d_law_all_right.names ["pot", "feeds", "minute"] (defScope (tp 38)) := ⟨by kernel_rfl, by kernel_rfl, by kernel_rfl, by decide +kernel, by kernel_rfl, by decide +kernel, by decide +kernel⟩
theorem chk_27 : chkB tab d_law_known_right.names (defScope (tp 39)) (fun _ => true) d_law_known_right.body (defBody (tp 39)) = true := by decide +kernel
theorem sc_27 : FnScope d_law_known_right.names [] (defScope (tp 39)) := ⟨by kernel_rfl, by kernel_rfl, by kernel_rfl, by decide +kernel, by kernel_rfl, by decide +kernel, by decide +kernel⟩
theorem chk_28 : chkB tab d_law_right.names (defScope (tp 40)) (fun _ => true) d_law_right.body (defBody (tp 40)) = true := by decide +kernel
theorem sc_28 : FnScope d_law_right.names ["pot"] (defScope (tp 40)) := ⟨by kernel_rfl, by kernel_rfl, by kernel_rfl, by decide +kernel, by kernel_rfl, by decide +kernel, by decide +kernel⟩
theorem chk_29 : chkB tab d_law.names (defScope (tp 41)) (fun _ => true) d_law.body (defBody (tp 41)) = true := by decide +kernel
theorem sc_29 : FnScope d_law.names ["script"] (defScope (tp 41)) := ⟨by kernel_rfl, by kernel_rfl, by kernel_rfl, by decide +kernel, by kernel_rfl, by decide +kernel, by decide +kernel⟩
end K28
end
section
set_option maxHeartbeats 0
set_option maxRecDepth 100000
namespace K28
open PySem L2 DL
def dd_0 : He.DefD := ⟨("is_integer", none), "is_integer", "is_integer", defArgs (tp 7), defBody (tp 7), defScope (tp 7), [], []⟩
def dd_1 : He.DefD := ⟨("is_count", none), "is_count", "is_count", defArgs (tp 8), defBody (tp 8), defScope (tp 8), [], []⟩
def dd_2 : He.DefD := ⟨("is_way_word", none), "is_way_word", "is_way_word", defArgs (tp 13), defBody (tp 13), defScope (tp 13), [], []⟩
def dd_3 : He.DefD := ⟨("is_feed", none), "is_feed", "is_feed", defArgs (tp 14), defBody (tp 14), defScope (tp 14), [], []⟩
def dd_4 : He.DefD := ⟨("soonest_of", none), "soonest_of", "soonest_of", defArgs (tp 15), defBody (tp 15), defScope (tp 15), [], []⟩
def dd_5 : He.DefD := ⟨("asking", none), "asking", "asking", defArgs (tp 16), defBody (tp 16), defScope (tp 16), [], []⟩
def dd_6 : He.DefD := ⟨("quiet_of", none), "quiet_of", "quiet_of", defArgs (tp 17), defBody (tp 17), defScope (tp 17), [], []⟩
def dd_7 : He.DefD := ⟨("leaving", none), "leaving", "leaving", defArgs (tp 18), defBody (tp 18), defScope (tp 18), [], []⟩
def dd_8 : He.DefD := ⟨("made_by", none), "made_by", "made_by", defArgs (tp 19), defBody (tp 19), defScope (tp 19), [], []⟩
def dd_9 : He.DefD := ⟨("want_feed", none), "want_feed", "want_feed", defArgs (tp 20), defBody (tp 20), defScope (tp 20), [], []⟩
def dd_10 : He.DefD := ⟨("want_moment", none), "want_moment", "want_moment", defArgs (tp 21), defBody (tp 21), defScope (tp 21), [], []⟩
def dd_11 : He.DefD := ⟨("want_feeds", none), "want_feeds", "want_feeds", defArgs (tp 22), defBody (tp 22), defScope (tp 22), [], []⟩
def dd_12 : He.DefD := ⟨("soonest", none), "soonest", "soonest", defArgs (tp 23), defBody (tp 23), defScope (tp 23), [], []⟩
def dd_13 : He.DefD := ⟨("asks", none), "asks", "asks", defArgs (tp 24), defBody (tp 24), defScope (tp 24), [], []⟩
def dd_14 : He.DefD := ⟨("quiet", none), "quiet", "quiet", defArgs (tp 25), defBody (tp 25), defScope (tp 25), [], []⟩
def dd_15 : He.DefD := ⟨("is_made", none), "is_made", "is_made", defArgs (tp 26), defBody (tp 26), defScope (tp 26), [], []⟩
def dd_16 : He.DefD := ⟨("leaves", none), "leaves", "leaves", defArgs (tp 27), defBody (tp 27), defScope (tp 27), [], []⟩
def dd_17 : He.DefD := ⟨("in_vain", none), "in_vain", "in_vain", defArgs (tp 28), defBody (tp 28), defScope (tp 28), [], []⟩
def dd_18 : He.DefD := ⟨("_law_pot", none), "_law_pot", "_law_pot", defArgs (tp 30), defBody (tp 30), defScope (tp 30), [], []⟩
def dd_19 : He.DefD := ⟨("_law_draw", none), "_law_draw", "_law_draw", defArgs (tp 31), defBody (tp 31), defScope (tp 31), [], []⟩
def dd_20 : He.DefD := ⟨("_law_pick", none), "_law_pick", "_law_pick", defArgs (tp 32), defBody (tp 32), defScope (tp 32), [], []⟩
def dd_21 : He.DefD := ⟨("_law_feed", none), "_law_feed", "_law_feed", defArgs (tp 33), defBody (tp 33), defScope (tp 33), [], []⟩
def dd_22 : He.DefD := ⟨("_law_soonest", none), "_law_soonest", "_law_soonest", defArgs (tp 34), defBody (tp 34), defScope (tp 34), [], []⟩
def dd_23 : He.DefD := ⟨("_law_asks", none), "_law_asks", "_law_asks", defArgs (tp 35), defBody (tp 35), defScope (tp 35), [], []⟩
def dd_24 : He.DefD := ⟨("_law_leaves", none), "_law_leaves", "_law_leaves", defArgs (tp 36), defBody (tp 36), defScope (tp 36), [], []⟩
def dd_25 : He.DefD := ⟨("_law_feed_right", none), "_law_feed_right", "_law_feed_right", defArgs (tp 37), defBody (tp 37), defScope (tp 37), [], []⟩
def dd_26 : He.DefD := ⟨("_law_all_right", none), "_law_all_right", "_law_all_right", defArgs (tp 38), defBody (tp 38), defScope (tp 38), [], []⟩
def dd_27 : He.DefD := ⟨("_law_known_right", none), "_law_known_right", "_law_known_right", defArgs (tp 39), defBody (tp 39), defScope (tp 39), [], []⟩
def dd_28 : He.DefD := ⟨("_law_right", none), "_law_right", "_law_right", defArgs (tp 40), defBody (tp 40), defScope (tp 40), [], []⟩
def dd_29 : He.DefD := ⟨("law", none), "law", "law", defArgs (tp 41), defBody (tp 41), defScope (tp 41), [], []⟩
def fn : List He.DefD := [dd_0, dd_1, dd_2, dd_3, dd_4, dd_5, dd_6, dd_7, dd_8, dd_9, dd_10, dd_11, dd_12, dd_13, dd_14, dd_15, dd_16, dd_17, dd_18, dd_19, dd_20, dd_21, dd_22, dd_23, dd_24, dd_25, dd_26, dd_27, dd_28, dd_29]
def cfa : List He.Fa := [.str "BLIND" "blind", .str "NEWS" "news", .int "MOST_MEETS" (24)]
def fa : List He.Fa := tab.fns.map .glo ++ (bltNames.map .free ++ cfa)
abbrev R : PySem.W.OpenRow := PySem.W.OpenLaw.row PySem.Challenge.rw_citylines_k28_asks_and_leaves_at_each_mi
abbrev hk : PySem.W.Hook := He.hookD 4 fa fn
def ob (s : PySem.W.SharedT) : He.AlD := He.obsDG 4 fa fn (HandSHeadRun.getT s)
theorem ob_eq (s : PySem.W.SharedT) : ob s = hk.obs s.abs := He.obsDG_eq (HandSHeadRun.getT_eq s)
def loose0 : List PySem.Str := ["MOST_MEETS", "BLIND", "NEWS", "CityError", "InvalidMinute", "InvalidDeparture", "InvalidFeed", "InvalidFeeds", "is_integer", "is_count", "is_way_word", "is_feed", "soonest_of", "asking", "quiet_of", "leaving", "made_by", "want_feed", "want_moment", "want_feeds", "soonest", "asks", "quiet", "is_made", "leaves", "in_vain", "_law_pot", "_law_draw", "_law_pick", "_law_feed"]
def loose1 : List PySem.Str := ["_law_soonest", "_law_asks", "_law_leaves", "_law_feed_right", "_law_all_right", "_law_known_right", "_law_right"]
def loose : List PySem.Str := loose0 ++ loose1
theorem run (w : World) : HandSHeadRun.RunEq R (PySem.W.view R.prog [41]) hk ob 20000 loose w := by
  intro os
  kernel_rfl
section
variable {K : PySem.W.Frag} {h : Heap} {mg : PySem.Str → Option Value}
theorem fact_of (c : He.SaysD fa fn K) {f : He.Fa} (m : f ∈ fa) : f.ok K = true := by
  obtain ⟨i, hi⟩ := List.mem_iff_getElem?.mp m
  exact c.fact i hi
theorem glo_of (X : K.In h) (G : h.Ns mainGlobals mg) (c : He.SaysD fa fn K) {x : PySem.Str} (m : x ∈ tab.fns) : mg x = some (.ref (He.ga K x)) :=
  He.glo_ok X G (fact_of c (List.mem_append_left _ (List.mem_map_of_mem m)))
theorem free_of (X : K.In h) (G : h.Ns mainGlobals mg) (c : He.SaysD fa fn K) : ∀ x ∈ bltNames, mg x = none := fun x m =>
  He.free_ok X G (fact_of c (List.mem_append_right _ (List.mem_append_left _ (List.mem_map_of_mem m))))
theorem cfa_of (c : He.SaysD fa fn K) {f : He.Fa} (m : f ∈ cfa) : f.ok K = true := fact_of c (List.mem_append_right _ (List.mem_append_right _ m))
theorem D_0 (X : K.In h) (G : h.Ns mainGlobals mg) (c : He.SaysD fa fn K) : ∃ fd : FuncData, DefOk K mg tab 0 "is_integer" d_is_integer (He.ga K "is_integer") fd (defArgs (tp 7)) (defBody (tp 7)) (defScope (tp 7)) ["value"] := by
  obtain ⟨fd, F⟩ := c.def_ 0 (d := dd_0) rfl
  have F : L2.FunD K "is_integer" "is_integer" (defArgs (tp 7)) (defBody (tp 7)) (defScope (tp 7)) [] [] (He.ga K "is_integer") fd := F
  refine ⟨fd, F, glo_of X G c (by decide), sc_0, rfl, rfl, chk_0, L2.FunD.bindsA (ps := ["value"]) F (fun _ _ _ _ _ _ us hl => match us, hl with | [_], _ => rfl), fun n ks kw hm s us ws h1 h2 => ?_⟩
  simp only [tab, List.mem_cons, Prod.mk.injEq, List.not_mem_nil, or_false] at hm
  rcases hm with ⟨hf, rfl, rfl, rfl⟩ | ⟨hf, rfl, rfl, rfl⟩ | ⟨hf, rfl, rfl, rfl⟩ | ⟨hf, rfl, rfl, rfl⟩ | ⟨hf, rfl, rfl, rfl⟩ | ⟨hf, rfl, rfl, rfl⟩ | ⟨hf, rfl, rfl, rfl⟩
  · exact absurd hf (by decide)
  · exact absurd hf (by decide)
  · exact absurd hf (by decide)
  · exact absurd hf (by decide)
  · exact absurd hf (by decide)
  · exact absurd hf (by decide)
  · exact absurd hf (by decide)
theorem D_1 (X : K.In h) (G : h.Ns mainGlobals mg) (c : He.SaysD fa fn K) : ∃ fd : FuncData, DefOk K mg tab 1 "is_count" d_is_count (He.ga K "is_count") fd (defArgs (tp 8)) (defBody (tp 8)) (defScope (tp 8)) ["value"] := by
  obtain ⟨fd, F⟩ := c.def_ 1 (d := dd_1) rfl
  have F : L2.FunD K "is_count" "is_count" (defArgs (tp 8)) (defBody (tp 8)) (defScope (tp 8)) [] [] (He.ga K "is_count") fd := F
  refine ⟨fd, F, glo_of X G c (by decide), sc_1, rfl, rfl, chk_1, L2.FunD.bindsA (ps := ["value"]) F (fun _ _ _ _ _ _ us hl => match us, hl with | [_], _ => rfl), fun n ks kw hm s us ws h1 h2 => ?_⟩
  simp only [tab, List.mem_cons, Prod.mk.injEq, List.not_mem_nil, or_false] at hm
  rcases hm with ⟨hf, rfl, rfl, rfl⟩ | ⟨hf, rfl, rfl, rfl⟩ | ⟨hf, rfl, rfl, rfl⟩ | ⟨hf, rfl, rfl, rfl⟩ | ⟨hf, rfl, rfl, rfl⟩ | ⟨hf, rfl, rfl, rfl⟩ | ⟨hf, rfl, rfl, rfl⟩
  · exact absurd hf (by decide)
  · exact absurd hf (by decide)
  · exact absurd hf (by decide)
  · exact absurd hf (by decide)
  · exact absurd hf (by decide)
  · exact absurd hf (by decide)
  · exact absurd hf (by decide)
theorem D_2 (X : K.In h) (G : h.Ns mainGlobals mg) (c : He.SaysD fa fn K) : ∃ fd : FuncData, DefOk K mg tab 2 "is_way_word" d_is_way_word (He.ga K "is_way_word") fd (defArgs (tp 13)) (defBody (tp 13)) (defScope (tp 13)) ["value"] := by
  obtain ⟨fd, F⟩ := c.def_ 2 (d := dd_2) rfl
  have F : L2.FunD K "is_way_word" "is_way_word" (defArgs (tp 13)) (defBody (tp 13)) (defScope (tp 13)) [] [] (He.ga K "is_way_word") fd := F
  refine ⟨fd, F, glo_of X G c (by decide), sc_2, rfl, rfl, chk_2, L2.FunD.bindsA (ps := ["value"]) F (fun _ _ _ _ _ _ us hl => match us, hl with | [_], _ => rfl), fun n ks kw hm s us ws h1 h2 => ?_⟩
  simp only [tab, List.mem_cons, Prod.mk.injEq, List.not_mem_nil, or_false] at hm
  rcases hm with ⟨hf, rfl, rfl, rfl⟩ | ⟨hf, rfl, rfl, rfl⟩ | ⟨hf, rfl, rfl, rfl⟩ | ⟨hf, rfl, rfl, rfl⟩ | ⟨hf, rfl, rfl, rfl⟩ | ⟨hf, rfl, rfl, rfl⟩ | ⟨hf, rfl, rfl, rfl⟩
  · exact absurd hf (by decide)
  · exact absurd hf (by decide)
  · exact absurd hf (by decide)
  · exact absurd hf (by decide)
  · exact absurd hf (by decide)
  · exact absurd hf (by decide)
  · exact absurd hf (by decide)
theorem D_3 (X : K.In h) (G : h.Ns mainGlobals mg) (c : He.SaysD fa fn K) : ∃ fd : FuncData, DefOk K mg tab 3 "is_feed" d_is_feed (He.ga K "is_feed") fd (defArgs (tp 14)) (defBody (tp 14)) (defScope (tp 14)) ["value"] := by
  obtain ⟨fd, F⟩ := c.def_ 3 (d := dd_3) rfl
  have F : L2.FunD K "is_feed" "is_feed" (defArgs (tp 14)) (defBody (tp 14)) (defScope (tp 14)) [] [] (He.ga K "is_feed") fd := F
  refine ⟨fd, F, glo_of X G c (by decide), sc_3, rfl, rfl, chk_3, L2.FunD.bindsA (ps := ["value"]) F (fun _ _ _ _ _ _ us hl => match us, hl with | [_], _ => rfl), fun n ks kw hm s us ws h1 h2 => ?_⟩
  simp only [tab, List.mem_cons, Prod.mk.injEq, List.not_mem_nil, or_false] at hm
  rcases hm with ⟨hf, rfl, rfl, rfl⟩ | ⟨hf, rfl, rfl, rfl⟩ | ⟨hf, rfl, rfl, rfl⟩ | ⟨hf, rfl, rfl, rfl⟩ | ⟨hf, rfl, rfl, rfl⟩ | ⟨hf, rfl, rfl, rfl⟩ | ⟨hf, rfl, rfl, rfl⟩
  · exact absurd hf (by decide)
  · exact (match us, ws, h1, h2 with | [], [_], _, _ => funD_bindK F (fun _ _ _ _ _ _ => rfl) s)
  · exact absurd hf (by decide)
  · exact absurd hf (by decide)
  · exact absurd hf (by decide)
  · exact absurd hf (by decide)
  · exact absurd hf (by decide)
theorem D_4 (X : K.In h) (G : h.Ns mainGlobals mg) (c : He.SaysD fa fn K) : ∃ fd : FuncData, DefOk K mg tab 4 "soonest_of" d_soonest_of (He.ga K "soonest_of") fd (defArgs (tp 15)) (defBody (tp 15)) (defScope (tp 15)) ["feed", "minute"] := by
  obtain ⟨fd, F⟩ := c.def_ 4 (d := dd_4) rfl
  have F : L2.FunD K "soonest_of" "soonest_of" (defArgs (tp 15)) (defBody (tp 15)) (defScope (tp 15)) [] [] (He.ga K "soonest_of") fd := F
  refine ⟨fd, F, glo_of X G c (by decide), sc_4, rfl, rfl, chk_4, L2.FunD.bindsA (ps := ["feed", "minute"]) F (fun _ _ _ _ _ _ us hl => match us, hl with | [_, _], _ => rfl), fun n ks kw hm s us ws h1 h2 => ?_⟩
  simp only [tab, List.mem_cons, Prod.mk.injEq, List.not_mem_nil, or_false] at hm
  rcases hm with ⟨hf, rfl, rfl, rfl⟩ | ⟨hf, rfl, rfl, rfl⟩ | ⟨hf, rfl, rfl, rfl⟩ | ⟨hf, rfl, rfl, rfl⟩ | ⟨hf, rfl, rfl, rfl⟩ | ⟨hf, rfl, rfl, rfl⟩ | ⟨hf, rfl, rfl, rfl⟩
  · exact absurd hf (by decide)
  · exact absurd hf (by decide)
  · exact absurd hf (by decide)
  · exact absurd hf (by decide)
  · exact absurd hf (by decide)
  · exact absurd hf (by decide)
  · exact absurd hf (by decide)
theorem D_5 (X : K.In h) (G : h.Ns mainGlobals mg) (c : He.SaysD fa fn K) : ∃ fd : FuncData, DefOk K mg tab 5 "asking" d_asking (He.ga K "asking") fd (defArgs (tp 16)) (defBody (tp 16)) (defScope (tp 16)) ["feed", "minute"] := by
  obtain ⟨fd, F⟩ := c.def_ 5 (d := dd_5) rfl
  have F : L2.FunD K "asking" "asking" (defArgs (tp 16)) (defBody (tp 16)) (defScope (tp 16)) [] [] (He.ga K "asking") fd := F
  refine ⟨fd, F, glo_of X G c (by decide), sc_5, rfl, rfl, chk_5, L2.FunD.bindsA (ps := ["feed", "minute"]) F (fun _ _ _ _ _ _ us hl => match us, hl with | [_, _], _ => rfl), fun n ks kw hm s us ws h1 h2 => ?_⟩
  simp only [tab, List.mem_cons, Prod.mk.injEq, List.not_mem_nil, or_false] at hm
  rcases hm with ⟨hf, rfl, rfl, rfl⟩ | ⟨hf, rfl, rfl, rfl⟩ | ⟨hf, rfl, rfl, rfl⟩ | ⟨hf, rfl, rfl, rfl⟩ | ⟨hf, rfl, rfl, rfl⟩ | ⟨hf, rfl, rfl, rfl⟩ | ⟨hf, rfl, rfl, rfl⟩
  · exact absurd hf (by decide)
  · exact absurd hf (by decide)
  · exact absurd hf (by decide)
  · exact absurd hf (by decide)
  · exact absurd hf (by decide)
  · exact absurd hf (by decide)
  · exact absurd hf (by decide)
theorem D_6 (X : K.In h) (G : h.Ns mainGlobals mg) (c : He.SaysD fa fn K) : ∃ fd : FuncData, DefOk K mg tab 6 "quiet_of" d_quiet_of (He.ga K "quiet_of") fd (defArgs (tp 17)) (defBody (tp 17)) (defScope (tp 17)) ["feed"] := by
  obtain ⟨fd, F⟩ := c.def_ 6 (d := dd_6) rfl
  have F : L2.FunD K "quiet_of" "quiet_of" (defArgs (tp 17)) (defBody (tp 17)) (defScope (tp 17)) [] [] (He.ga K "quiet_of") fd := F
  refine ⟨fd, F, glo_of X G c (by decide), sc_6, rfl, rfl, chk_6, L2.FunD.bindsA (ps := ["feed"]) F (fun _ _ _ _ _ _ us hl => match us, hl with | [_], _ => rfl), fun n ks kw hm s us ws h1 h2 => ?_⟩
  simp only [tab, List.mem_cons, Prod.mk.injEq, List.not_mem_nil, or_false] at hm
  rcases hm with ⟨hf, rfl, rfl, rfl⟩ | ⟨hf, rfl, rfl, rfl⟩ | ⟨hf, rfl, rfl, rfl⟩ | ⟨hf, rfl, rfl, rfl⟩ | ⟨hf, rfl, rfl, rfl⟩ | ⟨hf, rfl, rfl, rfl⟩ | ⟨hf, rfl, rfl, rfl⟩
  · exact absurd hf (by decide)
  · exact absurd hf (by decide)
  · exact absurd hf (by decide)
  · exact absurd hf (by decide)
  · exact absurd hf (by decide)
  · exact absurd hf (by decide)
  · exact absurd hf (by decide)
theorem D_7 (X : K.In h) (G : h.Ns mainGlobals mg) (c : He.SaysD fa fn K) : ∃ fd : FuncData, DefOk K mg tab 7 "leaving" d_leaving (He.ga K "leaving") fd (defArgs (tp 18)) (defBody (tp 18)) (defScope (tp 18)) ["minute", "feeds"] := by
  obtain ⟨fd, F⟩ := c.def_ 7 (d := dd_7) rfl
  have F : L2.FunD K "leaving" "leaving" (defArgs (tp 18)) (defBody (tp 18)) (defScope (tp 18)) [] [] (He.ga K "leaving") fd := F
  refine ⟨fd, F, glo_of X G c (by decide), sc_7, rfl, rfl, chk_7, L2.FunD.bindsA (ps := ["minute", "feeds"]) F (fun _ _ _ _ _ _ us hl => match us, hl with | [_, _], _ => rfl), fun n ks kw hm s us ws h1 h2 => ?_⟩
  simp only [tab, List.mem_cons, Prod.mk.injEq, List.not_mem_nil, or_false] at hm
  rcases hm with ⟨hf, rfl, rfl, rfl⟩ | ⟨hf, rfl, rfl, rfl⟩ | ⟨hf, rfl, rfl, rfl⟩ | ⟨hf, rfl, rfl, rfl⟩ | ⟨hf, rfl, rfl, rfl⟩ | ⟨hf, rfl, rfl, rfl⟩ | ⟨hf, rfl, rfl, rfl⟩
  · exact absurd hf (by decide)
  · exact absurd hf (by decide)
  · exact absurd hf (by decide)
  · exact absurd hf (by decide)
  · exact absurd hf (by decide)
  · exact absurd hf (by decide)
  · exact absurd hf (by decide)
theorem D_8 (X : K.In h) (G : h.Ns mainGlobals mg) (c : He.SaysD fa fn K) : ∃ fd : FuncData, DefOk K mg tab 8 "made_by" d_made_by (He.ga K "made_by") fd (defArgs (tp 19)) (defBody (tp 19)) (defScope (tp 19)) ["feed", "departure"] := by
  obtain ⟨fd, F⟩ := c.def_ 8 (d := dd_8) rfl
  have F : L2.FunD K "made_by" "made_by" (defArgs (tp 19)) (defBody (tp 19)) (defScope (tp 19)) [] [] (He.ga K "made_by") fd := F
  refine ⟨fd, F, glo_of X G c (by decide), sc_8, rfl, rfl, chk_8, L2.FunD.bindsA (ps := ["feed", "departure"]) F (fun _ _ _ _ _ _ us hl => match us, hl with | [_, _], _ => rfl), fun n ks kw hm s us ws h1 h2 => ?_⟩
  simp only [tab, List.mem_cons, Prod.mk.injEq, List.not_mem_nil, or_false] at hm
  rcases hm with ⟨hf, rfl, rfl, rfl⟩ | ⟨hf, rfl, rfl, rfl⟩ | ⟨hf, rfl, rfl, rfl⟩ | ⟨hf, rfl, rfl, rfl⟩ | ⟨hf, rfl, rfl, rfl⟩ | ⟨hf, rfl, rfl, rfl⟩ | ⟨hf, rfl, rfl, rfl⟩
  · exact absurd hf (by decide)
  · exact absurd hf (by decide)
  · exact absurd hf (by decide)
  · exact absurd hf (by decide)
  · exact absurd hf (by decide)
  · exact absurd hf (by decide)
  · exact absurd hf (by decide)
theorem D_9 (X : K.In h) (G : h.Ns mainGlobals mg) (c : He.SaysD fa fn K) : ∃ fd : FuncData, DefOk K mg tab 9 "want_feed" d_want_feed (He.ga K "want_feed") fd (defArgs (tp 20)) (defBody (tp 20)) (defScope (tp 20)) ["feed"] := by
  obtain ⟨fd, F⟩ := c.def_ 9 (d := dd_9) rfl
  have F : L2.FunD K "want_feed" "want_feed" (defArgs (tp 20)) (defBody (tp 20)) (defScope (tp 20)) [] [] (He.ga K "want_feed") fd := F
  refine ⟨fd, F, glo_of X G c (by decide), sc_9, rfl, rfl, chk_9, L2.FunD.bindsA (ps := ["feed"]) F (fun _ _ _ _ _ _ us hl => match us, hl with | [_], _ => rfl), fun n ks kw hm s us ws h1 h2 => ?_⟩
  simp only [tab, List.mem_cons, Prod.mk.injEq, List.not_mem_nil, or_false] at hm
  rcases hm with ⟨hf, rfl, rfl, rfl⟩ | ⟨hf, rfl, rfl, rfl⟩ | ⟨hf, rfl, rfl, rfl⟩ | ⟨hf, rfl, rfl, rfl⟩ | ⟨hf, rfl, rfl, rfl⟩ | ⟨hf, rfl, rfl, rfl⟩ | ⟨hf, rfl, rfl, rfl⟩
  · exact absurd hf (by decide)
  · exact absurd hf (by decide)
  · exact absurd hf (by decide)
  · exact absurd hf (by decide)
  · exact absurd hf (by decide)
  · exact absurd hf (by decide)
  · exact absurd hf (by decide)
theorem D_10 (X : K.In h) (G : h.Ns mainGlobals mg) (c : He.SaysD fa fn K) : ∃ fd : FuncData, DefOk K mg tab 10 "want_moment" d_want_moment (He.ga K "want_moment") fd (defArgs (tp 21)) (defBody (tp 21)) (defScope (tp 21)) ["minute"] := by
  obtain ⟨fd, F⟩ := c.def_ 10 (d := dd_10) rfl
  have F : L2.FunD K "want_moment" "want_moment" (defArgs (tp 21)) (defBody (tp 21)) (defScope (tp 21)) [] [] (He.ga K "want_moment") fd := F
  refine ⟨fd, F, glo_of X G c (by decide), sc_10, rfl, rfl, chk_10, L2.FunD.bindsA (ps := ["minute"]) F (fun _ _ _ _ _ _ us hl => match us, hl with | [_], _ => rfl), fun n ks kw hm s us ws h1 h2 => ?_⟩
  simp only [tab, List.mem_cons, Prod.mk.injEq, List.not_mem_nil, or_false] at hm
  rcases hm with ⟨hf, rfl, rfl, rfl⟩ | ⟨hf, rfl, rfl, rfl⟩ | ⟨hf, rfl, rfl, rfl⟩ | ⟨hf, rfl, rfl, rfl⟩ | ⟨hf, rfl, rfl, rfl⟩ | ⟨hf, rfl, rfl, rfl⟩ | ⟨hf, rfl, rfl, rfl⟩
  · exact absurd hf (by decide)
  · exact absurd hf (by decide)
  · exact absurd hf (by decide)
  · exact absurd hf (by decide)
  · exact absurd hf (by decide)
  · exact absurd hf (by decide)
  · exact absurd hf (by decide)
theorem D_11 (X : K.In h) (G : h.Ns mainGlobals mg) (c : He.SaysD fa fn K) : ∃ fd : FuncData, DefOk K mg tab 11 "want_feeds" d_want_feeds (He.ga K "want_feeds") fd (defArgs (tp 22)) (defBody (tp 22)) (defScope (tp 22)) ["feeds"] := by
  obtain ⟨fd, F⟩ := c.def_ 11 (d := dd_11) rfl
  have F : L2.FunD K "want_feeds" "want_feeds" (defArgs (tp 22)) (defBody (tp 22)) (defScope (tp 22)) [] [] (He.ga K "want_feeds") fd := F
  refine ⟨fd, F, glo_of X G c (by decide), sc_11, rfl, rfl, chk_11, L2.FunD.bindsA (ps := ["feeds"]) F (fun _ _ _ _ _ _ us hl => match us, hl with | [_], _ => rfl), fun n ks kw hm s us ws h1 h2 => ?_⟩
  simp only [tab, List.mem_cons, Prod.mk.injEq, List.not_mem_nil, or_false] at hm
  rcases hm with ⟨hf, rfl, rfl, rfl⟩ | ⟨hf, rfl, rfl, rfl⟩ | ⟨hf, rfl, rfl, rfl⟩ | ⟨hf, rfl, rfl, rfl⟩ | ⟨hf, rfl, rfl, rfl⟩ | ⟨hf, rfl, rfl, rfl⟩ | ⟨hf, rfl, rfl, rfl⟩
  · exact absurd hf (by decide)
  · exact absurd hf (by decide)
  · exact absurd hf (by decide)
  · exact absurd hf (by decide)
  · exact absurd hf (by decide)
  · exact absurd hf (by decide)
  · exact absurd hf (by decide)
theorem D_12 (X : K.In h) (G : h.Ns mainGlobals mg) (c : He.SaysD fa fn K) : ∃ fd : FuncData, DefOk K mg tab 12 "soonest" d_soonest (He.ga K "soonest") fd (defArgs (tp 23)) (defBody (tp 23)) (defScope (tp 23)) ["feed", "minute"] := by
  obtain ⟨fd, F⟩ := c.def_ 12 (d := dd_12) rfl
  have F : L2.FunD K "soonest" "soonest" (defArgs (tp 23)) (defBody (tp 23)) (defScope (tp 23)) [] [] (He.ga K "soonest") fd := F
  refine ⟨fd, F, glo_of X G c (by decide), sc_12, rfl, rfl, chk_12, L2.FunD.bindsA (ps := ["feed", "minute"]) F (fun _ _ _ _ _ _ us hl => match us, hl with | [_, _], _ => rfl), fun n ks kw hm s us ws h1 h2 => ?_⟩
  simp only [tab, List.mem_cons, Prod.mk.injEq, List.not_mem_nil, or_false] at hm
  rcases hm with ⟨hf, rfl, rfl, rfl⟩ | ⟨hf, rfl, rfl, rfl⟩ | ⟨hf, rfl, rfl, rfl⟩ | ⟨hf, rfl, rfl, rfl⟩ | ⟨hf, rfl, rfl, rfl⟩ | ⟨hf, rfl, rfl, rfl⟩ | ⟨hf, rfl, rfl, rfl⟩
  · exact absurd hf (by decide)
  · exact absurd hf (by decide)
  · exact absurd hf (by decide)
  · exact (match us, ws, h1, h2 with | [], [_, _], _, _ => funD_bindK F (fun _ _ _ _ _ _ => rfl) s)
  · exact absurd hf (by decide)
  · exact absurd hf (by decide)
  · exact absurd hf (by decide)
theorem D_13 (X : K.In h) (G : h.Ns mainGlobals mg) (c : He.SaysD fa fn K) : ∃ fd : FuncData, DefOk K mg tab 13 "asks" d_asks (He.ga K "asks") fd (defArgs (tp 24)) (defBody (tp 24)) (defScope (tp 24)) ["feed", "minute"] := by
  obtain ⟨fd, F⟩ := c.def_ 13 (d := dd_13) rfl
  have F : L2.FunD K "asks" "asks" (defArgs (tp 24)) (defBody (tp 24)) (defScope (tp 24)) [] [] (He.ga K "asks") fd := F
  refine ⟨fd, F, glo_of X G c (by decide), sc_13, rfl, rfl, chk_13, L2.FunD.bindsA (ps := ["feed", "minute"]) F (fun _ _ _ _ _ _ us hl => match us, hl with | [_, _], _ => rfl), fun n ks kw hm s us ws h1 h2 => ?_⟩
  simp only [tab, List.mem_cons, Prod.mk.injEq, List.not_mem_nil, or_false] at hm
  rcases hm with ⟨hf, rfl, rfl, rfl⟩ | ⟨hf, rfl, rfl, rfl⟩ | ⟨hf, rfl, rfl, rfl⟩ | ⟨hf, rfl, rfl, rfl⟩ | ⟨hf, rfl, rfl, rfl⟩ | ⟨hf, rfl, rfl, rfl⟩ | ⟨hf, rfl, rfl, rfl⟩
  · exact absurd hf (by decide)
  · exact absurd hf (by decide)
  · exact (match us, ws, h1, h2 with | [], [_, _], _, _ => funD_bindK F (fun _ _ _ _ _ _ => rfl) s)
  · exact absurd hf (by decide)
  · exact absurd hf (by decide)
  · exact absurd hf (by decide)
  · exact absurd hf (by decide)
theorem D_14 (X : K.In h) (G : h.Ns mainGlobals mg) (c : He.SaysD fa fn K) : ∃ fd : FuncData, DefOk K mg tab 14 "quiet" d_quiet (He.ga K "quiet") fd (defArgs (tp 25)) (defBody (tp 25)) (defScope (tp 25)) ["feed"] := by
  obtain ⟨fd, F⟩ := c.def_ 14 (d := dd_14) rfl
  have F : L2.FunD K "quiet" "quiet" (defArgs (tp 25)) (defBody (tp 25)) (defScope (tp 25)) [] [] (He.ga K "quiet") fd := F
  refine ⟨fd, F, glo_of X G c (by decide), sc_14, rfl, rfl, chk_14, L2.FunD.bindsA (ps := ["feed"]) F (fun _ _ _ _ _ _ us hl => match us, hl with | [_], _ => rfl), fun n ks kw hm s us ws h1 h2 => ?_⟩
  simp only [tab, List.mem_cons, Prod.mk.injEq, List.not_mem_nil, or_false] at hm
  rcases hm with ⟨hf, rfl, rfl, rfl⟩ | ⟨hf, rfl, rfl, rfl⟩ | ⟨hf, rfl, rfl, rfl⟩ | ⟨hf, rfl, rfl, rfl⟩ | ⟨hf, rfl, rfl, rfl⟩ | ⟨hf, rfl, rfl, rfl⟩ | ⟨hf, rfl, rfl, rfl⟩
  · exact (match us, ws, h1, h2 with | [], [_], _, _ => funD_bindK F (fun _ _ _ _ _ _ => rfl) s)
  · exact absurd hf (by decide)
  · exact absurd hf (by decide)
  · exact absurd hf (by decide)
  · exact absurd hf (by decide)
  · exact absurd hf (by decide)
  · exact absurd hf (by decide)
theorem D_15 (X : K.In h) (G : h.Ns mainGlobals mg) (c : He.SaysD fa fn K) : ∃ fd : FuncData, DefOk K mg tab 15 "is_made" d_is_made (He.ga K "is_made") fd (defArgs (tp 26)) (defBody (tp 26)) (defScope (tp 26)) ["feed", "departure"] := by
  obtain ⟨fd, F⟩ := c.def_ 15 (d := dd_15) rfl
  have F : L2.FunD K "is_made" "is_made" (defArgs (tp 26)) (defBody (tp 26)) (defScope (tp 26)) [] [] (He.ga K "is_made") fd := F
  refine ⟨fd, F, glo_of X G c (by decide), sc_15, rfl, rfl, chk_15, L2.FunD.bindsA (ps := ["feed", "departure"]) F (fun _ _ _ _ _ _ us hl => match us, hl with | [_, _], _ => rfl), fun n ks kw hm s us ws h1 h2 => ?_⟩
  simp only [tab, List.mem_cons, Prod.mk.injEq, List.not_mem_nil, or_false] at hm
  rcases hm with ⟨hf, rfl, rfl, rfl⟩ | ⟨hf, rfl, rfl, rfl⟩ | ⟨hf, rfl, rfl, rfl⟩ | ⟨hf, rfl, rfl, rfl⟩ | ⟨hf, rfl, rfl, rfl⟩ | ⟨hf, rfl, rfl, rfl⟩ | ⟨hf, rfl, rfl, rfl⟩
  · exact absurd hf (by decide)
  · exact absurd hf (by decide)
  · exact absurd hf (by decide)
  · exact absurd hf (by decide)
  · exact (match us, ws, h1, h2 with | [], [_, _], _, _ => funD_bindK F (fun _ _ _ _ _ _ => rfl) s)
  · exact absurd hf (by decide)
  · exact absurd hf (by decide)
theorem D_16 (X : K.In h) (G : h.Ns mainGlobals mg) (c : He.SaysD fa fn K) : ∃ fd : FuncData, DefOk K mg tab 16 "leaves" d_leaves (He.ga K "leaves") fd (defArgs (tp 27)) (defBody (tp 27)) (defScope (tp 27)) ["minute", "feeds"] := by
  obtain ⟨fd, F⟩ := c.def_ 16 (d := dd_16) rfl
  have F : L2.FunD K "leaves" "leaves" (defArgs (tp 27)) (defBody (tp 27)) (defScope (tp 27)) [] [] (He.ga K "leaves") fd := F
  refine ⟨fd, F, glo_of X G c (by decide), sc_16, rfl, rfl, chk_16, L2.FunD.bindsA (ps := ["minute", "feeds"]) F (fun _ _ _ _ _ _ us hl => match us, hl with | [_, _], _ => rfl), fun n ks kw hm s us ws h1 h2 => ?_⟩
  simp only [tab, List.mem_cons, Prod.mk.injEq, List.not_mem_nil, or_false] at hm
  rcases hm with ⟨hf, rfl, rfl, rfl⟩ | ⟨hf, rfl, rfl, rfl⟩ | ⟨hf, rfl, rfl, rfl⟩ | ⟨hf, rfl, rfl, rfl⟩ | ⟨hf, rfl, rfl, rfl⟩ | ⟨hf, rfl, rfl, rfl⟩ | ⟨hf, rfl, rfl, rfl⟩
  · exact absurd hf (by decide)
  · exact absurd hf (by decide)
  · exact absurd hf (by decide)
  · exact absurd hf (by decide)
  · exact absurd hf (by decide)
  · exact (match us, ws, h1, h2 with | [], [_, _], _, _ => funD_bindK F (fun _ _ _ _ _ _ => rfl) s)
  · exact absurd hf (by decide)
theorem D_17 (X : K.In h) (G : h.Ns mainGlobals mg) (c : He.SaysD fa fn K) : ∃ fd : FuncData, DefOk K mg tab 17 "in_vain" d_in_vain (He.ga K "in_vain") fd (defArgs (tp 28)) (defBody (tp 28)) (defScope (tp 28)) ["minute", "feeds"] := by
  obtain ⟨fd, F⟩ := c.def_ 17 (d := dd_17) rfl
  have F : L2.FunD K "in_vain" "in_vain" (defArgs (tp 28)) (defBody (tp 28)) (defScope (tp 28)) [] [] (He.ga K "in_vain") fd := F
  refine ⟨fd, F, glo_of X G c (by decide), sc_17, rfl, rfl, chk_17, L2.FunD.bindsA (ps := ["minute", "feeds"]) F (fun _ _ _ _ _ _ us hl => match us, hl with | [_, _], _ => rfl), fun n ks kw hm s us ws h1 h2 => ?_⟩
  simp only [tab, List.mem_cons, Prod.mk.injEq, List.not_mem_nil, or_false] at hm
  rcases hm with ⟨hf, rfl, rfl, rfl⟩ | ⟨hf, rfl, rfl, rfl⟩ | ⟨hf, rfl, rfl, rfl⟩ | ⟨hf, rfl, rfl, rfl⟩ | ⟨hf, rfl, rfl, rfl⟩ | ⟨hf, rfl, rfl, rfl⟩ | ⟨hf, rfl, rfl, rfl⟩
  · exact absurd hf (by decide)
  · exact absurd hf (by decide)
  · exact absurd hf (by decide)
  · exact absurd hf (by decide)
  · exact absurd hf (by decide)
  · exact absurd hf (by decide)
  · exact (match us, ws, h1, h2 with | [], [_, _], _, _ => funD_bindK F (fun _ _ _ _ _ _ => rfl) s)
theorem D_18 (X : K.In h) (G : h.Ns mainGlobals mg) (c : He.SaysD fa fn K) : ∃ fd : FuncData, DefOk K mg tab 18 "_law_pot" d_law_pot (He.ga K "_law_pot") fd (defArgs (tp 30)) (defBody (tp 30)) (defScope (tp 30)) ["script", "k"] := by
  obtain ⟨fd, F⟩ := c.def_ 18 (d := dd_18) rfl
  have F : L2.FunD K "_law_pot" "_law_pot" (defArgs (tp 30)) (defBody (tp 30)) (defScope (tp 30)) [] [] (He.ga K "_law_pot") fd := F
  refine ⟨fd, F, glo_of X G c (by decide), sc_18, rfl, rfl, chk_18, L2.FunD.bindsA (ps := ["script", "k"]) F (fun _ _ _ _ _ _ us hl => match us, hl with | [_, _], _ => rfl), fun n ks kw hm s us ws h1 h2 => ?_⟩
  simp only [tab, List.mem_cons, Prod.mk.injEq, List.not_mem_nil, or_false] at hm
  rcases hm with ⟨hf, rfl, rfl, rfl⟩ | ⟨hf, rfl, rfl, rfl⟩ | ⟨hf, rfl, rfl, rfl⟩ | ⟨hf, rfl, rfl, rfl⟩ | ⟨hf, rfl, rfl, rfl⟩ | ⟨hf, rfl, rfl, rfl⟩ | ⟨hf, rfl, rfl, rfl⟩
  · exact absurd hf (by decide)
  · exact absurd hf (by decide)
  · exact absurd hf (by decide)
  · exact absurd hf (by decide)
  · exact absurd hf (by decide)
  · exact absurd hf (by decide)
  · exact absurd hf (by decide)
theorem D_19 (X : K.In h) (G : h.Ns mainGlobals mg) (c : He.SaysD fa fn K) : ∃ fd : FuncData, DefOk K mg tab 19 "_law_draw" d_law_draw (He.ga K "_law_draw") fd (defArgs (tp 31)) (defBody (tp 31)) (defScope (tp 31)) ["pot", "many"] := by
  obtain ⟨fd, F⟩ := c.def_ 19 (d := dd_19) rfl
  have F : L2.FunD K "_law_draw" "_law_draw" (defArgs (tp 31)) (defBody (tp 31)) (defScope (tp 31)) [] [] (He.ga K "_law_draw") fd := F
  refine ⟨fd, F, glo_of X G c (by decide), sc_19, rfl, rfl, chk_19, L2.FunD.bindsA (ps := ["pot", "many"]) F (fun _ _ _ _ _ _ us hl => match us, hl with | [_, _], _ => rfl), fun n ks kw hm s us ws h1 h2 => ?_⟩
  simp only [tab, List.mem_cons, Prod.mk.injEq, List.not_mem_nil, or_false] at hm
  rcases hm with ⟨hf, rfl, rfl, rfl⟩ | ⟨hf, rfl, rfl, rfl⟩ | ⟨hf, rfl, rfl, rfl⟩ | ⟨hf, rfl, rfl, rfl⟩ | ⟨hf, rfl, rfl, rfl⟩ | ⟨hf, rfl, rfl, rfl⟩ | ⟨hf, rfl, rfl, rfl⟩
  · exact absurd hf (by decide)
  · exact absurd hf (by decide)
  · exact absurd hf (by decide)
  · exact absurd hf (by decide)
  · exact absurd hf (by decide)
  · exact absurd hf (by decide)
  · exact absurd hf (by decide)
theorem D_20 (X : K.In h) (G : h.Ns mainGlobals mg) (c : He.SaysD fa fn K) : ∃ fd : FuncData, DefOk K mg tab 20 "_law_pick" d_law_pick (He.ga K "_law_pick") fd (defArgs (tp 32)) (defBody (tp 32)) (defScope (tp 32)) ["pot", "some"] := by
  obtain ⟨fd, F⟩ := c.def_ 20 (d := dd_20) rfl
  have F : L2.FunD K "_law_pick" "_law_pick" (defArgs (tp 32)) (defBody (tp 32)) (defScope (tp 32)) [] [] (He.ga K "_law_pick") fd := F
  refine ⟨fd, F, glo_of X G c (by decide), sc_20, rfl, rfl, chk_20, L2.FunD.bindsA (ps := ["pot", "some"]) F (fun _ _ _ _ _ _ us hl => match us, hl with | [_, _], _ => rfl), fun n ks kw hm s us ws h1 h2 => ?_⟩
  simp only [tab, List.mem_cons, Prod.mk.injEq, List.not_mem_nil, or_false] at hm
  rcases hm with ⟨hf, rfl, rfl, rfl⟩ | ⟨hf, rfl, rfl, rfl⟩ | ⟨hf, rfl, rfl, rfl⟩ | ⟨hf, rfl, rfl, rfl⟩ | ⟨hf, rfl, rfl, rfl⟩ | ⟨hf, rfl, rfl, rfl⟩ | ⟨hf, rfl, rfl, rfl⟩
  · exact absurd hf (by decide)
  · exact absurd hf (by decide)
  · exact absurd hf (by decide)
  · exact absurd hf (by decide)
  · exact absurd hf (by decide)
  · exact absurd hf (by decide)
  · exact absurd hf (by decide)
theorem D_21 (X : K.In h) (G : h.Ns mainGlobals mg) (c : He.SaysD fa fn K) : ∃ fd : FuncData, DefOk K mg tab 21 "_law_feed" d_law_feed (He.ga K "_law_feed") fd (defArgs (tp 33)) (defBody (tp 33)) (defScope (tp 33)) ["pot"] := by
  obtain ⟨fd, F⟩ := c.def_ 21 (d := dd_21) rfl
  have F : L2.FunD K "_law_feed" "_law_feed" (defArgs (tp 33)) (defBody (tp 33)) (defScope (tp 33)) [] [] (He.ga K "_law_feed") fd := F
  refine ⟨fd, F, glo_of X G c (by decide), sc_21, rfl, rfl, chk_21, L2.FunD.bindsA (ps := ["pot"]) F (fun _ _ _ _ _ _ us hl => match us, hl with | [_], _ => rfl), fun n ks kw hm s us ws h1 h2 => ?_⟩
  simp only [tab, List.mem_cons, Prod.mk.injEq, List.not_mem_nil, or_false] at hm
  rcases hm with ⟨hf, rfl, rfl, rfl⟩ | ⟨hf, rfl, rfl, rfl⟩ | ⟨hf, rfl, rfl, rfl⟩ | ⟨hf, rfl, rfl, rfl⟩ | ⟨hf, rfl, rfl, rfl⟩ | ⟨hf, rfl, rfl, rfl⟩ | ⟨hf, rfl, rfl, rfl⟩
  · exact absurd hf (by decide)
  · exact absurd hf (by decide)
  · exact absurd hf (by decide)
  · exact absurd hf (by decide)
  · exact absurd hf (by decide)
  · exact absurd hf (by decide)
  · exact absurd hf (by decide)
theorem D_22 (X : K.In h) (G : h.Ns mainGlobals mg) (c : He.SaysD fa fn K) : ∃ fd : FuncData, DefOk K mg tab 22 "_law_soonest" d_law_soonest (He.ga K "_law_soonest") fd (defArgs (tp 34)) (defBody (tp 34)) (defScope (tp 34)) ["feed", "minute"] := by
  obtain ⟨fd, F⟩ := c.def_ 22 (d := dd_22) rfl
  have F : L2.FunD K "_law_soonest" "_law_soonest" (defArgs (tp 34)) (defBody (tp 34)) (defScope (tp 34)) [] [] (He.ga K "_law_soonest") fd := F
  refine ⟨fd, F, glo_of X G c (by decide), sc_22, rfl, rfl, chk_22, L2.FunD.bindsA (ps := ["feed", "minute"]) F (fun _ _ _ _ _ _ us hl => match us, hl with | [_, _], _ => rfl), fun n ks kw hm s us ws h1 h2 => ?_⟩
  simp only [tab, List.mem_cons, Prod.mk.injEq, List.not_mem_nil, or_false] at hm
  rcases hm with ⟨hf, rfl, rfl, rfl⟩ | ⟨hf, rfl, rfl, rfl⟩ | ⟨hf, rfl, rfl, rfl⟩ | ⟨hf, rfl, rfl, rfl⟩ | ⟨hf, rfl, rfl, rfl⟩ | ⟨hf, rfl, rfl, rfl⟩ | ⟨hf, rfl, rfl, rfl⟩
  · exact absurd hf (by decide)
  · exact absurd hf (by decide)
  · exact absurd hf (by decide)
  · exact absurd hf (by decide)
  · exact absurd hf (by decide)
  · exact absurd hf (by decide)
  · exact absurd hf (by decide)
theorem D_23 (X : K.In h) (G : h.Ns mainGlobals mg) (c : He.SaysD fa fn K) : ∃ fd : FuncData, DefOk K mg tab 23 "_law_asks" d_law_asks (He.ga K "_law_asks") fd (defArgs (tp 35)) (defBody (tp 35)) (defScope (tp 35)) ["feed", "minute"] := by
  obtain ⟨fd, F⟩ := c.def_ 23 (d := dd_23) rfl
  have F : L2.FunD K "_law_asks" "_law_asks" (defArgs (tp 35)) (defBody (tp 35)) (defScope (tp 35)) [] [] (He.ga K "_law_asks") fd := F
  refine ⟨fd, F, glo_of X G c (by decide), sc_23, rfl, rfl, chk_23, L2.FunD.bindsA (ps := ["feed", "minute"]) F (fun _ _ _ _ _ _ us hl => match us, hl with | [_, _], _ => rfl), fun n ks kw hm s us ws h1 h2 => ?_⟩
  simp only [tab, List.mem_cons, Prod.mk.injEq, List.not_mem_nil, or_false] at hm
  rcases hm with ⟨hf, rfl, rfl, rfl⟩ | ⟨hf, rfl, rfl, rfl⟩ | ⟨hf, rfl, rfl, rfl⟩ | ⟨hf, rfl, rfl, rfl⟩ | ⟨hf, rfl, rfl, rfl⟩ | ⟨hf, rfl, rfl, rfl⟩ | ⟨hf, rfl, rfl, rfl⟩
  · exact absurd hf (by decide)
  · exact absurd hf (by decide)
  · exact absurd hf (by decide)
  · exact absurd hf (by decide)
  · exact absurd hf (by decide)
  · exact absurd hf (by decide)
  · exact absurd hf (by decide)
theorem D_24 (X : K.In h) (G : h.Ns mainGlobals mg) (c : He.SaysD fa fn K) : ∃ fd : FuncData, DefOk K mg tab 24 "_law_leaves" d_law_leaves (He.ga K "_law_leaves") fd (defArgs (tp 36)) (defBody (tp 36)) (defScope (tp 36)) ["minute", "feeds"] := by
  obtain ⟨fd, F⟩ := c.def_ 24 (d := dd_24) rfl
  have F : L2.FunD K "_law_leaves" "_law_leaves" (defArgs (tp 36)) (defBody (tp 36)) (defScope (tp 36)) [] [] (He.ga K "_law_leaves") fd := F
  refine ⟨fd, F, glo_of X G c (by decide), sc_24, rfl, rfl, chk_24, L2.FunD.bindsA (ps := ["minute", "feeds"]) F (fun _ _ _ _ _ _ us hl => match us, hl with | [_, _], _ => rfl), fun n ks kw hm s us ws h1 h2 => ?_⟩
  simp only [tab, List.mem_cons, Prod.mk.injEq, List.not_mem_nil, or_false] at hm
  rcases hm with ⟨hf, rfl, rfl, rfl⟩ | ⟨hf, rfl, rfl, rfl⟩ | ⟨hf, rfl, rfl, rfl⟩ | ⟨hf, rfl, rfl, rfl⟩ | ⟨hf, rfl, rfl, rfl⟩ | ⟨hf, rfl, rfl, rfl⟩ | ⟨hf, rfl, rfl, rfl⟩
  · exact absurd hf (by decide)
  · exact absurd hf (by decide)
  · exact absurd hf (by decide)
  · exact absurd hf (by decide)
  · exact absurd hf (by decide)
  · exact absurd hf (by decide)
  · exact absurd hf (by decide)
theorem D_25 (X : K.In h) (G : h.Ns mainGlobals mg) (c : He.SaysD fa fn K) : ∃ fd : FuncData, DefOk K mg tab 25 "_law_feed_right" d_law_feed_right (He.ga K "_law_feed_right") fd (defArgs (tp 37)) (defBody (tp 37)) (defScope (tp 37)) ["feed"] := by
  obtain ⟨fd, F⟩ := c.def_ 25 (d := dd_25) rfl
  have F : L2.FunD K "_law_feed_right" "_law_feed_right" (defArgs (tp 37)) (defBody (tp 37)) (defScope (tp 37)) [] [] (He.ga K "_law_feed_right") fd := F
  refine ⟨fd, F, glo_of X G c (by decide), sc_25, rfl, rfl, chk_25, L2.FunD.bindsA (ps := ["feed"]) F (fun _ _ _ _ _ _ us hl => match us, hl with | [_], _ => rfl), fun n ks kw hm s us ws h1 h2 => ?_⟩
  simp only [tab, List.mem_cons, Prod.mk.injEq, List.not_mem_nil, or_false] at hm
  rcases hm with ⟨hf, rfl, rfl, rfl⟩ | ⟨hf, rfl, rfl, rfl⟩ | ⟨hf, rfl, rfl, rfl⟩ | ⟨hf, rfl, rfl, rfl⟩ | ⟨hf, rfl, rfl, rfl⟩ | ⟨hf, rfl, rfl, rfl⟩ | ⟨hf, rfl, rfl, rfl⟩
  · exact absurd hf (by decide)
  · exact absurd hf (by decide)
  · exact absurd hf (by decide)
  · exact absurd hf (by decide)
  · exact absurd hf (by decide)
  · exact absurd hf (by decide)
  · exact absurd hf (by decide)
theorem D_26 (X : K.In h) (G : h.Ns mainGlobals mg) (c : He.SaysD fa fn K) : ∃ fd : FuncData, DefOk K mg tab 26 "_law_all_right" d_law_all_right (He.ga K "_law_all_right") fd (defArgs (tp 38)) (defBody (tp 38)) (defScope (tp 38)) ["pot", "feeds", "minute"] := by
  obtain ⟨fd, F⟩ := c.def_ 26 (d := dd_26) rfl
  have F : L2.FunD K "_law_all_right" "_law_all_right" (defArgs (tp 38)) (defBody (tp 38)) (defScope (tp 38)) [] [] (He.ga K "_law_all_right") fd := F
  refine ⟨fd, F, glo_of X G c (by decide), sc_26, rfl, rfl, chk_26, L2.FunD.bindsA (ps := ["pot", "feeds", "minute"]) F (fun _ _ _ _ _ _ us hl => match us, hl with | [_, _, _], _ => rfl), fun n ks kw hm s us ws h1 h2 => ?_⟩
  simp only [tab, List.mem_cons, Prod.mk.injEq, List.not_mem_nil, or_false] at hm
  rcases hm with ⟨hf, rfl, rfl, rfl⟩ | ⟨hf, rfl, rfl, rfl⟩ | ⟨hf, rfl, rfl, rfl⟩ | ⟨hf, rfl, rfl, rfl⟩ | ⟨hf, rfl, rfl, rfl⟩ | ⟨hf, rfl, rfl, rfl⟩ | ⟨hf, rfl, rfl, rfl⟩
  · exact absurd hf (by decide)
  · exact absurd hf (by decide)
  · exact absurd hf (by decide)
  · exact absurd hf (by decide)
  · exact absurd hf (by decide)
  · exact absurd hf (by decide)
  · exact absurd hf (by decide)
theorem D_27 (X : K.In h) (G : h.Ns mainGlobals mg) (c : He.SaysD fa fn K) : ∃ fd : FuncData, DefOk K mg tab 27 "_law_known_right" d_law_known_right (He.ga K "_law_known_right") fd (defArgs (tp 39)) (defBody (tp 39)) (defScope (tp 39)) [] := by
  obtain ⟨fd, F⟩ := c.def_ 27 (d := dd_27) rfl
  have F : L2.FunD K "_law_known_right" "_law_known_right" (defArgs (tp 39)) (defBody (tp 39)) (defScope (tp 39)) [] [] (He.ga K "_law_known_right") fd := F
  refine ⟨fd, F, glo_of X G c (by decide), sc_27, rfl, rfl, chk_27, L2.FunD.bindsA (ps := []) F (fun _ _ _ _ _ _ us hl => match us, hl with | [], _ => rfl), fun n ks kw hm s us ws h1 h2 => ?_⟩
  simp only [tab, List.mem_cons, Prod.mk.injEq, List.not_mem_nil, or_false] at hm
  rcases hm with ⟨hf, rfl, rfl, rfl⟩ | ⟨hf, rfl, rfl, rfl⟩ | ⟨hf, rfl, rfl, rfl⟩ | ⟨hf, rfl, rfl, rfl⟩ | ⟨hf, rfl, rfl, rfl⟩ | ⟨hf, rfl, rfl, rfl⟩ | ⟨hf, rfl, rfl, rfl⟩
  · exact absurd hf (by decide)
  · exact absurd hf (by decide)
  · exact absurd hf (by decide)
  · exact absurd hf (by decide)
  · exact absurd hf (by decide)
  · exact absurd hf (by decide)
  · exact absurd hf (by decide)
theorem D_28 (X : K.In h) (G : h.Ns mainGlobals mg) (c : He.SaysD fa fn K) : ∃ fd : FuncData, DefOk K mg tab 28 "_law_right" d_law_right (He.ga K "_law_right") fd (defArgs (tp 40)) (defBody (tp 40)) (defScope (tp 40)) ["pot"] := by
  obtain ⟨fd, F⟩ := c.def_ 28 (d := dd_28) rfl
  have F : L2.FunD K "_law_right" "_law_right" (defArgs (tp 40)) (defBody (tp 40)) (defScope (tp 40)) [] [] (He.ga K "_law_right") fd := F
  refine ⟨fd, F, glo_of X G c (by decide), sc_28, rfl, rfl, chk_28, L2.FunD.bindsA (ps := ["pot"]) F (fun _ _ _ _ _ _ us hl => match us, hl with | [_], _ => rfl), fun n ks kw hm s us ws h1 h2 => ?_⟩
  simp only [tab, List.mem_cons, Prod.mk.injEq, List.not_mem_nil, or_false] at hm
  rcases hm with ⟨hf, rfl, rfl, rfl⟩ | ⟨hf, rfl, rfl, rfl⟩ | ⟨hf, rfl, rfl, rfl⟩ | ⟨hf, rfl, rfl, rfl⟩ | ⟨hf, rfl, rfl, rfl⟩ | ⟨hf, rfl, rfl, rfl⟩ | ⟨hf, rfl, rfl, rfl⟩
  · exact absurd hf (by decide)
  · exact absurd hf (by decide)
  · exact absurd hf (by decide)
  · exact absurd hf (by decide)
  · exact absurd hf (by decide)
  · exact absurd hf (by decide)
  · exact absurd hf (by decide)
theorem D_29 (X : K.In h) (G : h.Ns mainGlobals mg) (c : He.SaysD fa fn K) : ∃ fd : FuncData, DefOk K mg tab 29 "law" d_law (He.ga K "law") fd (defArgs (tp 41)) (defBody (tp 41)) (defScope (tp 41)) ["script"] := by
  obtain ⟨fd, F⟩ := c.def_ 29 (d := dd_29) rfl
  have F : L2.FunD K "law" "law" (defArgs (tp 41)) (defBody (tp 41)) (defScope (tp 41)) [] [] (He.ga K "law") fd := F
  refine ⟨fd, F, glo_of X G c (by decide), sc_29, rfl, rfl, chk_29, L2.FunD.bindsA (ps := ["script"]) F (fun _ _ _ _ _ _ us hl => match us, hl with | [_], _ => rfl), fun n ks kw hm s us ws h1 h2 => ?_⟩
  simp only [tab, List.mem_cons, Prod.mk.injEq, List.not_mem_nil, or_false] at hm
  rcases hm with ⟨hf, rfl, rfl, rfl⟩ | ⟨hf, rfl, rfl, rfl⟩ | ⟨hf, rfl, rfl, rfl⟩ | ⟨hf, rfl, rfl, rfl⟩ | ⟨hf, rfl, rfl, rfl⟩ | ⟨hf, rfl, rfl, rfl⟩ | ⟨hf, rfl, rfl, rfl⟩
  · exact absurd hf (by decide)
  · exact absurd hf (by decide)
  · exact absurd hf (by decide)
  · exact absurd hf (by decide)
  · exact absurd hf (by decide)
  · exact absurd hf (by decide)
  · exact absurd hf (by decide)
theorem con_of (X : K.In h) (G : h.Ns mainGlobals mg) (c : He.SaysD fa fn K) : ∀ (x : PySem.Str) (cc : Cn), (x, cc) ∈ tab.cons → ∃ v u, mg x = some u ∧ RelV v u ∧ ∀ H, Dq K H v cc.d := by
  intro x cc hm
  simp only [tab, List.mem_cons, Prod.mk.injEq, List.not_mem_nil, or_false] at hm
  rcases hm with ⟨rfl, rfl⟩ | ⟨rfl, rfl⟩ | ⟨rfl, rfl⟩
  · obtain ⟨t, e⟩ := He.str_ok X G (cfa_of c (f := .str "BLIND" "blind") (by simp [cfa]))
    exact ⟨.str "blind", _, e, ⟨t, rfl⟩, fun H => .str _⟩
  · obtain ⟨t, e⟩ := He.str_ok X G (cfa_of c (f := .str "NEWS" "news") (by simp [cfa]))
    exact ⟨.str "news", _, e, ⟨t, rfl⟩, fun H => .str _⟩
  · obtain ⟨t, e⟩ := He.int_ok X G (cfa_of c (f := .int "MOST_MEETS" (24)) (by simp [cfa]))
    exact ⟨.int (24), _, e, ⟨t, rfl⟩, fun H => .int _⟩
theorem mod_ok (X : K.In h) (G : h.Ns mainGlobals mg) (c : He.SaysD fa fn K) : ModG K mg tab fs (fun _ _ _ _ _ _ => False) := by
  refine ⟨free_of X G c, con_of X G c, fun _ _ _ _ _ _ _ _ z => z, fun f x hx => ?_⟩
  match f, x, hx with
  | 0, x, hx =>
    cases (show some ("is_integer" : PySem.Str) = some x from hx)
    obtain ⟨fd, D⟩ := D_0 X G c
    exact ⟨_, _, fd, _, _, _, _, rfl, D⟩
  | 1, x, hx =>
    cases (show some ("is_count" : PySem.Str) = some x from hx)
    obtain ⟨fd, D⟩ := D_1 X G c
    exact ⟨_, _, fd, _, _, _, _, rfl, D⟩
  | 2, x, hx =>
    cases (show some ("is_way_word" : PySem.Str) = some x from hx)
    obtain ⟨fd, D⟩ := D_2 X G c
    exact ⟨_, _, fd, _, _, _, _, rfl, D⟩
  | 3, x, hx =>
    cases (show some ("is_feed" : PySem.Str) = some x from hx)
    obtain ⟨fd, D⟩ := D_3 X G c
    exact ⟨_, _, fd, _, _, _, _, rfl, D⟩
  | 4, x, hx =>
    cases (show some ("soonest_of" : PySem.Str) = some x from hx)
    obtain ⟨fd, D⟩ := D_4 X G c
    exact ⟨_, _, fd, _, _, _, _, rfl, D⟩
  | 5, x, hx =>
    cases (show some ("asking" : PySem.Str) = some x from hx)
    obtain ⟨fd, D⟩ := D_5 X G c
    exact ⟨_, _, fd, _, _, _, _, rfl, D⟩
  | 6, x, hx =>
    cases (show some ("quiet_of" : PySem.Str) = some x from hx)
    obtain ⟨fd, D⟩ := D_6 X G c
    exact ⟨_, _, fd, _, _, _, _, rfl, D⟩
  | 7, x, hx =>
    cases (show some ("leaving" : PySem.Str) = some x from hx)
    obtain ⟨fd, D⟩ := D_7 X G c
    exact ⟨_, _, fd, _, _, _, _, rfl, D⟩
  | 8, x, hx =>
    cases (show some ("made_by" : PySem.Str) = some x from hx)
    obtain ⟨fd, D⟩ := D_8 X G c
    exact ⟨_, _, fd, _, _, _, _, rfl, D⟩
  | 9, x, hx =>
    cases (show some ("want_feed" : PySem.Str) = some x from hx)
    obtain ⟨fd, D⟩ := D_9 X G c
    exact ⟨_, _, fd, _, _, _, _, rfl, D⟩
  | 10, x, hx =>
    cases (show some ("want_moment" : PySem.Str) = some x from hx)
    obtain ⟨fd, D⟩ := D_10 X G c
    exact ⟨_, _, fd, _, _, _, _, rfl, D⟩
  | 11, x, hx =>
    cases (show some ("want_feeds" : PySem.Str) = some x from hx)
    obtain ⟨fd, D⟩ := D_11 X G c
    exact ⟨_, _, fd, _, _, _, _, rfl, D⟩
  | 12, x, hx =>
    cases (show some ("soonest" : PySem.Str) = some x from hx)
    obtain ⟨fd, D⟩ := D_12 X G c
    exact ⟨_, _, fd, _, _, _, _, rfl, D⟩
  | 13, x, hx =>
    cases (show some ("asks" : PySem.Str) = some x from hx)
    obtain ⟨fd, D⟩ := D_13 X G c
    exact ⟨_, _, fd, _, _, _, _, rfl, D⟩
  | 14, x, hx =>
    cases (show some ("quiet" : PySem.Str) = some x from hx)
    obtain ⟨fd, D⟩ := D_14 X G c
    exact ⟨_, _, fd, _, _, _, _, rfl, D⟩
  | 15, x, hx =>
    cases (show some ("is_made" : PySem.Str) = some x from hx)
    obtain ⟨fd, D⟩ := D_15 X G c
    exact ⟨_, _, fd, _, _, _, _, rfl, D⟩
  | 16, x, hx =>
    cases (show some ("leaves" : PySem.Str) = some x from hx)
    obtain ⟨fd, D⟩ := D_16 X G c
    exact ⟨_, _, fd, _, _, _, _, rfl, D⟩
  | 17, x, hx =>
    cases (show some ("in_vain" : PySem.Str) = some x from hx)
    obtain ⟨fd, D⟩ := D_17 X G c
    exact ⟨_, _, fd, _, _, _, _, rfl, D⟩
  | 18, x, hx =>
    cases (show some ("_law_pot" : PySem.Str) = some x from hx)
    obtain ⟨fd, D⟩ := D_18 X G c
    exact ⟨_, _, fd, _, _, _, _, rfl, D⟩
  | 19, x, hx =>
    cases (show some ("_law_draw" : PySem.Str) = some x from hx)
    obtain ⟨fd, D⟩ := D_19 X G c
    exact ⟨_, _, fd, _, _, _, _, rfl, D⟩
  | 20, x, hx =>
    cases (show some ("_law_pick" : PySem.Str) = some x from hx)
    obtain ⟨fd, D⟩ := D_20 X G c
    exact ⟨_, _, fd, _, _, _, _, rfl, D⟩
  | 21, x, hx =>
    cases (show some ("_law_feed" : PySem.Str) = some x from hx)
    obtain ⟨fd, D⟩ := D_21 X G c
    exact ⟨_, _, fd, _, _, _, _, rfl, D⟩
  | 22, x, hx =>
    cases (show some ("_law_soonest" : PySem.Str) = some x from hx)
    obtain ⟨fd, D⟩ := D_22 X G c
    exact ⟨_, _, fd, _, _, _, _, rfl, D⟩
  | 23, x, hx =>
    cases (show some ("_law_asks" : PySem.Str) = some x from hx)
    obtain ⟨fd, D⟩ := D_23 X G c
    exact ⟨_, _, fd, _, _, _, _, rfl, D⟩
  | 24, x, hx =>
    cases (show some ("_law_leaves" : PySem.Str) = some x from hx)
    obtain ⟨fd, D⟩ := D_24 X G c
    exact ⟨_, _, fd, _, _, _, _, rfl, D⟩
  | 25, x, hx =>
    cases (show some ("_law_feed_right" : PySem.Str) = some x from hx)
    obtain ⟨fd, D⟩ := D_25 X G c
    exact ⟨_, _, fd, _, _, _, _, rfl, D⟩
  | 26, x, hx =>
    cases (show some ("_law_all_right" : PySem.Str) = some x from hx)
    obtain ⟨fd, D⟩ := D_26 X G c
    exact ⟨_, _, fd, _, _, _, _, rfl, D⟩
  | 27, x, hx =>
    cases (show some ("_law_known_right" : PySem.Str) = some x from hx)
    obtain ⟨fd, D⟩ := D_27 X G c
    exact ⟨_, _, fd, _, _, _, _, rfl, D⟩
  | 28, x, hx =>
    cases (show some ("_law_right" : PySem.Str) = some x from hx)
    obtain ⟨fd, D⟩ := D_28 X G c
    exact ⟨_, _, fd, _, _, _, _, rfl, D⟩
  | 29, x, hx =>
    cases (show some ("law" : PySem.Str) = some x from hx)
    obtain ⟨fd, D⟩ := D_29 X G c
    exact ⟨_, _, fd, _, _, _, _, rfl, D⟩
  | n + 30, x, hx => cases (show (none : Option PySem.Str) = some x from hx)
end
end K28
end
section
set_option maxHeartbeats 4000000
set_option maxRecDepth 100000
namespace K28
open PySem DL
def way (b : Bool) : Str := if b then "blind" else "news"
def fd (l e m c t : Int) (b : Bool) : PyData := .tuple [.int l, .int e, .int m, .int c, .int t, .str (way b)]
def soonI (l e m c p : Int) : Int := if l ≤ p then e + c else p + 1 + m + c
def asksB (l e m c t : Int) (b : Bool) (p : Int) : Bool := if e + c ≤ p ∨ t ≤ p then false else b || decide (soonI l e m c p ≤ t)
def minQ (i j : Int) : Int := if j < i then j else i
def maxQ (i j : Int) : Int := if j > i then j else i
def quietI (l e m c t : Int) (b : Bool) : Int := if b = true then minQ (e + c) t else if e + c ≤ t then e + c else maxQ 0 (minQ l (t - m - c))
theorem way_eq (b : Bool) : decide (way b = ("blind" : Str)) = b := by cases b <;> decide +kernel
theorem r0 (k : Nat) (n : Int) : runN fs (k + 1) 0 [.pu (.int n)] = .ok (.pu (.bool true)) [] := rfl
theorem r1 (k : Nat) (n : Int) (h : 0 ≤ n) : runN fs (k + 2) 1 [.pu (.int n)] = .ok (.pu (.bool true)) [] := by
  show runD (runN fs (k + 1)) d_is_count _ = _
  simp [runD, fits, entry, ev_bnd, ev_ret, ev_some, ev_none, ev_cst, ev_var, ev_glb, ev_tup, ev_lst, ev_bin, ev_neg, ev_cmp, ev_chn, ev_nt, ev_an, ev_orr, ev_ite, ev_idx, ev_slc, ev_rev, ev_prim, ev_itm, ev_peek, ev_isi, ev_call, ev_L0, ev_L1, ev_O0, ev_O1, ev_C0, ev_C1, ev_A0, ev_Av, ev_Ar, ev_Af, ev_Iover, ev_Irng, ev_Ienum, ev_Flst, ev_Fcall, ev_asg, ev_asgF, ev_par, ev_app, ev_expr, ev_retS, ev_retF, ev_retO, ev_ifs, ev_nev, ev_B0, ev_B1, ev_nm, ev_tp, ev_ts0, ev_ts1, ev_sub, ev_pm0, ev_pm1, rdV, getS, idxD, atD, DL.ixN, c_eqI, c_neI, c_eqS, c_neS, c_lt, c_le, c_gt, c_ge, c_is, c_isnot, truD, binD, outOf, Cn.d, callA, perm, pickA, owns, avOf, backA, primD, isK, slcD, cutD, sIx, isN, RV.d, putA, itemsD, isOw, atOw, ifOwn, onOwn, d_is_count, r0, h]
theorem way_in (b : Bool) : cmpD .inn (.str (way b)) (.tuple [.str "blind", .str "news"]) = some (.bool true) := by
  have e1 : PyData.strOk ("blind" : Str) = true := by decide +kernel
  have e2 : PyData.strOk ("news" : Str) = true := by decide +kernel
  have e3 : (("blind" : Str) == "news") = false := by decide +kernel
  cases b <;> simp [cmpD, SeqAt.shaped, PyData.canLay0, PyData.canLayAll0, PyData.depth, PyData.depthAll, PyData.eqv, way, e1, e2, e3]
theorem r2 (k : Nat) (b : Bool) : runN fs (k + 1) 2 [.pu (.str (way b))] = .ok (.pu (.bool true)) [] := by
  show runD (runN fs k) d_is_way_word _ = _
  simp [runD, fits, entry, ev_bnd, ev_ret, ev_some, ev_none, ev_cst, ev_var, ev_glb, ev_tup, ev_lst, ev_bin, ev_neg, ev_cmp, ev_chn, ev_nt, ev_an, ev_orr, ev_ite, ev_idx, ev_slc, ev_rev, ev_prim, ev_itm, ev_peek, ev_isi, ev_call, ev_L0, ev_L1, ev_O0, ev_O1, ev_C0, ev_C1, ev_A0, ev_Av, ev_Ar, ev_Af, ev_Iover, ev_Irng, ev_Ienum, ev_Flst, ev_Fcall, ev_asg, ev_asgF, ev_par, ev_app, ev_expr, ev_retS, ev_retF, ev_retO, ev_ifs, ev_nev, ev_B0, ev_B1, ev_nm, ev_tp, ev_ts0, ev_ts1, ev_sub, ev_pm0, ev_pm1, rdV, getS, idxD, atD, DL.ixN, c_eqI, c_neI, c_eqS, c_neS, c_lt, c_le, c_gt, c_ge, c_is, c_isnot, truD, binD, outOf, Cn.d, callA, perm, pickA, owns, avOf, backA, primD, isK, slcD, cutD, sIx, isN, RV.d, putA, itemsD, isOw, atOw, ifOwn, onOwn, d_is_way_word, way_in, sizeLine]
theorem r3 (k : Nat) (l e m c t : Int) (b : Bool) (h0 : 0 ≤ l) (h1 : 1 ≤ m) (h2 : l + m ≤ e) (h3 : 0 ≤ c) (h4 : 0 ≤ t) : runN fs (k + 3) 3 [.pu (fd l e m c t b)] = .ok (.pu (.bool true)) [] := by
  have he : 0 ≤ e := by omega
  have hm : 0 ≤ m := by omega
  have hc : den (runN fs (k + 2)) (.comp (.nm 1) (.over (.slc (.var 0) none (some (.cst (.int 5))))) none (.call 1 [.val (.var 1)] []) [1]) [.pu (fd l e m c t b), .un] = .ok (.list [.bool true, .bool true, .bool true, .bool true, .bool true]) [.pu (fd l e m c t b), .un] :=
    ev_comp (xs := [.int l, .int e, .int m, .int c, .int t]) (by simp [runD, fits, entry, ev_bnd, ev_ret, ev_some, ev_none, ev_cst, ev_var, ev_glb, ev_tup, ev_lst, ev_bin, ev_neg, ev_cmp, ev_chn, ev_nt, ev_an, ev_orr, ev_ite, ev_idx, ev_slc, ev_rev, ev_prim, ev_itm, ev_peek, ev_isi, ev_call, ev_L0, ev_L1, ev_O0, ev_O1, ev_C0, ev_C1, ev_A0, ev_Av, ev_Ar, ev_Af, ev_Iover, ev_Irng, ev_Ienum, ev_Flst, ev_Fcall, ev_asg, ev_asgF, ev_par, ev_app, ev_expr, ev_retS, ev_retF, ev_retO, ev_ifs, ev_nev, ev_B0, ev_B1, ev_nm, ev_tp, ev_ts0, ev_ts1, ev_sub, ev_pm0, ev_pm1, rdV, getS, idxD, atD, DL.ixN, c_eqI, c_neI, c_eqS, c_neS, c_lt, c_le, c_gt, c_ge, c_is, c_isnot, truD, binD, outOf, Cn.d, callA, perm, pickA, owns, avOf, backA, primD, isK, slcD, cutD, sIx, isN, RV.d, putA, itemsD, isOw, atOw, ifOwn, onOwn, fd]) (comp_pure (fun _ => some (.bool true)) rfl (by simp [sizeLine]) (by
      have go : ∀ n : Int, 0 ≤ n → ∃ r2, stepC [1] (.nm 1) (denC (runN fs (k + 2)) none) (den (runN fs (k + 2)) (.call 1 [.val (.var 1)] [])) (.int n) [.pu (fd l e m c t b), .un] = .ok (some (.bool true)) r2 ∧ wipeE r2 [1] = wipeE [.pu (fd l e m c t b), .un] [1] := fun n hn =>
        ⟨[.pu (fd l e m c t b), .pu (.int n)], by simp only [ev_step, wipeE]; simp [runD, fits, entry, ev_bnd, ev_ret, ev_some, ev_none, ev_cst, ev_var, ev_glb, ev_tup, ev_lst, ev_bin, ev_neg, ev_cmp, ev_chn, ev_nt, ev_an, ev_orr, ev_ite, ev_idx, ev_slc, ev_rev, ev_prim, ev_itm, ev_peek, ev_isi, ev_call, ev_L0, ev_L1, ev_O0, ev_O1, ev_C0, ev_C1, ev_A0, ev_Av, ev_Ar, ev_Af, ev_Iover, ev_Irng, ev_Ienum, ev_Flst, ev_Fcall, ev_asg, ev_asgF, ev_par, ev_app, ev_expr, ev_retS, ev_retF, ev_retO, ev_ifs, ev_nev, ev_B0, ev_B1, ev_nm, ev_tp, ev_ts0, ev_ts1, ev_sub, ev_pm0, ev_pm1, rdV, getS, idxD, atD, DL.ixN, c_eqI, c_neI, c_eqS, c_neS, c_lt, c_le, c_gt, c_ge, c_is, c_isnot, truD, binD, outOf, Cn.d, callA, perm, pickA, owns, avOf, backA, primD, isK, slcD, cutD, sIx, isN, RV.d, putA, itemsD, isOw, atOw, ifOwn, onOwn, r1 k n hn], rfl⟩
      intro x hx
      simp only [List.mem_cons, List.not_mem_nil, or_false] at hx
      rcases hx with rfl | rfl | rfl | rfl | rfl
      · exact go _ h0
      · exact go _ he
      · exact go _ hm
      · exact go _ h3
      · exact go _ h4))
  show runD (runN fs (k + 2)) d_is_feed _ = _
  unfold fd at hc
  simp [runD, fits, entry, ev_bnd, ev_ret, ev_some, ev_none, ev_cst, ev_var, ev_glb, ev_tup, ev_lst, ev_bin, ev_neg, ev_cmp, ev_chn, ev_nt, ev_an, ev_orr, ev_ite, ev_idx, ev_slc, ev_rev, ev_prim, ev_itm, ev_peek, ev_isi, ev_call, ev_L0, ev_L1, ev_O0, ev_O1, ev_C0, ev_C1, ev_A0, ev_Av, ev_Ar, ev_Af, ev_Iover, ev_Irng, ev_Ienum, ev_Flst, ev_Fcall, ev_asg, ev_asgF, ev_par, ev_app, ev_expr, ev_retS, ev_retF, ev_retO, ev_ifs, ev_nev, ev_B0, ev_B1, ev_nm, ev_tp, ev_ts0, ev_ts1, ev_sub, ev_pm0, ev_pm1, rdV, getS, idxD, atD, DL.ixN, c_eqI, c_neI, c_eqS, c_neS, c_lt, c_le, c_gt, c_ge, c_is, c_isnot, truD, binD, outOf, Cn.d, callA, perm, pickA, owns, avOf, backA, primD, isK, slcD, cutD, sIx, isN, RV.d, putA, itemsD, isOw, atOw, ifOwn, onOwn, d_is_feed, fd, hc, bools?, r2, h1, h2]
theorem r4 (k : Nat) (l e m c t p : Int) (b : Bool) : runN fs (k + 1) 4 [.pu (fd l e m c t b), .pu (.int p)] = .ok (.pu (.int (soonI l e m c p))) [] := by
  show runD (runN fs k) d_soonest_of _ = _
  unfold soonI
  by_cases h : l ≤ p <;> simp [runD, fits, entry, ev_bnd, ev_ret, ev_some, ev_none, ev_cst, ev_var, ev_glb, ev_tup, ev_lst, ev_bin, ev_neg, ev_cmp, ev_chn, ev_nt, ev_an, ev_orr, ev_ite, ev_idx, ev_slc, ev_rev, ev_prim, ev_itm, ev_peek, ev_isi, ev_call, ev_L0, ev_L1, ev_O0, ev_O1, ev_C0, ev_C1, ev_A0, ev_Av, ev_Ar, ev_Af, ev_Iover, ev_Irng, ev_Ienum, ev_Flst, ev_Fcall, ev_asg, ev_asgF, ev_par, ev_app, ev_expr, ev_retS, ev_retF, ev_retO, ev_ifs, ev_nev, ev_B0, ev_B1, ev_nm, ev_tp, ev_ts0, ev_ts1, ev_sub, ev_pm0, ev_pm1, rdV, getS, idxD, atD, DL.ixN, c_eqI, c_neI, c_eqS, c_neS, c_lt, c_le, c_gt, c_ge, c_is, c_isnot, truD, binD, outOf, Cn.d, callA, perm, pickA, owns, avOf, backA, primD, isK, slcD, cutD, sIx, isN, RV.d, putA, itemsD, isOw, atOw, ifOwn, onOwn, d_soonest_of, fd, h]
theorem r22 (k : Nat) (l e m c t p : Int) (b : Bool) : runN fs (k + 1) 22 [.pu (fd l e m c t b), .pu (.int p)] = .ok (.pu (.int (soonI l e m c p))) [] := by
  show runD (runN fs k) d_law_soonest _ = _
  unfold soonI
  by_cases h : l ≤ p <;> simp [runD, fits, entry, ev_bnd, ev_ret, ev_some, ev_none, ev_cst, ev_var, ev_glb, ev_tup, ev_lst, ev_bin, ev_neg, ev_cmp, ev_chn, ev_nt, ev_an, ev_orr, ev_ite, ev_idx, ev_slc, ev_rev, ev_prim, ev_itm, ev_peek, ev_isi, ev_call, ev_L0, ev_L1, ev_O0, ev_O1, ev_C0, ev_C1, ev_A0, ev_Av, ev_Ar, ev_Af, ev_Iover, ev_Irng, ev_Ienum, ev_Flst, ev_Fcall, ev_asg, ev_asgF, ev_par, ev_app, ev_expr, ev_retS, ev_retF, ev_retO, ev_ifs, ev_nev, ev_B0, ev_B1, ev_nm, ev_tp, ev_ts0, ev_ts1, ev_sub, ev_pm0, ev_pm1, rdV, getS, idxD, atD, DL.ixN, c_eqI, c_neI, c_eqS, c_neS, c_lt, c_le, c_gt, c_ge, c_is, c_isnot, truD, binD, outOf, Cn.d, callA, perm, pickA, owns, avOf, backA, primD, isK, slcD, cutD, sIx, isN, RV.d, putA, itemsD, isOw, atOw, ifOwn, onOwn, d_law_soonest, fd, h]
theorem r8 (k : Nat) (l e m c t p : Int) (b : Bool) : runN fs (k + 1) 8 [.pu (fd l e m c t b), .pu (.int p)] = .ok (.pu (.bool (decide (e + c ≤ p)))) [] := by
  show runD (runN fs k) d_made_by _ = _
  simp [runD, fits, entry, ev_bnd, ev_ret, ev_some, ev_none, ev_cst, ev_var, ev_glb, ev_tup, ev_lst, ev_bin, ev_neg, ev_cmp, ev_chn, ev_nt, ev_an, ev_orr, ev_ite, ev_idx, ev_slc, ev_rev, ev_prim, ev_itm, ev_peek, ev_isi, ev_call, ev_L0, ev_L1, ev_O0, ev_O1, ev_C0, ev_C1, ev_A0, ev_Av, ev_Ar, ev_Af, ev_Iover, ev_Irng, ev_Ienum, ev_Flst, ev_Fcall, ev_asg, ev_asgF, ev_par, ev_app, ev_expr, ev_retS, ev_retF, ev_retO, ev_ifs, ev_nev, ev_B0, ev_B1, ev_nm, ev_tp, ev_ts0, ev_ts1, ev_sub, ev_pm0, ev_pm1, rdV, getS, idxD, atD, DL.ixN, c_eqI, c_neI, c_eqS, c_neS, c_lt, c_le, c_gt, c_ge, c_is, c_isnot, truD, binD, outOf, Cn.d, callA, perm, pickA, owns, avOf, backA, primD, isK, slcD, cutD, sIx, isN, RV.d, putA, itemsD, isOw, atOw, ifOwn, onOwn, d_made_by, fd]
end K28
end
section
set_option maxHeartbeats 4000000
set_option maxRecDepth 100000
namespace K28
open PySem DL
theorem r5 (k : Nat) (l e m c t p : Int) (b : Bool) : runN fs (k + 2) 5 [.pu (fd l e m c t b), .pu (.int p)] = .ok (.pu (.bool (asksB l e m c t b p))) [] := by
  show runD (runN fs (k + 1)) d_asking _ = _
  have h4 := r4 k l e m c t p b
  unfold fd at h4
  unfold asksB
  by_cases h1 : e + c ≤ p
  · simp [runD, fits, entry, ev_bnd, ev_ret, ev_some, ev_none, ev_cst, ev_var, ev_glb, ev_tup, ev_lst, ev_bin, ev_neg, ev_cmp, ev_chn, ev_nt, ev_an, ev_orr, ev_ite, ev_idx, ev_slc, ev_rev, ev_prim, ev_itm, ev_peek, ev_isi, ev_call, ev_L0, ev_L1, ev_O0, ev_O1, ev_C0, ev_C1, ev_A0, ev_Av, ev_Ar, ev_Af, ev_Iover, ev_Irng, ev_Ienum, ev_Flst, ev_Fcall, ev_asg, ev_asgF, ev_par, ev_app, ev_expr, ev_retS, ev_retF, ev_retO, ev_ifs, ev_nev, ev_B0, ev_B1, ev_nm, ev_tp, ev_ts0, ev_ts1, ev_sub, ev_pm0, ev_pm1, rdV, getS, idxD, atD, DL.ixN, c_eqI, c_neI, c_eqS, c_neS, c_lt, c_le, c_gt, c_ge, c_is, c_isnot, truD, binD, outOf, Cn.d, callA, perm, pickA, owns, avOf, backA, primD, isK, slcD, cutD, sIx, isN, RV.d, putA, itemsD, isOw, atOw, ifOwn, onOwn, d_asking, fd, h1]
  · by_cases h2 : t ≤ p
    · simp [runD, fits, entry, ev_bnd, ev_ret, ev_some, ev_none, ev_cst, ev_var, ev_glb, ev_tup, ev_lst, ev_bin, ev_neg, ev_cmp, ev_chn, ev_nt, ev_an, ev_orr, ev_ite, ev_idx, ev_slc, ev_rev, ev_prim, ev_itm, ev_peek, ev_isi, ev_call, ev_L0, ev_L1, ev_O0, ev_O1, ev_C0, ev_C1, ev_A0, ev_Av, ev_Ar, ev_Af, ev_Iover, ev_Irng, ev_Ienum, ev_Flst, ev_Fcall, ev_asg, ev_asgF, ev_par, ev_app, ev_expr, ev_retS, ev_retF, ev_retO, ev_ifs, ev_nev, ev_B0, ev_B1, ev_nm, ev_tp, ev_ts0, ev_ts1, ev_sub, ev_pm0, ev_pm1, rdV, getS, idxD, atD, DL.ixN, c_eqI, c_neI, c_eqS, c_neS, c_lt, c_le, c_gt, c_ge, c_is, c_isnot, truD, binD, outOf, Cn.d, callA, perm, pickA, owns, avOf, backA, primD, isK, slcD, cutD, sIx, isN, RV.d, putA, itemsD, isOw, atOw, ifOwn, onOwn, d_asking, fd, h1, h2]
    · cases b
      · simp [runD, fits, entry, ev_bnd, ev_ret, ev_some, ev_none, ev_cst, ev_var, ev_glb, ev_tup, ev_lst, ev_bin, ev_neg, ev_cmp, ev_chn, ev_nt, ev_an, ev_orr, ev_ite, ev_idx, ev_slc, ev_rev, ev_prim, ev_itm, ev_peek, ev_isi, ev_call, ev_L0, ev_L1, ev_O0, ev_O1, ev_C0, ev_C1, ev_A0, ev_Av, ev_Ar, ev_Af, ev_Iover, ev_Irng, ev_Ienum, ev_Flst, ev_Fcall, ev_asg, ev_asgF, ev_par, ev_app, ev_expr, ev_retS, ev_retF, ev_retO, ev_ifs, ev_nev, ev_B0, ev_B1, ev_nm, ev_tp, ev_ts0, ev_ts1, ev_sub, ev_pm0, ev_pm1, rdV, getS, idxD, atD, DL.ixN, c_eqI, c_neI, c_eqS, c_neS, c_lt, c_le, c_gt, c_ge, c_is, c_isnot, truD, binD, outOf, Cn.d, callA, perm, pickA, owns, avOf, backA, primD, isK, slcD, cutD, sIx, isN, RV.d, putA, itemsD, isOw, atOw, ifOwn, onOwn, d_asking, fd, h1, h2, way_eq, h4]
      · simp [runD, fits, entry, ev_bnd, ev_ret, ev_some, ev_none, ev_cst, ev_var, ev_glb, ev_tup, ev_lst, ev_bin, ev_neg, ev_cmp, ev_chn, ev_nt, ev_an, ev_orr, ev_ite, ev_idx, ev_slc, ev_rev, ev_prim, ev_itm, ev_peek, ev_isi, ev_call, ev_L0, ev_L1, ev_O0, ev_O1, ev_C0, ev_C1, ev_A0, ev_Av, ev_Ar, ev_Af, ev_Iover, ev_Irng, ev_Ienum, ev_Flst, ev_Fcall, ev_asg, ev_asgF, ev_par, ev_app, ev_expr, ev_retS, ev_retF, ev_retO, ev_ifs, ev_nev, ev_B0, ev_B1, ev_nm, ev_tp, ev_ts0, ev_ts1, ev_sub, ev_pm0, ev_pm1, rdV, getS, idxD, atD, DL.ixN, c_eqI, c_neI, c_eqS, c_neS, c_lt, c_le, c_gt, c_ge, c_is, c_isnot, truD, binD, outOf, Cn.d, callA, perm, pickA, owns, avOf, backA, primD, isK, slcD, cutD, sIx, isN, RV.d, putA, itemsD, isOw, atOw, ifOwn, onOwn, d_asking, fd, h1, h2, way_eq, h4]
theorem r23 (k : Nat) (l e m c t p : Int) (b : Bool) : runN fs (k + 2) 23 [.pu (fd l e m c t b), .pu (.int p)] = .ok (.pu (.bool (asksB l e m c t b p))) [] := by
  show runD (runN fs (k + 1)) d_law_asks _ = _
  have h4 := r22 k l e m c t p b
  unfold fd at h4
  unfold asksB
  by_cases h1 : e + c ≤ p
  · simp [runD, fits, entry, ev_bnd, ev_ret, ev_some, ev_none, ev_cst, ev_var, ev_glb, ev_tup, ev_lst, ev_bin, ev_neg, ev_cmp, ev_chn, ev_nt, ev_an, ev_orr, ev_ite, ev_idx, ev_slc, ev_rev, ev_prim, ev_itm, ev_peek, ev_isi, ev_call, ev_L0, ev_L1, ev_O0, ev_O1, ev_C0, ev_C1, ev_A0, ev_Av, ev_Ar, ev_Af, ev_Iover, ev_Irng, ev_Ienum, ev_Flst, ev_Fcall, ev_asg, ev_asgF, ev_par, ev_app, ev_expr, ev_retS, ev_retF, ev_retO, ev_ifs, ev_nev, ev_B0, ev_B1, ev_nm, ev_tp, ev_ts0, ev_ts1, ev_sub, ev_pm0, ev_pm1, rdV, getS, idxD, atD, DL.ixN, c_eqI, c_neI, c_eqS, c_neS, c_lt, c_le, c_gt, c_ge, c_is, c_isnot, truD, binD, outOf, Cn.d, callA, perm, pickA, owns, avOf, backA, primD, isK, slcD, cutD, sIx, isN, RV.d, putA, itemsD, isOw, atOw, ifOwn, onOwn, d_law_asks, fd, h1]
  · by_cases h2 : t ≤ p
    · simp [runD, fits, entry, ev_bnd, ev_ret, ev_some, ev_none, ev_cst, ev_var, ev_glb, ev_tup, ev_lst, ev_bin, ev_neg, ev_cmp, ev_chn, ev_nt, ev_an, ev_orr, ev_ite, ev_idx, ev_slc, ev_rev, ev_prim, ev_itm, ev_peek, ev_isi, ev_call, ev_L0, ev_L1, ev_O0, ev_O1, ev_C0, ev_C1, ev_A0, ev_Av, ev_Ar, ev_Af, ev_Iover, ev_Irng, ev_Ienum, ev_Flst, ev_Fcall, ev_asg, ev_asgF, ev_par, ev_app, ev_expr, ev_retS, ev_retF, ev_retO, ev_ifs, ev_nev, ev_B0, ev_B1, ev_nm, ev_tp, ev_ts0, ev_ts1, ev_sub, ev_pm0, ev_pm1, rdV, getS, idxD, atD, DL.ixN, c_eqI, c_neI, c_eqS, c_neS, c_lt, c_le, c_gt, c_ge, c_is, c_isnot, truD, binD, outOf, Cn.d, callA, perm, pickA, owns, avOf, backA, primD, isK, slcD, cutD, sIx, isN, RV.d, putA, itemsD, isOw, atOw, ifOwn, onOwn, d_law_asks, fd, h1, h2]
    · cases b
      · simp [runD, fits, entry, ev_bnd, ev_ret, ev_some, ev_none, ev_cst, ev_var, ev_glb, ev_tup, ev_lst, ev_bin, ev_neg, ev_cmp, ev_chn, ev_nt, ev_an, ev_orr, ev_ite, ev_idx, ev_slc, ev_rev, ev_prim, ev_itm, ev_peek, ev_isi, ev_call, ev_L0, ev_L1, ev_O0, ev_O1, ev_C0, ev_C1, ev_A0, ev_Av, ev_Ar, ev_Af, ev_Iover, ev_Irng, ev_Ienum, ev_Flst, ev_Fcall, ev_asg, ev_asgF, ev_par, ev_app, ev_expr, ev_retS, ev_retF, ev_retO, ev_ifs, ev_nev, ev_B0, ev_B1, ev_nm, ev_tp, ev_ts0, ev_ts1, ev_sub, ev_pm0, ev_pm1, rdV, getS, idxD, atD, DL.ixN, c_eqI, c_neI, c_eqS, c_neS, c_lt, c_le, c_gt, c_ge, c_is, c_isnot, truD, binD, outOf, Cn.d, callA, perm, pickA, owns, avOf, backA, primD, isK, slcD, cutD, sIx, isN, RV.d, putA, itemsD, isOw, atOw, ifOwn, onOwn, d_law_asks, fd, h1, h2, way_eq, h4]
      · simp [runD, fits, entry, ev_bnd, ev_ret, ev_some, ev_none, ev_cst, ev_var, ev_glb, ev_tup, ev_lst, ev_bin, ev_neg, ev_cmp, ev_chn, ev_nt, ev_an, ev_orr, ev_ite, ev_idx, ev_slc, ev_rev, ev_prim, ev_itm, ev_peek, ev_isi, ev_call, ev_L0, ev_L1, ev_O0, ev_O1, ev_C0, ev_C1, ev_A0, ev_Av, ev_Ar, ev_Af, ev_Iover, ev_Irng, ev_Ienum, ev_Flst, ev_Fcall, ev_asg, ev_asgF, ev_par, ev_app, ev_expr, ev_retS, ev_retF, ev_retO, ev_ifs, ev_nev, ev_B0, ev_B1, ev_nm, ev_tp, ev_ts0, ev_ts1, ev_sub, ev_pm0, ev_pm1, rdV, getS, idxD, atD, DL.ixN, c_eqI, c_neI, c_eqS, c_neS, c_lt, c_le, c_gt, c_ge, c_is, c_isnot, truD, binD, outOf, Cn.d, callA, perm, pickA, owns, avOf, backA, primD, isK, slcD, cutD, sIx, isN, RV.d, putA, itemsD, isOw, atOw, ifOwn, onOwn, d_law_asks, fd, h1, h2, way_eq, h4]
theorem r6 (k : Nat) (l e m c t : Int) (b : Bool) : runN fs (k + 1) 6 [.pu (fd l e m c t b)] = .ok (.pu (.int (quietI l e m c t b))) [] := by
  show runD (runN fs k) d_quiet_of _ = _
  unfold quietI minQ maxQ
  cases b
  · by_cases h : e + c ≤ t
    · simp [runD, fits, entry, ev_bnd, ev_ret, ev_some, ev_none, ev_cst, ev_var, ev_glb, ev_tup, ev_lst, ev_bin, ev_neg, ev_cmp, ev_chn, ev_nt, ev_an, ev_orr, ev_ite, ev_idx, ev_slc, ev_rev, ev_prim, ev_itm, ev_peek, ev_isi, ev_call, ev_L0, ev_L1, ev_O0, ev_O1, ev_C0, ev_C1, ev_A0, ev_Av, ev_Ar, ev_Af, ev_Iover, ev_Irng, ev_Ienum, ev_Flst, ev_Fcall, ev_asg, ev_asgF, ev_par, ev_app, ev_expr, ev_retS, ev_retF, ev_retO, ev_ifs, ev_nev, ev_B0, ev_B1, ev_nm, ev_tp, ev_ts0, ev_ts1, ev_sub, ev_pm0, ev_pm1, rdV, getS, idxD, atD, DL.ixN, c_eqI, c_neI, c_eqS, c_neS, c_lt, c_le, c_gt, c_ge, c_is, c_isnot, truD, binD, outOf, Cn.d, callA, perm, pickA, owns, avOf, backA, primD, isK, slcD, cutD, sIx, isN, RV.d, putA, itemsD, isOw, atOw, ifOwn, onOwn, d_quiet_of, fd, h, way_eq]
    · simp [runD, fits, entry, ev_bnd, ev_ret, ev_some, ev_none, ev_cst, ev_var, ev_glb, ev_tup, ev_lst, ev_bin, ev_neg, ev_cmp, ev_chn, ev_nt, ev_an, ev_orr, ev_ite, ev_idx, ev_slc, ev_rev, ev_prim, ev_itm, ev_peek, ev_isi, ev_call, ev_L0, ev_L1, ev_O0, ev_O1, ev_C0, ev_C1, ev_A0, ev_Av, ev_Ar, ev_Af, ev_Iover, ev_Irng, ev_Ienum, ev_Flst, ev_Fcall, ev_asg, ev_asgF, ev_par, ev_app, ev_expr, ev_retS, ev_retF, ev_retO, ev_ifs, ev_nev, ev_B0, ev_B1, ev_nm, ev_tp, ev_ts0, ev_ts1, ev_sub, ev_pm0, ev_pm1, rdV, getS, idxD, atD, DL.ixN, c_eqI, c_neI, c_eqS, c_neS, c_lt, c_le, c_gt, c_ge, c_is, c_isnot, truD, binD, outOf, Cn.d, callA, perm, pickA, owns, avOf, backA, primD, isK, slcD, cutD, sIx, isN, RV.d, putA, itemsD, isOw, atOw, ifOwn, onOwn, d_quiet_of, fd, h, way_eq]
  · simp [runD, fits, entry, ev_bnd, ev_ret, ev_some, ev_none, ev_cst, ev_var, ev_glb, ev_tup, ev_lst, ev_bin, ev_neg, ev_cmp, ev_chn, ev_nt, ev_an, ev_orr, ev_ite, ev_idx, ev_slc, ev_rev, ev_prim, ev_itm, ev_peek, ev_isi, ev_call, ev_L0, ev_L1, ev_O0, ev_O1, ev_C0, ev_C1, ev_A0, ev_Av, ev_Ar, ev_Af, ev_Iover, ev_Irng, ev_Ienum, ev_Flst, ev_Fcall, ev_asg, ev_asgF, ev_par, ev_app, ev_expr, ev_retS, ev_retF, ev_retO, ev_ifs, ev_nev, ev_B0, ev_B1, ev_nm, ev_tp, ev_ts0, ev_ts1, ev_sub, ev_pm0, ev_pm1, rdV, getS, idxD, atD, DL.ixN, c_eqI, c_neI, c_eqS, c_neS, c_lt, c_le, c_gt, c_ge, c_is, c_isnot, truD, binD, outOf, Cn.d, callA, perm, pickA, owns, avOf, backA, primD, isK, slcD, cutD, sIx, isN, RV.d, putA, itemsD, isOw, atOw, ifOwn, onOwn, d_quiet_of, fd, way_eq]
/-- a feed asks as long as it is not quiet -/
theorem asks_quiet (l e m c t p : Int) (b : Bool) (h1 : 1 ≤ m) (h2 : l + m ≤ e) (h3 : 0 ≤ c) (hp : 0 ≤ p) : asksB l e m c t b p = decide (p < quietI l e m c t b) := by
  unfold asksB quietI soonI minQ maxQ
  rw [Bool.eq_iff_iff]
  cases b
  · simp only [Bool.false_or, Bool.false_eq_true, if_false, decide_eq_true_eq]
    repeat' split
    all_goals
      simp only [decide_eq_true_eq, Bool.false_eq_true]
      first
        | omega
        | (constructor <;> intro z <;> first | exact z.elim | trivial | omega)
  · simp only [Bool.true_or, if_true]
    repeat' split
    all_goals
      simp only [decide_eq_true_eq, Bool.false_eq_true]
      first
        | omega
        | (constructor <;> intro z <;> first | exact z.elim | trivial | omega)
/-- is_feed and the like, asked for in the open -/
theorem r9 (k : Nat) (l e m c t : Int) (b : Bool) (h0 : 0 ≤ l) (h1 : 1 ≤ m) (h2 : l + m ≤ e) (h3 : 0 ≤ c) (h4 : 0 ≤ t) : runN fs (k + 4) 9 [.pu (fd l e m c t b)] = .ok (.pu .none) [] := by
  show runD (runN fs (k + 3)) d_want_feed _ = _
  simp [runD, fits, entry, ev_bnd, ev_ret, ev_some, ev_none, ev_cst, ev_var, ev_glb, ev_tup, ev_lst, ev_bin, ev_neg, ev_cmp, ev_chn, ev_nt, ev_an, ev_orr, ev_ite, ev_idx, ev_slc, ev_rev, ev_prim, ev_itm, ev_peek, ev_isi, ev_call, ev_L0, ev_L1, ev_O0, ev_O1, ev_C0, ev_C1, ev_A0, ev_Av, ev_Ar, ev_Af, ev_Iover, ev_Irng, ev_Ienum, ev_Flst, ev_Fcall, ev_asg, ev_asgF, ev_par, ev_app, ev_expr, ev_retS, ev_retF, ev_retO, ev_ifs, ev_nev, ev_B0, ev_B1, ev_nm, ev_tp, ev_ts0, ev_ts1, ev_sub, ev_pm0, ev_pm1, rdV, getS, idxD, atD, DL.ixN, c_eqI, c_neI, c_eqS, c_neS, c_lt, c_le, c_gt, c_ge, c_is, c_isnot, truD, binD, outOf, Cn.d, callA, perm, pickA, owns, avOf, backA, primD, isK, slcD, cutD, sIx, isN, RV.d, putA, itemsD, isOw, atOw, ifOwn, onOwn, d_want_feed, r3 k l e m c t b h0 h1 h2 h3 h4]
theorem r10 (k : Nat) (p : Int) (hp : 0 ≤ p) : runN fs (k + 3) 10 [.pu (.int p)] = .ok (.pu .none) [] := by
  show runD (runN fs (k + 2)) d_want_moment _ = _
  simp [runD, fits, entry, ev_bnd, ev_ret, ev_some, ev_none, ev_cst, ev_var, ev_glb, ev_tup, ev_lst, ev_bin, ev_neg, ev_cmp, ev_chn, ev_nt, ev_an, ev_orr, ev_ite, ev_idx, ev_slc, ev_rev, ev_prim, ev_itm, ev_peek, ev_isi, ev_call, ev_L0, ev_L1, ev_O0, ev_O1, ev_C0, ev_C1, ev_A0, ev_Av, ev_Ar, ev_Af, ev_Iover, ev_Irng, ev_Ienum, ev_Flst, ev_Fcall, ev_asg, ev_asgF, ev_par, ev_app, ev_expr, ev_retS, ev_retF, ev_retO, ev_ifs, ev_nev, ev_B0, ev_B1, ev_nm, ev_tp, ev_ts0, ev_ts1, ev_sub, ev_pm0, ev_pm1, rdV, getS, idxD, atD, DL.ixN, c_eqI, c_neI, c_eqS, c_neS, c_lt, c_le, c_gt, c_ge, c_is, c_isnot, truD, binD, outOf, Cn.d, callA, perm, pickA, owns, avOf, backA, primD, isK, slcD, cutD, sIx, isN, RV.d, putA, itemsD, isOw, atOw, ifOwn, onOwn, d_want_moment, r1 k p hp]
theorem r12 (k : Nat) (l e m c t p : Int) (b : Bool) (h0 : 0 ≤ l) (h1 : 1 ≤ m) (h2 : l + m ≤ e) (h3 : 0 ≤ c) (h4 : 0 ≤ t) (hp : 0 ≤ p) : runN fs (k + 5) 12 [.pu (fd l e m c t b), .pu (.int p)] = .ok (.pu (.int (soonI l e m c p))) [] := by
  show runD (runN fs (k + 4)) d_soonest _ = _
  simp [runD, fits, entry, ev_bnd, ev_ret, ev_some, ev_none, ev_cst, ev_var, ev_glb, ev_tup, ev_lst, ev_bin, ev_neg, ev_cmp, ev_chn, ev_nt, ev_an, ev_orr, ev_ite, ev_idx, ev_slc, ev_rev, ev_prim, ev_itm, ev_peek, ev_isi, ev_call, ev_L0, ev_L1, ev_O0, ev_O1, ev_C0, ev_C1, ev_A0, ev_Av, ev_Ar, ev_Af, ev_Iover, ev_Irng, ev_Ienum, ev_Flst, ev_Fcall, ev_asg, ev_asgF, ev_par, ev_app, ev_expr, ev_retS, ev_retF, ev_retO, ev_ifs, ev_nev, ev_B0, ev_B1, ev_nm, ev_tp, ev_ts0, ev_ts1, ev_sub, ev_pm0, ev_pm1, rdV, getS, idxD, atD, DL.ixN, c_eqI, c_neI, c_eqS, c_neS, c_lt, c_le, c_gt, c_ge, c_is, c_isnot, truD, binD, outOf, Cn.d, callA, perm, pickA, owns, avOf, backA, primD, isK, slcD, cutD, sIx, isN, RV.d, putA, itemsD, isOw, atOw, ifOwn, onOwn, d_soonest, r9 k l e m c t b h0 h1 h2 h3 h4, r10 (k + 1) p hp, r4 (k + 3)]
theorem r13 (k : Nat) (l e m c t p : Int) (b : Bool) (h0 : 0 ≤ l) (h1 : 1 ≤ m) (h2 : l + m ≤ e) (h3 : 0 ≤ c) (h4 : 0 ≤ t) (hp : 0 ≤ p) : runN fs (k + 5) 13 [.pu (fd l e m c t b), .pu (.int p)] = .ok (.pu (.bool (asksB l e m c t b p))) [] := by
  show runD (runN fs (k + 4)) d_asks _ = _
  simp [runD, fits, entry, ev_bnd, ev_ret, ev_some, ev_none, ev_cst, ev_var, ev_glb, ev_tup, ev_lst, ev_bin, ev_neg, ev_cmp, ev_chn, ev_nt, ev_an, ev_orr, ev_ite, ev_idx, ev_slc, ev_rev, ev_prim, ev_itm, ev_peek, ev_isi, ev_call, ev_L0, ev_L1, ev_O0, ev_O1, ev_C0, ev_C1, ev_A0, ev_Av, ev_Ar, ev_Af, ev_Iover, ev_Irng, ev_Ienum, ev_Flst, ev_Fcall, ev_asg, ev_asgF, ev_par, ev_app, ev_expr, ev_retS, ev_retF, ev_retO, ev_ifs, ev_nev, ev_B0, ev_B1, ev_nm, ev_tp, ev_ts0, ev_ts1, ev_sub, ev_pm0, ev_pm1, rdV, getS, idxD, atD, DL.ixN, c_eqI, c_neI, c_eqS, c_neS, c_lt, c_le, c_gt, c_ge, c_is, c_isnot, truD, binD, outOf, Cn.d, callA, perm, pickA, owns, avOf, backA, primD, isK, slcD, cutD, sIx, isN, RV.d, putA, itemsD, isOw, atOw, ifOwn, onOwn, d_asks, r9 k l e m c t b h0 h1 h2 h3 h4, r10 (k + 1) p hp, r5 (k + 2)]
theorem r14 (k : Nat) (l e m c t : Int) (b : Bool) (h0 : 0 ≤ l) (h1 : 1 ≤ m) (h2 : l + m ≤ e) (h3 : 0 ≤ c) (h4 : 0 ≤ t) : runN fs (k + 5) 14 [.pu (fd l e m c t b)] = .ok (.pu (.int (quietI l e m c t b))) [] := by
  show runD (runN fs (k + 4)) d_quiet _ = _
  simp [runD, fits, entry, ev_bnd, ev_ret, ev_some, ev_none, ev_cst, ev_var, ev_glb, ev_tup, ev_lst, ev_bin, ev_neg, ev_cmp, ev_chn, ev_nt, ev_an, ev_orr, ev_ite, ev_idx, ev_slc, ev_rev, ev_prim, ev_itm, ev_peek, ev_isi, ev_call, ev_L0, ev_L1, ev_O0, ev_O1, ev_C0, ev_C1, ev_A0, ev_Av, ev_Ar, ev_Af, ev_Iover, ev_Irng, ev_Ienum, ev_Flst, ev_Fcall, ev_asg, ev_asgF, ev_par, ev_app, ev_expr, ev_retS, ev_retF, ev_retO, ev_ifs, ev_nev, ev_B0, ev_B1, ev_nm, ev_tp, ev_ts0, ev_ts1, ev_sub, ev_pm0, ev_pm1, rdV, getS, idxD, atD, DL.ixN, c_eqI, c_neI, c_eqS, c_neS, c_lt, c_le, c_gt, c_ge, c_is, c_isnot, truD, binD, outOf, Cn.d, callA, perm, pickA, owns, avOf, backA, primD, isK, slcD, cutD, sIx, isN, RV.d, putA, itemsD, isOw, atOw, ifOwn, onOwn, d_quiet, r9 k l e m c t b h0 h1 h2 h3 h4, r6 (k + 3)]
theorem r15 (k : Nat) (l e m c t p : Int) (b : Bool) (h0 : 0 ≤ l) (h1 : 1 ≤ m) (h2 : l + m ≤ e) (h3 : 0 ≤ c) (h4 : 0 ≤ t) (hp : 0 ≤ p) : runN fs (k + 5) 15 [.pu (fd l e m c t b), .pu (.int p)] = .ok (.pu (.bool (decide (e + c ≤ p)))) [] := by
  show runD (runN fs (k + 4)) d_is_made _ = _
  simp [runD, fits, entry, ev_bnd, ev_ret, ev_some, ev_none, ev_cst, ev_var, ev_glb, ev_tup, ev_lst, ev_bin, ev_neg, ev_cmp, ev_chn, ev_nt, ev_an, ev_orr, ev_ite, ev_idx, ev_slc, ev_rev, ev_prim, ev_itm, ev_peek, ev_isi, ev_call, ev_L0, ev_L1, ev_O0, ev_O1, ev_C0, ev_C1, ev_A0, ev_Av, ev_Ar, ev_Af, ev_Iover, ev_Irng, ev_Ienum, ev_Flst, ev_Fcall, ev_asg, ev_asgF, ev_par, ev_app, ev_expr, ev_retS, ev_retF, ev_retO, ev_ifs, ev_nev, ev_B0, ev_B1, ev_nm, ev_tp, ev_ts0, ev_ts1, ev_sub, ev_pm0, ev_pm1, rdV, getS, idxD, atD, DL.ixN, c_eqI, c_neI, c_eqS, c_neS, c_lt, c_le, c_gt, c_ge, c_is, c_isnot, truD, binD, outOf, Cn.d, callA, perm, pickA, owns, avOf, backA, primD, isK, slcD, cutD, sIx, isN, RV.d, putA, itemsD, isOw, atOw, ifOwn, onOwn, d_is_made, r9 k l e m c t b h0 h1 h2 h3 h4, r1 (k + 2) p hp, r8 (k + 3)]
end K28
end
section
set_option maxHeartbeats 4000000
set_option maxRecDepth 100000
namespace K28
open PySem DL
structure Fd where
  l : Int
  e : Int
  m : Int
  c : Int
  t : Int
  b : Bool
abbrev Fd.d (f : Fd) : PyData := fd f.l f.e f.m f.c f.t f.b
structure Fd.Ok (f : Fd) : Prop where
  h0 : 0 ≤ f.l
  h1 : 1 ≤ f.m
  h2 : f.l + f.m ≤ f.e
  h3 : 0 ≤ f.c
  h4 : 0 ≤ f.t
def Fd.q (f : Fd) : Int := quietI f.l f.e f.m f.c f.t f.b
def Fd.a (f : Fd) (p : Int) : Bool := asksB f.l f.e f.m f.c f.t f.b p
theorem Fd.aq (f : Fd) (h : f.Ok) {p : Int} (hp : 0 ≤ p) : f.a p = decide (p < f.q) := asks_quiet _ _ _ _ _ _ _ h.h1 h.h2 h.h3 hp
/-- the feeds, as a list or a tuple -/
def seqOf (tup : Bool) (ds : List PyData) : PyData := if tup then .tuple ds else .list ds
theorem items_seqOf (tup : Bool) (ds : List PyData) : itemsD (seqOf tup ds) = some ds := by cases tup <;> rfl
theorem len_seqOf (tup : Bool) (ds : List PyData) : primD .len [seqOf tup ds] = some (.int ds.length) := by cases tup <;> rfl
theorem isk_seqOf (tup : Bool) (ds : List PyData) : ([Kd.klist, Kd.ktuple].any fun k => isK k (seqOf tup ds)) = true := by cases tup <;> rfl
/-- leaving(minute, feeds) -/
def due (p : Int) (fds : List Fd) : Int := maxI p (fds.map Fd.q)
theorem r7 (k : Nat) (p : Int) (tup : Bool) (fds : List Fd) (hl : fds.length ≤ 30) : runN fs (k + 2) 7 [.pu (.int p), .pu (seqOf tup (fds.map Fd.d))] = .ok (.pu (.int (due p fds))) [] := by
  have hc : den (runN fs (k + 1)) (.comp (.nm 2) (.over (.var 1)) none (.call 6 [.val (.var 2)] []) [2]) [.pu (.int p), .pu (seqOf tup (fds.map Fd.d)), .un] = .ok (.list (fds.filterMap fun f => some (.int f.q))) [.pu (.int p), .pu (seqOf tup (fds.map Fd.d)), .un] :=
    ev_comp (xs := fds.map Fd.d) (by simp only [ev_Iover, ev_bnd, ev_var, rdV, getS]; simp [items_seqOf, ev_some]) (comp_gen Fd.d fds _ rfl (by simp only [sizeLine]; omega) fun f hf =>
      ⟨[.pu (.int p), .pu (seqOf tup (fds.map Fd.d)), .pu f.d], by simp only [ev_step, wipeE]; simp [runD, fits, entry, ev_bnd, ev_ret, ev_some, ev_none, ev_cst, ev_var, ev_glb, ev_tup, ev_lst, ev_bin, ev_neg, ev_cmp, ev_chn, ev_nt, ev_an, ev_orr, ev_ite, ev_idx, ev_slc, ev_rev, ev_prim, ev_itm, ev_peek, ev_isi, ev_call, ev_L0, ev_L1, ev_O0, ev_O1, ev_C0, ev_C1, ev_A0, ev_Av, ev_Ar, ev_Af, ev_Iover, ev_Irng, ev_Ienum, ev_Flst, ev_Fcall, ev_asg, ev_asgF, ev_par, ev_app, ev_expr, ev_retS, ev_retF, ev_retO, ev_ifs, ev_nev, ev_B0, ev_B1, ev_nm, ev_tp, ev_ts0, ev_ts1, ev_sub, ev_pm0, ev_pm1, rdV, getS, idxD, atD, DL.ixN, c_eqI, c_neI, c_eqS, c_neS, c_lt, c_le, c_gt, c_ge, c_is, c_isnot, truD, binD, outOf, Cn.d, callA, perm, pickA, owns, avOf, backA, primD, isK, slcD, cutD, sIx, isN, RV.d, putA, itemsD, isOw, atOw, ifOwn, onOwn, Fd.d, r6 k, Fd.q], rfl⟩)
  rw [fm_some] at hc
  have hi : ints? (.int p :: fds.map fun f => PyData.int f.q) = some (p :: fds.map Fd.q) := by
    have := ints_map (p :: fds.map Fd.q)
    rw [List.map_cons, List.map_map] at this
    exact this
  have hs : ¬ (sizeLine < fds.length + 1) := by simp only [sizeLine]; omega
  show runD (runN fs (k + 1)) d_leaving _ = _
  simp [runD, fits, entry, ev_bnd, ev_ret, ev_some, ev_none, ev_cst, ev_var, ev_glb, ev_tup, ev_lst, ev_bin, ev_neg, ev_cmp, ev_chn, ev_nt, ev_an, ev_orr, ev_ite, ev_idx, ev_slc, ev_rev, ev_prim, ev_itm, ev_peek, ev_isi, ev_call, ev_L0, ev_L1, ev_O0, ev_O1, ev_C0, ev_C1, ev_A0, ev_Av, ev_Ar, ev_Af, ev_Iover, ev_Irng, ev_Ienum, ev_Flst, ev_Fcall, ev_asg, ev_asgF, ev_par, ev_app, ev_expr, ev_retS, ev_retF, ev_retO, ev_ifs, ev_nev, ev_B0, ev_B1, ev_nm, ev_tp, ev_ts0, ev_ts1, ev_sub, ev_pm0, ev_pm1, rdV, getS, idxD, atD, DL.ixN, c_eqI, c_neI, c_eqS, c_neS, c_lt, c_le, c_gt, c_ge, c_is, c_isnot, truD, binD, outOf, Cn.d, callA, perm, pickA, owns, avOf, backA, primD, isK, slcD, cutD, sIx, isN, RV.d, putA, itemsD, isOw, atOw, ifOwn, onOwn, d_leaving, hc, sizeLine]
  rw [if_pos (by omega)]
  simp [runD, fits, entry, ev_bnd, ev_ret, ev_some, ev_none, ev_cst, ev_var, ev_glb, ev_tup, ev_lst, ev_bin, ev_neg, ev_cmp, ev_chn, ev_nt, ev_an, ev_orr, ev_ite, ev_idx, ev_slc, ev_rev, ev_prim, ev_itm, ev_peek, ev_isi, ev_call, ev_L0, ev_L1, ev_O0, ev_O1, ev_C0, ev_C1, ev_A0, ev_Av, ev_Ar, ev_Af, ev_Iover, ev_Irng, ev_Ienum, ev_Flst, ev_Fcall, ev_asg, ev_asgF, ev_par, ev_app, ev_expr, ev_retS, ev_retF, ev_retO, ev_ifs, ev_nev, ev_B0, ev_B1, ev_nm, ev_tp, ev_ts0, ev_ts1, ev_sub, ev_pm0, ev_pm1, rdV, getS, idxD, atD, DL.ixN, c_eqI, c_neI, c_eqS, c_neS, c_lt, c_le, c_gt, c_ge, c_is, c_isnot, truD, binD, outOf, Cn.d, callA, perm, pickA, owns, avOf, backA, primD, isK, slcD, cutD, sIx, isN, RV.d, putA, itemsD, isOw, atOw, ifOwn, onOwn, hi, due]
theorem r11 (k : Nat) (tup : Bool) (fds : List Fd) (hl : fds.length ≤ 24) (ho : ∀ f ∈ fds, f.Ok) : runN fs (k + 4) 11 [.pu (seqOf tup (fds.map Fd.d))] = .ok (.pu .none) [] := by
  have hc : den (runN fs (k + 3)) (.comp (.nm 1) (.over (.var 0)) none (.call 3 [.val (.var 1)] []) [1]) [.pu (seqOf tup (fds.map Fd.d)), .un] = .ok (.list (fds.filterMap fun f => some (.bool true))) [.pu (seqOf tup (fds.map Fd.d)), .un] :=
    ev_comp (xs := fds.map Fd.d) (by simp only [ev_Iover, ev_bnd, ev_var, rdV, getS]; simp [items_seqOf, ev_some]) (comp_gen Fd.d fds _ rfl (by simp only [sizeLine]; omega) fun f hf =>
      ⟨[.pu (seqOf tup (fds.map Fd.d)), .pu f.d], by
        have h3 := r3 k f.l f.e f.m f.c f.t f.b (ho f hf).h0 (ho f hf).h1 (ho f hf).h2 (ho f hf).h3 (ho f hf).h4
        simp only [ev_step, wipeE]; simp [runD, fits, entry, ev_bnd, ev_ret, ev_some, ev_none, ev_cst, ev_var, ev_glb, ev_tup, ev_lst, ev_bin, ev_neg, ev_cmp, ev_chn, ev_nt, ev_an, ev_orr, ev_ite, ev_idx, ev_slc, ev_rev, ev_prim, ev_itm, ev_peek, ev_isi, ev_call, ev_L0, ev_L1, ev_O0, ev_O1, ev_C0, ev_C1, ev_A0, ev_Av, ev_Ar, ev_Af, ev_Iover, ev_Irng, ev_Ienum, ev_Flst, ev_Fcall, ev_asg, ev_asgF, ev_par, ev_app, ev_expr, ev_retS, ev_retF, ev_retO, ev_ifs, ev_nev, ev_B0, ev_B1, ev_nm, ev_tp, ev_ts0, ev_ts1, ev_sub, ev_pm0, ev_pm1, rdV, getS, idxD, atD, DL.ixN, c_eqI, c_neI, c_eqS, c_neS, c_lt, c_le, c_gt, c_ge, c_is, c_isnot, truD, binD, outOf, Cn.d, callA, perm, pickA, owns, avOf, backA, primD, isK, slcD, cutD, sIx, isN, RV.d, putA, itemsD, isOw, atOw, ifOwn, onOwn, Fd.d, h3], rfl⟩)
  rw [fm_some] at hc
  have hb : bools? (fds.map fun _ => PyData.bool true) = some (fds.map fun _ => true) := by
    have := bools_map (fds.map fun _ => true)
    rw [List.map_map] at this
    exact this
  show runD (runN fs (k + 3)) d_want_feeds _ = _
  have hg : ¬ (24 < (fds.length : Int)) := by omega
  cases tup
  · simp only [seqOf, Bool.false_eq_true, if_false, if_true] at hc ⊢
    simp [runD, fits, entry, ev_bnd, ev_ret, ev_some, ev_none, ev_cst, ev_var, ev_glb, ev_tup, ev_lst, ev_bin, ev_neg, ev_cmp, ev_chn, ev_nt, ev_an, ev_orr, ev_ite, ev_idx, ev_slc, ev_rev, ev_prim, ev_itm, ev_peek, ev_isi, ev_call, ev_L0, ev_L1, ev_O0, ev_O1, ev_C0, ev_C1, ev_A0, ev_Av, ev_Ar, ev_Af, ev_Iover, ev_Irng, ev_Ienum, ev_Flst, ev_Fcall, ev_asg, ev_asgF, ev_par, ev_app, ev_expr, ev_retS, ev_retF, ev_retO, ev_ifs, ev_nev, ev_B0, ev_B1, ev_nm, ev_tp, ev_ts0, ev_ts1, ev_sub, ev_pm0, ev_pm1, rdV, getS, idxD, atD, DL.ixN, c_eqI, c_neI, c_eqS, c_neS, c_lt, c_le, c_gt, c_ge, c_is, c_isnot, truD, binD, outOf, Cn.d, callA, perm, pickA, owns, avOf, backA, primD, isK, slcD, cutD, sIx, isN, RV.d, putA, itemsD, isOw, atOw, ifOwn, onOwn, d_want_feeds, hg, hc, hb]
  · simp only [seqOf, Bool.false_eq_true, if_false, if_true] at hc ⊢
    simp [runD, fits, entry, ev_bnd, ev_ret, ev_some, ev_none, ev_cst, ev_var, ev_glb, ev_tup, ev_lst, ev_bin, ev_neg, ev_cmp, ev_chn, ev_nt, ev_an, ev_orr, ev_ite, ev_idx, ev_slc, ev_rev, ev_prim, ev_itm, ev_peek, ev_isi, ev_call, ev_L0, ev_L1, ev_O0, ev_O1, ev_C0, ev_C1, ev_A0, ev_Av, ev_Ar, ev_Af, ev_Iover, ev_Irng, ev_Ienum, ev_Flst, ev_Fcall, ev_asg, ev_asgF, ev_par, ev_app, ev_expr, ev_retS, ev_retF, ev_retO, ev_ifs, ev_nev, ev_B0, ev_B1, ev_nm, ev_tp, ev_ts0, ev_ts1, ev_sub, ev_pm0, ev_pm1, rdV, getS, idxD, atD, DL.ixN, c_eqI, c_neI, c_eqS, c_neS, c_lt, c_le, c_gt, c_ge, c_is, c_isnot, truD, binD, outOf, Cn.d, callA, perm, pickA, owns, avOf, backA, primD, isK, slcD, cutD, sIx, isN, RV.d, putA, itemsD, isOw, atOw, ifOwn, onOwn, d_want_feeds, hg, hc, hb]
theorem r16 (k : Nat) (p : Int) (tup : Bool) (fds : List Fd) (hp : 0 ≤ p) (hl : fds.length ≤ 24) (ho : ∀ f ∈ fds, f.Ok) : runN fs (k + 5) 16 [.pu (.int p), .pu (seqOf tup (fds.map Fd.d))] = .ok (.pu (.int (due p fds))) [] := by
  show runD (runN fs (k + 4)) d_leaves _ = _
  simp [runD, fits, entry, ev_bnd, ev_ret, ev_some, ev_none, ev_cst, ev_var, ev_glb, ev_tup, ev_lst, ev_bin, ev_neg, ev_cmp, ev_chn, ev_nt, ev_an, ev_orr, ev_ite, ev_idx, ev_slc, ev_rev, ev_prim, ev_itm, ev_peek, ev_isi, ev_call, ev_L0, ev_L1, ev_O0, ev_O1, ev_C0, ev_C1, ev_A0, ev_Av, ev_Ar, ev_Af, ev_Iover, ev_Irng, ev_Ienum, ev_Flst, ev_Fcall, ev_asg, ev_asgF, ev_par, ev_app, ev_expr, ev_retS, ev_retF, ev_retO, ev_ifs, ev_nev, ev_B0, ev_B1, ev_nm, ev_tp, ev_ts0, ev_ts1, ev_sub, ev_pm0, ev_pm1, rdV, getS, idxD, atD, DL.ixN, c_eqI, c_neI, c_eqS, c_neS, c_lt, c_le, c_gt, c_ge, c_is, c_isnot, truD, binD, outOf, Cn.d, callA, perm, pickA, owns, avOf, backA, primD, isK, slcD, cutD, sIx, isN, RV.d, putA, itemsD, isOw, atOw, ifOwn, onOwn, d_leaves, r10 (k + 1) p hp, r11 k tup fds hl ho, r7 (k + 2) p tup fds (by omega)]
/-- the feeds that are waited for in vain -/
def lost (p D : Int) (fds : List Fd) : List PyData := (numFrom 0 fds).filterMap fun x => if (decide (p < x.2.q) && !decide (x.2.e + x.2.c ≤ D)) = true then some (.int (x.1 : Nat)) else none
theorem r17 (k : Nat) (p : Int) (tup : Bool) (fds : List Fd) (hp : 0 ≤ p) (hl : fds.length ≤ 24) (ho : ∀ f ∈ fds, f.Ok) : runN fs (k + 5) 17 [.pu (.int p), .pu (seqOf tup (fds.map Fd.d))] = .ok (.fr (lost p (due p fds) fds)) [] := by
  have hc : denF (runN fs (k + 4)) (.comp (.tp [.nm 3, .nm 4]) (.enum (.var 1)) (some (.an (.cmp .gt (.call 6 [.val (.var 4)] []) (.var 0)) (.nt (.call 8 [.val (.var 4), .val (.var 2)] [])))) (.var 3) [3, 4]) [.pu (.int p), .pu (seqOf tup (fds.map Fd.d)), .pu (.int (due p fds)), .un, .un] = .ok (lost p (due p fds) fds) [.pu (.int p), .pu (seqOf tup (fds.map Fd.d)), .pu (.int (due p fds)), .un, .un] := by
    refine ev_Fcomp (xs := (numFrom 0 fds).map fun x => PyData.tuple [.int (x.1 : Nat), x.2.d]) (by simp only [ev_Ienum, ev_bnd, ev_var, rdV, getS]; simp [items_seqOf, ev_some, ev_bnd, ev_ret, enum_num Fd.d 0 fds]) (comp_gen _ (numFrom 0 fds) _ rfl (by rw [numFrom_len]; simp only [sizeLine]; omega) fun x hx => ?_)
    refine ⟨[.pu (.int p), .pu (seqOf tup (fds.map Fd.d)), .pu (.int (due p fds)), .pu (.int (x.1 : Nat)), .pu x.2.d], ?_, rfl⟩
    simp only [ev_step, wipeE]
    have h6 := r6 (k + 3) x.2.l x.2.e x.2.m x.2.c x.2.t x.2.b
    have h8 := r8 (k + 3) x.2.l x.2.e x.2.m x.2.c x.2.t (due p fds) x.2.b
    by_cases h1 : p < x.2.q
    · have h1' := h1
      unfold Fd.q at h1'
      by_cases h2 : x.2.e + x.2.c ≤ due p fds
      · simp [runD, fits, entry, ev_bnd, ev_ret, ev_some, ev_none, ev_cst, ev_var, ev_glb, ev_tup, ev_lst, ev_bin, ev_neg, ev_cmp, ev_chn, ev_nt, ev_an, ev_orr, ev_ite, ev_idx, ev_slc, ev_rev, ev_prim, ev_itm, ev_peek, ev_isi, ev_call, ev_L0, ev_L1, ev_O0, ev_O1, ev_C0, ev_C1, ev_A0, ev_Av, ev_Ar, ev_Af, ev_Iover, ev_Irng, ev_Ienum, ev_Flst, ev_Fcall, ev_asg, ev_asgF, ev_par, ev_app, ev_expr, ev_retS, ev_retF, ev_retO, ev_ifs, ev_nev, ev_B0, ev_B1, ev_nm, ev_tp, ev_ts0, ev_ts1, ev_sub, ev_pm0, ev_pm1, rdV, getS, idxD, atD, DL.ixN, c_eqI, c_neI, c_eqS, c_neS, c_lt, c_le, c_gt, c_ge, c_is, c_isnot, truD, binD, outOf, Cn.d, callA, perm, pickA, owns, avOf, backA, primD, isK, slcD, cutD, sIx, isN, RV.d, putA, itemsD, isOw, atOw, ifOwn, onOwn, h6, h8, Fd.d, h1, h1', h2]
      · simp [runD, fits, entry, ev_bnd, ev_ret, ev_some, ev_none, ev_cst, ev_var, ev_glb, ev_tup, ev_lst, ev_bin, ev_neg, ev_cmp, ev_chn, ev_nt, ev_an, ev_orr, ev_ite, ev_idx, ev_slc, ev_rev, ev_prim, ev_itm, ev_peek, ev_isi, ev_call, ev_L0, ev_L1, ev_O0, ev_O1, ev_C0, ev_C1, ev_A0, ev_Av, ev_Ar, ev_Af, ev_Iover, ev_Irng, ev_Ienum, ev_Flst, ev_Fcall, ev_asg, ev_asgF, ev_par, ev_app, ev_expr, ev_retS, ev_retF, ev_retO, ev_ifs, ev_nev, ev_B0, ev_B1, ev_nm, ev_tp, ev_ts0, ev_ts1, ev_sub, ev_pm0, ev_pm1, rdV, getS, idxD, atD, DL.ixN, c_eqI, c_neI, c_eqS, c_neS, c_lt, c_le, c_gt, c_ge, c_is, c_isnot, truD, binD, outOf, Cn.d, callA, perm, pickA, owns, avOf, backA, primD, isK, slcD, cutD, sIx, isN, RV.d, putA, itemsD, isOw, atOw, ifOwn, onOwn, h6, h8, Fd.d, h1, h1', h2]
    · have h1' := h1
      unfold Fd.q at h1'
      simp [runD, fits, entry, ev_bnd, ev_ret, ev_some, ev_none, ev_cst, ev_var, ev_glb, ev_tup, ev_lst, ev_bin, ev_neg, ev_cmp, ev_chn, ev_nt, ev_an, ev_orr, ev_ite, ev_idx, ev_slc, ev_rev, ev_prim, ev_itm, ev_peek, ev_isi, ev_call, ev_L0, ev_L1, ev_O0, ev_O1, ev_C0, ev_C1, ev_A0, ev_Av, ev_Ar, ev_Af, ev_Iover, ev_Irng, ev_Ienum, ev_Flst, ev_Fcall, ev_asg, ev_asgF, ev_par, ev_app, ev_expr, ev_retS, ev_retF, ev_retO, ev_ifs, ev_nev, ev_B0, ev_B1, ev_nm, ev_tp, ev_ts0, ev_ts1, ev_sub, ev_pm0, ev_pm1, rdV, getS, idxD, atD, DL.ixN, c_eqI, c_neI, c_eqS, c_neS, c_lt, c_le, c_gt, c_ge, c_is, c_isnot, truD, binD, outOf, Cn.d, callA, perm, pickA, owns, avOf, backA, primD, isK, slcD, cutD, sIx, isN, RV.d, putA, itemsD, isOw, atOw, ifOwn, onOwn, h6, h8, Fd.d, h1, h1']
  show runD (runN fs (k + 4)) d_in_vain _ = _
  simp [runD, fits, entry, ev_bnd, ev_ret, ev_some, ev_none, ev_cst, ev_var, ev_glb, ev_tup, ev_lst, ev_bin, ev_neg, ev_cmp, ev_chn, ev_nt, ev_an, ev_orr, ev_ite, ev_idx, ev_slc, ev_rev, ev_prim, ev_itm, ev_peek, ev_isi, ev_call, ev_L0, ev_L1, ev_O0, ev_O1, ev_C0, ev_C1, ev_A0, ev_Av, ev_Ar, ev_Af, ev_Iover, ev_Irng, ev_Ienum, ev_Flst, ev_Fcall, ev_asg, ev_asgF, ev_par, ev_app, ev_expr, ev_retS, ev_retF, ev_retO, ev_ifs, ev_nev, ev_B0, ev_B1, ev_nm, ev_tp, ev_ts0, ev_ts1, ev_sub, ev_pm0, ev_pm1, rdV, getS, idxD, atD, DL.ixN, c_eqI, c_neI, c_eqS, c_neS, c_lt, c_le, c_gt, c_ge, c_is, c_isnot, truD, binD, outOf, Cn.d, callA, perm, pickA, owns, avOf, backA, primD, isK, slcD, cutD, sIx, isN, RV.d, putA, itemsD, isOw, atOw, ifOwn, onOwn, d_in_vain, r10 (k + 1) p hp, r11 k tup fds hl ho, r7 (k + 2) p tup fds (by omega), hc]
end K28
end
section
set_option maxHeartbeats 4000000
set_option maxRecDepth 100000
namespace K28
open PySem DL
theorem due_ge (p : Int) (fds : List Fd) : p ≤ due p fds := (maxI_mem p (fds.map Fd.q)).2 p List.mem_cons_self
theorem due_q (p : Int) {f : Fd} {fds : List Fd} (h : f ∈ fds) : f.q ≤ due p fds := (maxI_mem p (fds.map Fd.q)).2 _ (List.mem_cons_of_mem _ (List.mem_map_of_mem h))
theorem due_at (p : Int) (fds : List Fd) : due p fds = p ∨ ∃ f ∈ fds, due p fds = f.q := by
  rcases List.mem_cons.mp (maxI_mem p (fds.map Fd.q)).1 with h | h
  · exact .inl h
  · obtain ⟨f, h1, h2⟩ := List.mem_map.mp h
    exact .inr ⟨f, h1, h2.symm⟩
theorem any_due {p x : Int} {fds : List Fd} (ho : ∀ f ∈ fds, f.Ok) (hp : 0 ≤ p) (hx : p ≤ x) : (fds.any fun f => f.a x) = decide (x < due p fds) := by
  rw [Bool.eq_iff_iff, List.any_eq_true, decide_eq_true_eq]
  constructor
  · rintro ⟨f, hf, h⟩
    rw [Fd.aq f (ho f hf) (by omega), decide_eq_true_eq] at h
    have := due_q p hf
    omega
  · intro h
    rcases due_at p fds with e | ⟨f, hf, e⟩
    · omega
    · exact ⟨f, hf, by rw [Fd.aq f (ho f hf) (by omega), decide_eq_true_eq]; omega⟩
theorem r24 (k : Nat) (p : Int) (fds : List Fd) (hp : 0 ≤ p) (hl : fds.length ≤ 30) (ho : ∀ f ∈ fds, f.Ok) (hb : due p fds < p + 900000) : runN fs (k + 3) 24 [.pu (.int p), .pu (.list (fds.map Fd.d))] = .ok (.pu (.int (due p fds))) [] := by
  let En : Int → Evn := fun x => [.pu (.int x), .pu (.list (fds.map Fd.d)), .un]
  have hc : ∀ x : Int, p ≤ x → (bnd (den (runN fs (k + 2)) (.prim .any [.comp (.nm 2) (.over (.var 1)) none (.call 23 [.val (.var 2), .val (.var 0)] []) [2]])) fun x => lift (truD x)) (En x) = .ok (decide (x < due p fds)) (En x) := fun x hx => by
    have h1 : den (runN fs (k + 2)) (.comp (.nm 2) (.over (.var 1)) none (.call 23 [.val (.var 2), .val (.var 0)] []) [2]) (En x) = .ok (.list (fds.filterMap fun f => some (.bool (f.a x)))) (En x) :=
      ev_comp (xs := fds.map Fd.d) (by simp only [En, ev_Iover, ev_bnd, ev_var, rdV, getS]; simp [itemsD, ev_some]) (comp_gen Fd.d fds _ rfl (by simp only [sizeLine]; omega) fun f hf =>
        ⟨[.pu (.int x), .pu (.list (fds.map Fd.d)), .pu f.d], by simp only [ev_step, wipeE, En]; simp [runD, fits, entry, ev_bnd, ev_ret, ev_some, ev_none, ev_cst, ev_var, ev_glb, ev_tup, ev_lst, ev_bin, ev_neg, ev_cmp, ev_chn, ev_nt, ev_an, ev_orr, ev_ite, ev_idx, ev_slc, ev_rev, ev_prim, ev_itm, ev_peek, ev_isi, ev_call, ev_L0, ev_L1, ev_O0, ev_O1, ev_C0, ev_C1, ev_A0, ev_Av, ev_Ar, ev_Af, ev_Iover, ev_Irng, ev_Ienum, ev_Flst, ev_Fcall, ev_asg, ev_asgF, ev_par, ev_app, ev_expr, ev_retS, ev_retF, ev_retO, ev_ifs, ev_nev, ev_B0, ev_B1, ev_nm, ev_tp, ev_ts0, ev_ts1, ev_sub, ev_pm0, ev_pm1, rdV, getS, idxD, atD, DL.ixN, c_eqI, c_neI, c_eqS, c_neS, c_lt, c_le, c_gt, c_ge, c_is, c_isnot, truD, binD, outOf, Cn.d, callA, perm, pickA, owns, avOf, backA, primD, isK, slcD, cutD, sIx, isN, RV.d, putA, itemsD, isOw, atOw, ifOwn, onOwn, Fd.d, r23 k, Fd.a], rfl⟩)
    rw [fm_some] at h1
    have h2 : bools? (fds.map fun f => PyData.bool (f.a x)) = some (fds.map fun f => f.a x) := by
      have := bools_map (fds.map fun f => f.a x)
      rw [List.map_map] at this
      exact this
    have h3 := any_due ho hp hx
    have h4 : (fds.map fun f => f.a x).any id = decide (x < due p fds) := by rw [← h3, List.any_map]; rfl
    simp only [ev_bnd, ev_prim, ev_L1, ev_L0, h1, ev_ret, primD, h2, Option.map_some, ev_some, h4, truD]
  have hbody : ∀ x : Int, denB (runN fs (k + 2)) [.asg (.nm 0) (.bin .add (.var 0) (.cst (.int 1)))] (En x) = .ok .nx (En (x + 1)) := fun x => by
    simp [En, runD, fits, entry, ev_bnd, ev_ret, ev_some, ev_none, ev_cst, ev_var, ev_glb, ev_tup, ev_lst, ev_bin, ev_neg, ev_cmp, ev_chn, ev_nt, ev_an, ev_orr, ev_ite, ev_idx, ev_slc, ev_rev, ev_prim, ev_itm, ev_peek, ev_isi, ev_call, ev_L0, ev_L1, ev_O0, ev_O1, ev_C0, ev_C1, ev_A0, ev_Av, ev_Ar, ev_Af, ev_Iover, ev_Irng, ev_Ienum, ev_Flst, ev_Fcall, ev_asg, ev_asgF, ev_par, ev_app, ev_expr, ev_retS, ev_retF, ev_retO, ev_ifs, ev_nev, ev_B0, ev_B1, ev_nm, ev_tp, ev_ts0, ev_ts1, ev_sub, ev_pm0, ev_pm1, rdV, getS, idxD, atD, DL.ixN, c_eqI, c_neI, c_eqS, c_neS, c_lt, c_le, c_gt, c_ge, c_is, c_isnot, truD, binD, outOf, Cn.d, callA, perm, pickA, owns, avOf, backA, primD, isK, slcD, cutD, sIx, isN, RV.d, putA, itemsD, isOw, atOw, ifOwn, onOwn]
  have hN : p + ((due p fds - p).toNat : Int) = due p fds := by have := due_ge p fds; omega
  have hw := while_up (c := bnd (den (runN fs (k + 2)) (.prim .any [.comp (.nm 2) (.over (.var 1)) none (.call 23 [.val (.var 2), .val (.var 0)] []) [2]])) fun x => lift (truD x)) (body := denB (runN fs (k + 2)) [.asg (.nm 0) (.bin .add (.var 0) (.cst (.int 1)))]) En (due p fds - p).toNat fuel p (by simp only [fuel]; omega)
    (fun j hj => ⟨by rw [hc _ (by omega), decide_eq_true (by omega)], hbody _⟩) (by rw [hN, hc _ (due_ge p fds), decide_eq_false (by omega)])
  rw [hN] at hw
  show runD (runN fs (k + 2)) d_law_leaves _ = _
  have hw' : denS (runN fs (k + 2)) (.whl (.prim .any [.comp (.nm 2) (.over (.var 1)) none (.call 23 [.val (.var 2), .val (.var 0)] []) [2]]) [.asg (.nm 0) (.bin .add (.var 0) (.cst (.int 1)))]) [.pu (.int p), .pu (.list (fds.map Fd.d)), .un] = .ok .nx [.pu (.int (due p fds)), .pu (.list (fds.map Fd.d)), .un] := hw
  simp [runD, fits, entry, ev_bnd, ev_ret, ev_some, ev_none, ev_cst, ev_var, ev_glb, ev_tup, ev_lst, ev_bin, ev_neg, ev_cmp, ev_chn, ev_nt, ev_an, ev_orr, ev_ite, ev_idx, ev_slc, ev_rev, ev_prim, ev_itm, ev_peek, ev_isi, ev_call, ev_L0, ev_L1, ev_O0, ev_O1, ev_C0, ev_C1, ev_A0, ev_Av, ev_Ar, ev_Af, ev_Iover, ev_Irng, ev_Ienum, ev_Flst, ev_Fcall, ev_asg, ev_asgF, ev_par, ev_app, ev_expr, ev_retS, ev_retF, ev_retO, ev_ifs, ev_nev, ev_B0, ev_B1, ev_nm, ev_tp, ev_ts0, ev_ts1, ev_sub, ev_pm0, ev_pm1, rdV, getS, idxD, atD, DL.ixN, c_eqI, c_neI, c_eqS, c_neS, c_lt, c_le, c_gt, c_ge, c_is, c_isnot, truD, binD, outOf, Cn.d, callA, perm, pickA, owns, avOf, backA, primD, isK, slcD, cutD, sIx, isN, RV.d, putA, itemsD, isOw, atOw, ifOwn, onOwn, d_law_leaves, hw']
/-! ### draws -/
theorem pw18 : binD .pow (.int 10) (.int 18) = some (.int 1000000000000000000) := by
  show (if ((0 : Int) ≤ 18 ∧ (18 : Int) ≤ 1000000) ∧ (10 : Int).natAbs < 2 ^ 64 then some (PyData.int ((10 : Int) ^ (18 : Int).toNat)) else none) = _
  rw [if_pos (by decide)]
  rfl
theorem two_le : (2 : Nat) ≤ sizeLine := by rw [sizeLine]; omega
theorem mul_sm {i j : Int} (h : small64 i = true ∨ small64 j = true) : binD .mul (.int i) (.int j) = some (.int (i * j)) := by
  show (if (small64 i || small64 j) = true then some (PyData.int (i * j)) else none) = _
  rw [if_pos (by rcases h with h | h <;> rw [h] <;> simp)]
theorem sub_ev {i j : Int} : binD .sub (.int i) (.int j) = some (.int (i - j)) := rfl
theorem add_ev {i j : Int} : binD .add (.int i) (.int j) = some (.int (i + j)) := rfl
theorem mod_ev {i j : Int} (h : 0 < j) : binD .mod (.int i) (.int j) = some (.int (i % j)) := by
  show (if 0 < j then some (PyData.int (i % j)) else none) = _
  rw [if_pos h]
theorem sm1 : small64 811 = true := by decide
theorem sm2 : small64 40014 = true := by decide
theorem sm3 : small64 6131 = true := by decide
def cellOf (ns : List Int) (j : Nat) : Int := match ns[j]? with
  | some n => if n < 0 then -n else n
  | none => 811 * (j : Int) + 97
theorem r18 (k : Nat) (ns : List Int) (j : Nat) : ∃ a b : Int, 0 ≤ a ∧ 0 ≤ b ∧ runN fs (k + 1) 18 [.pu (.list (ns.map .int)), .pu (.int j)] = .ok (.fr [.int a, .int b]) [] := by
  refine ⟨if cellOf ns j - 1000000000000000000 > 0 then cellOf ns j - 1000000000000000000 else 0, (cellOf ns j % 2147483549 * 40014 + 6131 * (j : Int) + 173) % 2147483563 + 1, by split <;> omega, by omega, ?_⟩
  have hc : den (runN fs k) (.ite (.cmp .lt (.var 1) (.prim .len [.var 0])) (.prim .abs [.idx (.var 0) (.var 1)]) (.bin .add (.bin .mul (.cst (.int 811)) (.var 1)) (.cst (.int 97)))) [.pu (.list (ns.map .int)), .pu (.int j), .un] = .ok (.int (cellOf ns j)) [.pu (.list (ns.map .int)), .pu (.int j), .un] := by
    unfold cellOf
    by_cases h : j < ns.length
    · have hn : ns[j]? = some ns[j] := List.getElem?_eq_getElem h
      simp [runD, fits, entry, ev_bnd, ev_ret, ev_some, ev_none, ev_cst, ev_var, ev_glb, ev_tup, ev_lst, ev_bin, ev_neg, ev_cmp, ev_chn, ev_nt, ev_an, ev_orr, ev_ite, ev_idx, ev_slc, ev_rev, ev_prim, ev_itm, ev_peek, ev_isi, ev_call, ev_L0, ev_L1, ev_O0, ev_O1, ev_C0, ev_C1, ev_A0, ev_Av, ev_Ar, ev_Af, ev_Iover, ev_Irng, ev_Ienum, ev_Flst, ev_Fcall, ev_asg, ev_asgF, ev_par, ev_app, ev_expr, ev_retS, ev_retF, ev_retO, ev_ifs, ev_nev, ev_B0, ev_B1, ev_nm, ev_tp, ev_ts0, ev_ts1, ev_sub, ev_pm0, ev_pm1, rdV, getS, idxD, atD, DL.ixN, c_eqI, c_neI, c_eqS, c_neS, c_lt, c_le, c_gt, c_ge, c_is, c_isnot, truD, outOf, Cn.d, callA, perm, pickA, owns, avOf, backA, primD, isK, slcD, cutD, sIx, isN, RV.d, putA, itemsD, isOw, atOw, ifOwn, onOwn, h, hn]
    · have hn : ns[j]? = none := List.getElem?_eq_none_iff.mpr (by omega)
      simp [runD, fits, entry, ev_bnd, ev_ret, ev_some, ev_none, ev_cst, ev_var, ev_glb, ev_tup, ev_lst, ev_bin, ev_neg, ev_cmp, ev_chn, ev_nt, ev_an, ev_orr, ev_ite, ev_idx, ev_slc, ev_rev, ev_prim, ev_itm, ev_peek, ev_isi, ev_call, ev_L0, ev_L1, ev_O0, ev_O1, ev_C0, ev_C1, ev_A0, ev_Av, ev_Ar, ev_Af, ev_Iover, ev_Irng, ev_Ienum, ev_Flst, ev_Fcall, ev_asg, ev_asgF, ev_par, ev_app, ev_expr, ev_retS, ev_retF, ev_retO, ev_ifs, ev_nev, ev_B0, ev_B1, ev_nm, ev_tp, ev_ts0, ev_ts1, ev_sub, ev_pm0, ev_pm1, rdV, getS, idxD, atD, DL.ixN, c_eqI, c_neI, c_eqS, c_neS, c_lt, c_le, c_gt, c_ge, c_is, c_isnot, truD, outOf, Cn.d, callA, perm, pickA, owns, avOf, backA, primD, isK, slcD, cutD, sIx, isN, RV.d, putA, itemsD, isOw, atOw, ifOwn, onOwn, h, hn, mul_sm (.inl sm1), add_ev]
  show runD (runN fs k) d_law_pot _ = _
  simp only [runD, d_law_pot, ev_B1, ev_B0, ev_bnd, ev_asg, entry, List.map_cons, List.map_nil, List.length_cons, List.length_nil, List.replicate, List.cons_append, List.nil_append, Nat.reduceAdd, Nat.reduceSub, hc, ev_nm, ev_ret]
  simp [runD, fits, entry, ev_bnd, ev_ret, ev_some, ev_none, ev_cst, ev_var, ev_glb, ev_tup, ev_lst, ev_bin, ev_neg, ev_cmp, ev_chn, ev_nt, ev_an, ev_orr, ev_ite, ev_idx, ev_slc, ev_rev, ev_prim, ev_itm, ev_peek, ev_isi, ev_call, ev_L0, ev_L1, ev_O0, ev_O1, ev_C0, ev_C1, ev_A0, ev_Av, ev_Ar, ev_Af, ev_Iover, ev_Irng, ev_Ienum, ev_Flst, ev_Fcall, ev_asg, ev_asgF, ev_par, ev_app, ev_expr, ev_retS, ev_retF, ev_retO, ev_ifs, ev_nev, ev_B0, ev_B1, ev_nm, ev_tp, ev_ts0, ev_ts1, ev_sub, ev_pm0, ev_pm1, rdV, getS, idxD, atD, DL.ixN, c_eqI, c_neI, c_eqS, c_neS, c_lt, c_le, c_gt, c_ge, c_is, c_isnot, truD, outOf, Cn.d, callA, perm, pickA, owns, avOf, backA, primD, isK, slcD, cutD, sIx, isN, RV.d, putA, itemsD, isOw, atOw, ifOwn, onOwn, pw18, sub_ev, add_ev, mod_ev, mul_sm (.inr sm2), mul_sm (.inl sm3), two_le]
theorem r19 (k : Nat) (a b many : Int) (ha : 0 ≤ a) (hb : 0 ≤ b) (hm : 0 < many) (hm2 : many < 1000000) : ∃ a' b' d : Int, 0 ≤ a' ∧ 0 ≤ b' ∧ 0 ≤ d ∧ d < many ∧ runN fs (k + 1) 19 [.ow [.int a, .int b], .pu (.int many)] = .ok (.pu (.int d)) [.int a', .int b'] := by
  have h3 : many < 1073741824 := by omega
  by_cases h : 0 < a
  · refine ⟨a / many, b, a % many, Int.ediv_nonneg ha (by omega), hb, Int.emod_nonneg _ (by omega), Int.emod_lt_of_pos _ hm, ?_⟩
    show runD (runN fs k) d_law_draw _ = _
    simp [runD, fits, entry, ev_bnd, ev_ret, ev_some, ev_none, ev_cst, ev_var, ev_glb, ev_tup, ev_lst, ev_bin, ev_neg, ev_cmp, ev_chn, ev_nt, ev_an, ev_orr, ev_ite, ev_idx, ev_slc, ev_rev, ev_prim, ev_itm, ev_peek, ev_isi, ev_call, ev_L0, ev_L1, ev_O0, ev_O1, ev_C0, ev_C1, ev_A0, ev_Av, ev_Ar, ev_Af, ev_Iover, ev_Irng, ev_Ienum, ev_Flst, ev_Fcall, ev_asg, ev_asgF, ev_par, ev_app, ev_expr, ev_retS, ev_retF, ev_retO, ev_ifs, ev_nev, ev_B0, ev_B1, ev_nm, ev_tp, ev_ts0, ev_ts1, ev_sub, ev_pm0, ev_pm1, rdV, getS, idxD, atD, DL.ixN, c_eqI, c_neI, c_eqS, c_neS, c_lt, c_le, c_gt, c_ge, c_is, c_isnot, truD, binD, outOf, Cn.d, callA, perm, pickA, owns, avOf, backA, primD, isK, slcD, cutD, sIx, isN, RV.d, putA, itemsD, isOw, atOw, ifOwn, onOwn, d_law_draw, h, hm, h3]
  · refine ⟨a, (b * 40692 + 2711) % 2147483587, ((b * 40692 + 2711) % 2147483587 * ((b * 40692 + 2711) % 2147483587)) % 2147483549 / 17 % many, ha, Int.emod_nonneg _ (by omega), Int.emod_nonneg _ (by omega), Int.emod_lt_of_pos _ hm, ?_⟩
    have hs : small64 ((b * 40692 + 2711) % 2147483587) = true := by
      have h1 := Int.emod_nonneg (b * 40692 + 2711) (show (2147483587 : Int) ≠ 0 by decide)
      have h2 := Int.emod_lt_of_pos (b * 40692 + 2711) (show (0 : Int) < 2147483587 by decide)
      unfold small64
      rw [decide_eq_true (by omega), decide_eq_true (by omega)]
      rfl
    have hs2 : small64 40692 = true := by decide
    show runD (runN fs k) d_law_draw _ = _
    simp [runD, fits, entry, ev_bnd, ev_ret, ev_some, ev_none, ev_cst, ev_var, ev_glb, ev_tup, ev_lst, ev_bin, ev_neg, ev_cmp, ev_chn, ev_nt, ev_an, ev_orr, ev_ite, ev_idx, ev_slc, ev_rev, ev_prim, ev_itm, ev_peek, ev_isi, ev_call, ev_L0, ev_L1, ev_O0, ev_O1, ev_C0, ev_C1, ev_A0, ev_Av, ev_Ar, ev_Af, ev_Iover, ev_Irng, ev_Ienum, ev_Flst, ev_Fcall, ev_asg, ev_asgF, ev_par, ev_app, ev_expr, ev_retS, ev_retF, ev_retO, ev_ifs, ev_nev, ev_B0, ev_B1, ev_nm, ev_tp, ev_ts0, ev_ts1, ev_sub, ev_pm0, ev_pm1, rdV, getS, idxD, atD, DL.ixN, c_eqI, c_neI, c_eqS, c_neS, c_lt, c_le, c_gt, c_ge, c_is, c_isnot, truD, binD, outOf, Cn.d, callA, perm, pickA, owns, avOf, backA, primD, isK, slcD, cutD, sIx, isN, RV.d, putA, itemsD, isOw, atOw, ifOwn, onOwn, d_law_draw, h, hm, h3, hs, hs2]
theorem r20 (k : Nat) (a b : Int) (xs : List PyData) (ha : 0 ≤ a) (hb : 0 ≤ b) (h0 : xs ≠ []) (hl : xs.length < 1000000) : ∃ (a' b' : Int) (x : PyData), 0 ≤ a' ∧ 0 ≤ b' ∧ x ∈ xs ∧ runN fs (k + 2) 20 [.ow [.int a, .int b], .pu (.list xs)] = .ok (.pu x) [.int a', .int b'] := by
  have hpos : 0 < xs.length := List.length_pos_iff.mpr h0
  obtain ⟨a', b', d, h1, h2, h3, h4, e⟩ := r19 k a b xs.length ha hb (by omega) (by omega)
  have hd : d.toNat < xs.length := by omega
  have hx : xs[d.toNat]? = some xs[d.toNat] := List.getElem?_eq_getElem hd
  refine ⟨a', b', xs[d.toNat], h1, h2, List.getElem_mem hd, ?_⟩
  show runD (runN fs (k + 1)) d_law_pick _ = _
  simp [runD, fits, entry, ev_bnd, ev_ret, ev_some, ev_none, ev_cst, ev_var, ev_glb, ev_tup, ev_lst, ev_bin, ev_neg, ev_cmp, ev_chn, ev_nt, ev_an, ev_orr, ev_ite, ev_idx, ev_slc, ev_rev, ev_prim, ev_itm, ev_peek, ev_isi, ev_call, ev_L0, ev_L1, ev_O0, ev_O1, ev_C0, ev_C1, ev_A0, ev_Av, ev_Ar, ev_Af, ev_Iover, ev_Irng, ev_Ienum, ev_Flst, ev_Fcall, ev_asg, ev_asgF, ev_par, ev_app, ev_expr, ev_retS, ev_retF, ev_retO, ev_ifs, ev_nev, ev_B0, ev_B1, ev_nm, ev_tp, ev_ts0, ev_ts1, ev_sub, ev_pm0, ev_pm1, rdV, getS, idxD, atD, DL.ixN, c_eqI, c_neI, c_eqS, c_neS, c_lt, c_le, c_gt, c_ge, c_is, c_isnot, truD, binD, outOf, Cn.d, callA, perm, pickA, owns, avOf, backA, primD, isK, slcD, cutD, sIx, isN, RV.d, putA, itemsD, isOw, atOw, ifOwn, onOwn, d_law_pick, e, h3, h4, hx]
end K28
end
section
set_option maxHeartbeats 4000000
set_option maxRecDepth 100000
namespace K28
open PySem DL
structure Fd.Sm (f : Fd) : Prop where
  l : f.l ≤ 60
  e : f.e ≤ 60
  m : f.m ≤ 60
  c : f.c ≤ 10
  t : f.t ≤ 200
theorem six_le : (6 : Nat) ≤ sizeLine := by rw [sizeLine]; omega
theorem way_of {x : PyData} (h : x ∈ [PyData.str "blind", .str "news"]) : ∃ b, x = .str (way b) := by
  simp only [List.mem_cons, List.not_mem_nil, or_false] at h
  rcases h with rfl | rfl
  · exact ⟨true, rfl⟩
  · exact ⟨false, rfl⟩
theorem max_ev {i j : Int} : primD .max [.int i, .int j] = some (.int (if j > i then j else i)) := rfl
theorem r21 (k : Nat) (a b : Int) (ha : 0 ≤ a) (hb : 0 ≤ b) : ∃ (a' b' : Int) (f : Fd), 0 ≤ a' ∧ 0 ≤ b' ∧ f.Ok ∧ f.Sm ∧ runN fs (k + 3) 21 [.ow [.int a, .int b]] = .ok (.pu f.d) [.int a', .int b'] := by
  obtain ⟨a1, b1, d1, ha1, hb1, l1, u1, e1⟩ := r19 (k + 1) a b 9 ha hb (by omega) (by omega)
  obtain ⟨a2, b2, d2, ha2, hb2, l2, u2, e2⟩ := r19 (k + 1) a1 b1 5 ha1 hb1 (by omega) (by omega)
  obtain ⟨a3, b3, d3, ha3, hb3, l3, u3, e3⟩ := r19 (k + 1) a2 b2 30 ha2 hb2 (by omega) (by omega)
  obtain ⟨a4, b4, x4, ha4, hb4, m4, e4⟩ := r20 k a3 b3 [.int 0, .int 0, .int 1, .int 2, .int 5, .int 9] ha3 hb3 (by simp) (by simp)
  obtain ⟨n4, rfl, g4, v4⟩ : ∃ n, x4 = .int n ∧ 0 ≤ n ∧ n ≤ 9 := by
    simp only [List.mem_cons, List.not_mem_nil, or_false] at m4
    rcases m4 with rfl | rfl | rfl | rfl | rfl | rfl <;> exact ⟨_, rfl, by omega, by omega⟩
  obtain ⟨a5, b5, d5, ha5, hb5, l5, u5, e5⟩ := r19 (k + 1) a4 b4 40 ha4 hb4 (by omega) (by omega)
  obtain ⟨a6, b6, x6, ha6, hb6, m6, e6⟩ := r20 k a5 b5 [.int 0, .int (-1), .int 1, .int 4, .int (-4), .int (d5 - 20)] ha5 hb5 (by simp) (by simp)
  obtain ⟨n6, rfl, g6⟩ : ∃ n, x6 = .int n ∧ n ≤ 20 := by
    simp only [List.mem_cons, List.not_mem_nil, or_false] at m6
    rcases m6 with rfl | rfl | rfl | rfl | rfl | rfl <;> exact ⟨_, rfl, by omega⟩
  obtain ⟨a7, b7, x7, ha7, hb7, m7, e7⟩ := r20 k a6 b6 [.str "blind", .str "news"] ha6 hb6 (by simp) (by simp)
  obtain ⟨w, rfl⟩ := way_of m7
  refine ⟨a7, b7, ⟨d3, d3 + (1 + d1) + n4, 1 + d1, d2, if d3 + (1 + d1) + n4 + d2 + n6 > 0 then d3 + (1 + d1) + n4 + d2 + n6 else 0, w⟩, ha7, hb7, ⟨l3, by show 1 ≤ 1 + d1; omega, by show d3 + (1 + d1) ≤ d3 + (1 + d1) + n4; omega, l2, by show 0 ≤ ite _ _ _; split <;> omega⟩, ⟨by show d3 ≤ 60; omega, by show d3 + (1 + d1) + n4 ≤ 60; omega, by show 1 + d1 ≤ 60; omega, by show d2 ≤ 10; omega, by show ite _ _ _ ≤ 200; split <;> omega⟩, ?_⟩
  show runD (runN fs (k + 2)) d_law_feed _ = _
  simp [runD, fits, entry, ev_bnd, ev_ret, ev_some, ev_none, ev_cst, ev_var, ev_glb, ev_tup, ev_lst, ev_bin, ev_neg, ev_cmp, ev_chn, ev_nt, ev_an, ev_orr, ev_ite, ev_idx, ev_slc, ev_rev, ev_prim, ev_itm, ev_peek, ev_isi, ev_call, ev_L0, ev_L1, ev_O0, ev_O1, ev_C0, ev_C1, ev_A0, ev_Av, ev_Ar, ev_Af, ev_Iover, ev_Irng, ev_Ienum, ev_Flst, ev_Fcall, ev_asg, ev_asgF, ev_par, ev_app, ev_expr, ev_retS, ev_retF, ev_retO, ev_ifs, ev_nev, ev_B0, ev_B1, ev_nm, ev_tp, ev_ts0, ev_ts1, ev_sub, ev_pm0, ev_pm1, rdV, getS, idxD, atD, DL.ixN, c_eqI, c_neI, c_eqS, c_neS, c_lt, c_le, c_gt, c_ge, c_is, c_isnot, truD, binD, outOf, Cn.d, callA, perm, pickA, owns, avOf, backA, primD, isK, slcD, cutD, sIx, isN, RV.d, putA, itemsD, isOw, atOw, ifOwn, onOwn, d_law_feed, e1, e2, e3, e4, e5, e6, e7, six_le, two_le, Fd.d, fd]
end K28
end
section
set_option maxHeartbeats 4000000
set_option maxRecDepth 100000
namespace K28
open PySem DL
/-! ### lists that are shown, compared -/
mutual
theorem ok_lay : ∀ d : PyData, okD d = true → d.canLay0 = true
  | .none, _ => rfl
  | .bool _, _ => rfl
  | .int _, _ => rfl
  | .str x, h => by
    have h := (Bool.and_eq_true_iff.mp h).2
    simp only [PyData.canLay0, PyData.strOk]
    rw [Array.all_eq_true_iff_forall_mem]
    intro c hc
    have := List.all_eq_true.mp h c (Array.mem_toList_iff.mpr hc)
    simpa using this
  | .list xs, h => by
    simp only [PyData.canLay0]
    exact ok_lays xs h
  | .tuple xs, h => by
    simp only [PyData.canLay0]
    exact ok_lays xs h
  | .dict _, h => by cases h
theorem ok_lays : ∀ xs : List PyData, okAll xs = true → PyData.canLayAll0 xs = true
  | [], _ => rfl
  | x :: xs, h => by
    obtain ⟨h1, h2⟩ := Bool.and_eq_true_iff.mp (show (okD x && okAll xs) = true from h)
    simp only [PyData.canLayAll0, ok_lay x h1, ok_lays xs h2]
    rfl
end
theorem ne_self {x : List PyData} (h : okD (.list x) = true) (hd : (PyData.list x).depth ≤ 64) : cmpD .ne (.list x) (.list x) = some (.bool false) := by
  have h1 : SeqAt.shaped (.list x) = true := by
    unfold SeqAt.shaped
    rw [ok_lay _ h, decide_eq_true hd]; rfl
  show (if (SeqAt.shaped (.list x) && SeqAt.shaped (.list x)) = true then some (PyData.bool (!PyData.eqv (.list x) (.list x))) else none) = _
  rw [h1, SeqAt.eqv_refl _ (ok_lay _ h)]
  rfl
/-- small ints, bools: lists of them may be shown -/
theorem flat_show {xs : List PyData} (h : ∀ x ∈ xs, okD x = true ∧ x.depth = 0 ∧ cnt x = 1) (hl : xs.length ≤ 3000) : okD (.list xs) = true ∧ (PyData.list xs).depth ≤ 64 ∧ showOk (.list xs) = true := by
  have h1 : okD (.list xs) = true := okAll_of fun x hx => (h x hx).1
  have h2 : (PyData.list xs).depth ≤ 64 := by
    have := depthAll_le (n := 0) (xs := xs) fun x hx => by rw [(h x hx).2.1]; exact Nat.le_refl _
    simp only [PyData.depth]
    omega
  have h3 : cnt (.list xs) ≤ 4000 := by
    have := cntAll_le (n := 1) (xs := xs) fun x hx => by rw [(h x hx).2.2]; exact Nat.le_refl _
    simp only [cnt]
    omega
  exact ⟨h1, h2, show_ok h1 h2 h3⟩
theorem repr_list {xs : List PyData} (h : showOk (.list xs) = true) : primD .repr [.list xs] = some (.str (PyData.list xs).shown) := by
  show (if showOk (.list xs) = true then some (PyData.str (PyData.list xs).shown) else none) = _
  rw [if_pos h]
theorem rng80 : rngL 0 80 = (List.range 80).map fun i : Nat => PyData.int (i : Int) := by
  unfold rngL
  simp
theorem rng_in {n : Int} (h1 : 0 ≤ n) (h2 : n ≤ 100) : -(2 ^ 62) ≤ n ∧ n < 2 ^ 62 := by
  have e : (2 : Int) ^ 62 = 4611686018427387904 := by rfl
  rw [e]
  omega
theorem ev_rngC {G : Fns} {r : Evn} {n : Int} (h1 : 0 ≤ n) (h2 : n ≤ 100) : denI G (.rng (.cst (.int n))) r = .ok (rngL 0 n) r := by
  show (if -(2 ^ 62) ≤ n ∧ n < 2 ^ 62 then DL.ret (rngL 0 n) else fun _ => .bad) r = _
  rw [if_pos (rng_in h1 h2)]
  rfl
theorem rngN (n : Nat) : rngL 0 (n : Int) = (List.range n).map fun j : Nat => PyData.int (j : Int) := by
  unfold rngL
  rw [Int.sub_zero, Int.toNat_natCast]
  refine List.map_congr_left fun j _ => ?_
  rw [Int.zero_add]
theorem sz_in {n : Nat} (h : n ≤ 100) : n ≤ sizeLine := Nat.le_trans h (by rw [sizeLine]; decide)
/-- a comprehension over a range -/
theorem comp_rng {G : Fns} {r : Evn} {i : Nat} {E : Ex} (n : Nat) (hn : n ≤ 100) (g : Nat → PyData) (hno : noOw r [i] = true) (h : ∀ j : Nat, j < n → ∃ r2, stepC [i] (.nm i) (denC G none) (den G E) (.int (j : Int)) r = .ok (some (g j)) r2 ∧ wipeE r2 [i] = wipeE r [i]) :
    den G (.comp (.nm i) (.rng (.cst (.int (n : Int)))) none E [i]) r = .ok (.list ((List.range n).map g)) r := by
  refine ev_comp (r1 := r) (xs := (List.range n).map fun j : Nat => PyData.int (j : Int)) ?_ ?_
  · rw [ev_rngC (by omega) (by omega), rngN]
  · have := comp_gen (own := [i]) (tg := .nm i) (cc := denC G none) (ee := den G E) (fun j : Nat => PyData.int (j : Int)) (r := r) (List.range n) (fun j => some (g j)) hno (by rw [List.length_range]; exact sz_in hn) fun j hj => h j (List.mem_range.mp hj)
    rw [fm_some] at this
    exact this
end K28
end
section
set_option maxHeartbeats 4000000
set_option maxRecDepth 100000
namespace K28
open PySem DL
def LA (f : Fd) : List PyData := (List.range 80).map fun j : Nat => PyData.bool (f.a j)
def LS (f : Fd) : List PyData := (List.range 80).map fun j : Nat => PyData.int (soonI f.l f.e f.m f.c j)
def LM (f : Fd) : List PyData := (List.range 80).map fun j : Nat => PyData.bool (decide (f.e + f.c ≤ (j : Int)))
theorem q_nn (f : Fd) (h : f.Ok) : 0 ≤ f.q := by
  obtain ⟨h0, h1, h2, h3, h4⟩ := h
  unfold Fd.q quietI minQ maxQ
  repeat' split
  all_goals omega
theorem q_le (f : Fd) (h : f.Ok) (s : f.Sm) : f.q ≤ 70 := by
  obtain ⟨h0, h1, h2, h3, h4⟩ := h
  obtain ⟨s1, s2, s3, s4, s5⟩ := s
  unfold Fd.q quietI minQ maxQ
  repeat' split
  all_goals omega
theorem soon_bd (f : Fd) (h : f.Ok) (s : f.Sm) (j : Nat) (hj : j < 80) : 0 ≤ soonI f.l f.e f.m f.c j ∧ soonI f.l f.e f.m f.c j ≤ 1000 := by
  obtain ⟨h0, h1, h2, h3, h4⟩ := h
  obtain ⟨s1, s2, s3, s4, s5⟩ := s
  unfold soonI
  split <;> omega
theorem okI {i : Int} (h0 : 0 ≤ i) (h1 : i ≤ 1000000) : okD (.int i) = true := by
  show decide (i.natAbs < 10 ^ 30) = true
  rw [decide_eq_true]
  have : (1000001 : Nat) ≤ 10 ^ 30 := by decide
  omega
theorem sh_LA (f : Fd) : okD (.list (LA f)) = true ∧ (PyData.list (LA f)).depth ≤ 64 ∧ showOk (.list (LA f)) = true := flat_show (fun x hx => by
  obtain ⟨j, _, rfl⟩ := List.mem_map.mp hx
  exact ⟨rfl, rfl, rfl⟩) (by unfold LA; rw [List.length_map, List.length_range]; omega)
theorem sh_LM (f : Fd) : okD (.list (LM f)) = true ∧ (PyData.list (LM f)).depth ≤ 64 ∧ showOk (.list (LM f)) = true := flat_show (fun x hx => by
  obtain ⟨j, _, rfl⟩ := List.mem_map.mp hx
  exact ⟨rfl, rfl, rfl⟩) (by unfold LM; rw [List.length_map, List.length_range]; omega)
theorem sh_LS (f : Fd) (h : f.Ok) (s : f.Sm) : okD (.list (LS f)) = true ∧ (PyData.list (LS f)).depth ≤ 64 ∧ showOk (.list (LS f)) = true := flat_show (fun x hx => by
  obtain ⟨j, hj, rfl⟩ := List.mem_map.mp hx
  have := soon_bd f h s j (List.mem_range.mp hj)
  exact ⟨okI this.1 (by omega), rfl, rfl⟩) (by unfold LS; rw [List.length_map, List.length_range]; omega)
theorem LS_ints (f : Fd) : LS f = ((List.range 80).map fun j : Nat => soonI f.l f.e f.m f.c j).map .int := by
  unfold LS
  rw [List.map_map]
  rfl
theorem sort_LS (f : Fd) (h : f.Ok) : primD .sorted [.list (LS f)] = some (.list (LS f)) := by
  have hs : ((List.range 80).map fun j : Nat => soonI f.l f.e f.m f.c j).mergeSort (fun a b => decide (a ≤ b)) = (List.range 80).map fun j : Nat => soonI f.l f.e f.m f.c j := by
    refine List.mergeSort_of_pairwise ?_
    rw [List.pairwise_map]
    refine List.Pairwise.imp ?_ (List.pairwise_lt_range (n := 80))
    intro a b hab
    obtain ⟨h0, h1, h2, h3, h4⟩ := h
    simp only [decide_eq_true_eq]
    unfold soonI
    repeat' split
    all_goals omega
  show ((ints? (LS f)).bind fun ns => if ns.length ≤ sizeLine then some (PyData.list ((ns.mergeSort fun a b => decide (a ≤ b)).map .int)) else none) = _
  rw [LS_ints, ints_map]
  simp only [Option.bind_some]
  rw [if_pos (by rw [List.length_map, List.length_range]; exact sz_in (by omega)), hs]
theorem LA_bools (f : Fd) : LA f = ((List.range 80).map fun j : Nat => f.a j).map .bool := by
  unfold LA
  rw [List.map_map]
  rfl
def LAhi (f : Fd) : List PyData := cutD (LA f) (some f.q) none
def LAlo (f : Fd) : List PyData := cutD (LA f) none (some f.q)
theorem slc_hi (f : Fd) : slcD (.list (LA f)) (some f.q) none = some (.list (LAhi f)) := rfl
theorem slc_lo (f : Fd) : slcD (.list (LA f)) none (some f.q) = some (.list (LAlo f)) := rfl
theorem any_hi (f : Fd) (h : f.Ok) (s : f.Sm) : primD .any [.list (LAhi f)] = some (.bool false) := by
  have q0 := q_nn f h
  have q1 := q_le f h s
  have e : LAhi f = (((List.range 80).map fun j : Nat => f.a j).drop f.q.toNat).map .bool := by
    unfold LAhi cutD
    rw [LA_bools, List.length_map, List.length_map, List.length_range]
    have h1 : sIx 80 0 (some f.q) = f.q.toNat := by
      show (if f.q < 0 then _ else min f.q.toNat 80) = _
      rw [if_neg (by omega)]
      omega
    rw [h1]
    show List.take (80 - f.q.toNat) _ = _
    rw [List.map_drop]
    refine List.take_of_length_le ?_
    simp
  show ((bools? (LAhi f)).map fun bs => PyData.bool (bs.any id)) = _
  rw [e, bools_map]
  show some (PyData.bool _) = some (PyData.bool false)
  congr 2
  rw [List.any_eq_false]
  intro x hx
  obtain ⟨i, hi, ex⟩ := List.mem_iff_getElem.mp hx
  rw [List.length_drop, List.length_map, List.length_range] at hi
  rw [List.getElem_drop, List.getElem_map, List.getElem_range] at ex
  rw [← ex, Fd.aq f h (by omega)]
  simp
  omega
theorem all_lo (f : Fd) (h : f.Ok) (s : f.Sm) : primD .all [.list (LAlo f)] = some (.bool true) := by
  have q0 := q_nn f h
  have q1 := q_le f h s
  have e : LAlo f = (((List.range 80).map fun j : Nat => f.a j).take f.q.toNat).map .bool := by
    unfold LAlo cutD
    rw [LA_bools, List.length_map, List.length_map, List.length_range]
    have h1 : sIx 80 80 (some f.q) = f.q.toNat := by
      show (if f.q < 0 then _ else min f.q.toNat 80) = _
      rw [if_neg (by omega)]
      omega
    rw [h1]
    show List.take (f.q.toNat - 0) (List.drop 0 _) = _
    rw [List.drop_zero, Nat.sub_zero, List.map_take]
  show ((bools? (LAlo f)).map fun bs => PyData.bool (bs.all id)) = _
  rw [e, bools_map]
  show some (PyData.bool _) = some (PyData.bool true)
  congr 2
  rw [List.all_eq_true]
  intro x hx
  obtain ⟨i, hi, ex⟩ := List.mem_iff_getElem.mp hx
  rw [List.length_take, List.length_map, List.length_range] at hi
  rw [List.getElem_take, List.getElem_map, List.getElem_range] at ex
  rw [← ex, Fd.aq f h (by omega)]
  simp
  omega
theorem idx_LS (f : Fd) : idxD (.list (LS f)) (.int 7) = some (.int (soonI f.l f.e f.m f.c 7)) := by
  show atD (LS f) 7 = _
  unfold atD DL.ixN LS
  simp
theorem idx_LA (f : Fd) : idxD (.list (LA f)) (.int 7) = some (.bool (f.a 7)) := by
  show atD (LA f) 7 = _
  unfold atD DL.ixN LA
  simp
theorem c_neB {b : Bool} : cmpD .ne (.bool b) (.bool b) = some (.bool false) := by cases b <;> rfl
end K28
end
section
set_option maxHeartbeats 8000000
set_option maxRecDepth 100000
namespace K28
open PySem DL
section
variable (k : Nat) (f : Fd) (h : f.Ok) (s1 s2 s3 s4 : Sl)
include h
theorem cA : den (runN fs (k + 5)) (.comp (.nm 5) (.rng (.cst (.int 80))) none (.call 13 [.val (.var 0), .val (.var 5)] []) [5]) [.pu f.d, s1, s2, s3, s4, .un] = .ok (.list (LA f)) [.pu f.d, s1, s2, s3, s4, .un] :=
  comp_rng 80 (by omega) (fun j => .bool (f.a j)) rfl fun j hj => ⟨[.pu f.d, s1, s2, s3, s4, .pu (.int (j : Int))], by
    have e := r13 k f.l f.e f.m f.c f.t j f.b h.h0 h.h1 h.h2 h.h3 h.h4 (by omega)
    simp only [ev_step, wipeE]; simp [runD, fits, entry, ev_bnd, ev_ret, ev_some, ev_none, ev_cst, ev_var, ev_glb, ev_tup, ev_lst, ev_bin, ev_neg, ev_cmp, ev_chn, ev_nt, ev_an, ev_orr, ev_ite, ev_idx, ev_slc, ev_rev, ev_prim, ev_itm, ev_peek, ev_isi, ev_call, ev_L0, ev_L1, ev_O0, ev_O1, ev_C0, ev_C1, ev_A0, ev_Av, ev_Ar, ev_Af, ev_Iover, ev_Irng, ev_Ienum, ev_Flst, ev_Fcall, ev_asg, ev_asgF, ev_par, ev_app, ev_expr, ev_retS, ev_retF, ev_retO, ev_ifs, ev_nev, ev_B0, ev_B1, ev_nm, ev_tp, ev_ts0, ev_ts1, ev_sub, ev_pm0, ev_pm1, rdV, getS, idxD, atD, DL.ixN, c_eqI, c_neI, c_eqS, c_neS, c_lt, c_le, c_gt, c_ge, c_is, c_isnot, truD, binD, outOf, Cn.d, callA, perm, pickA, owns, avOf, backA, primD, isK, slcD, cutD, sIx, isN, RV.d, putA, itemsD, isOw, atOw, ifOwn, onOwn, Fd.d, e, Fd.a], rfl⟩
theorem cS : den (runN fs (k + 5)) (.comp (.nm 5) (.rng (.cst (.int 80))) none (.call 12 [.val (.var 0), .val (.var 5)] []) [5]) [.pu f.d, s1, s2, s3, s4, .un] = .ok (.list (LS f)) [.pu f.d, s1, s2, s3, s4, .un] :=
  comp_rng 80 (by omega) (fun j => .int (soonI f.l f.e f.m f.c j)) rfl fun j hj => ⟨[.pu f.d, s1, s2, s3, s4, .pu (.int (j : Int))], by
    have e := r12 k f.l f.e f.m f.c f.t j f.b h.h0 h.h1 h.h2 h.h3 h.h4 (by omega)
    simp only [ev_step, wipeE]; simp [runD, fits, entry, ev_bnd, ev_ret, ev_some, ev_none, ev_cst, ev_var, ev_glb, ev_tup, ev_lst, ev_bin, ev_neg, ev_cmp, ev_chn, ev_nt, ev_an, ev_orr, ev_ite, ev_idx, ev_slc, ev_rev, ev_prim, ev_itm, ev_peek, ev_isi, ev_call, ev_L0, ev_L1, ev_O0, ev_O1, ev_C0, ev_C1, ev_A0, ev_Av, ev_Ar, ev_Af, ev_Iover, ev_Irng, ev_Ienum, ev_Flst, ev_Fcall, ev_asg, ev_asgF, ev_par, ev_app, ev_expr, ev_retS, ev_retF, ev_retO, ev_ifs, ev_nev, ev_B0, ev_B1, ev_nm, ev_tp, ev_ts0, ev_ts1, ev_sub, ev_pm0, ev_pm1, rdV, getS, idxD, atD, DL.ixN, c_eqI, c_neI, c_eqS, c_neS, c_lt, c_le, c_gt, c_ge, c_is, c_isnot, truD, binD, outOf, Cn.d, callA, perm, pickA, owns, avOf, backA, primD, isK, slcD, cutD, sIx, isN, RV.d, putA, itemsD, isOw, atOw, ifOwn, onOwn, Fd.d, e], rfl⟩
theorem cM : den (runN fs (k + 5)) (.comp (.nm 5) (.rng (.cst (.int 80))) none (.call 15 [.val (.var 5), .val (.var 0)] [1, 0]) [5]) [.pu f.d, s1, s2, s3, s4, .un] = .ok (.list (LM f)) [.pu f.d, s1, s2, s3, s4, .un] :=
  comp_rng 80 (by omega) (fun j => .bool (decide (f.e + f.c ≤ (j : Int)))) rfl fun j hj => ⟨[.pu f.d, s1, s2, s3, s4, .pu (.int (j : Int))], by
    have e := r15 k f.l f.e f.m f.c f.t j f.b h.h0 h.h1 h.h2 h.h3 h.h4 (by omega)
    simp only [ev_step, wipeE]; simp [runD, fits, entry, ev_bnd, ev_ret, ev_some, ev_none, ev_cst, ev_var, ev_glb, ev_tup, ev_lst, ev_bin, ev_neg, ev_cmp, ev_chn, ev_nt, ev_an, ev_orr, ev_ite, ev_idx, ev_slc, ev_rev, ev_prim, ev_itm, ev_peek, ev_isi, ev_call, ev_L0, ev_L1, ev_O0, ev_O1, ev_C0, ev_C1, ev_A0, ev_Av, ev_Ar, ev_Af, ev_Iover, ev_Irng, ev_Ienum, ev_Flst, ev_Fcall, ev_asg, ev_asgF, ev_par, ev_app, ev_expr, ev_retS, ev_retF, ev_retO, ev_ifs, ev_nev, ev_B0, ev_B1, ev_nm, ev_tp, ev_ts0, ev_ts1, ev_sub, ev_pm0, ev_pm1, rdV, getS, idxD, atD, DL.ixN, c_eqI, c_neI, c_eqS, c_neS, c_lt, c_le, c_gt, c_ge, c_is, c_isnot, truD, binD, outOf, Cn.d, callA, perm, pickA, owns, avOf, backA, primD, isK, slcD, cutD, sIx, isN, RV.d, putA, itemsD, isOw, atOw, ifOwn, onOwn, Fd.d, e], rfl⟩
end
section
variable (k : Nat) (f : Fd) (s1 s2 s3 s4 : Sl)
theorem cA' : den (runN fs (k + 5)) (.comp (.nm 5) (.rng (.cst (.int 80))) none (.call 23 [.val (.var 0), .val (.var 5)] []) [5]) [.pu f.d, s1, s2, s3, s4, .un] = .ok (.list (LA f)) [.pu f.d, s1, s2, s3, s4, .un] :=
  comp_rng 80 (by omega) (fun j => .bool (f.a j)) rfl fun j hj => ⟨[.pu f.d, s1, s2, s3, s4, .pu (.int (j : Int))], by
    have e := r23 (k + 3) f.l f.e f.m f.c f.t j f.b
    simp only [ev_step, wipeE]; simp [runD, fits, entry, ev_bnd, ev_ret, ev_some, ev_none, ev_cst, ev_var, ev_glb, ev_tup, ev_lst, ev_bin, ev_neg, ev_cmp, ev_chn, ev_nt, ev_an, ev_orr, ev_ite, ev_idx, ev_slc, ev_rev, ev_prim, ev_itm, ev_peek, ev_isi, ev_call, ev_L0, ev_L1, ev_O0, ev_O1, ev_C0, ev_C1, ev_A0, ev_Av, ev_Ar, ev_Af, ev_Iover, ev_Irng, ev_Ienum, ev_Flst, ev_Fcall, ev_asg, ev_asgF, ev_par, ev_app, ev_expr, ev_retS, ev_retF, ev_retO, ev_ifs, ev_nev, ev_B0, ev_B1, ev_nm, ev_tp, ev_ts0, ev_ts1, ev_sub, ev_pm0, ev_pm1, rdV, getS, idxD, atD, DL.ixN, c_eqI, c_neI, c_eqS, c_neS, c_lt, c_le, c_gt, c_ge, c_is, c_isnot, truD, binD, outOf, Cn.d, callA, perm, pickA, owns, avOf, backA, primD, isK, slcD, cutD, sIx, isN, RV.d, putA, itemsD, isOw, atOw, ifOwn, onOwn, Fd.d, e, Fd.a], rfl⟩
theorem cS' : den (runN fs (k + 5)) (.comp (.nm 5) (.rng (.cst (.int 80))) none (.call 22 [.val (.var 0), .val (.var 5)] []) [5]) [.pu f.d, s1, s2, s3, s4, .un] = .ok (.list (LS f)) [.pu f.d, s1, s2, s3, s4, .un] :=
  comp_rng 80 (by omega) (fun j => .int (soonI f.l f.e f.m f.c j)) rfl fun j hj => ⟨[.pu f.d, s1, s2, s3, s4, .pu (.int (j : Int))], by
    have e := r22 (k + 4) f.l f.e f.m f.c f.t j f.b
    simp only [ev_step, wipeE]; simp [runD, fits, entry, ev_bnd, ev_ret, ev_some, ev_none, ev_cst, ev_var, ev_glb, ev_tup, ev_lst, ev_bin, ev_neg, ev_cmp, ev_chn, ev_nt, ev_an, ev_orr, ev_ite, ev_idx, ev_slc, ev_rev, ev_prim, ev_itm, ev_peek, ev_isi, ev_call, ev_L0, ev_L1, ev_O0, ev_O1, ev_C0, ev_C1, ev_A0, ev_Av, ev_Ar, ev_Af, ev_Iover, ev_Irng, ev_Ienum, ev_Flst, ev_Fcall, ev_asg, ev_asgF, ev_par, ev_app, ev_expr, ev_retS, ev_retF, ev_retO, ev_ifs, ev_nev, ev_B0, ev_B1, ev_nm, ev_tp, ev_ts0, ev_ts1, ev_sub, ev_pm0, ev_pm1, rdV, getS, idxD, atD, DL.ixN, c_eqI, c_neI, c_eqS, c_neS, c_lt, c_le, c_gt, c_ge, c_is, c_isnot, truD, binD, outOf, Cn.d, callA, perm, pickA, owns, avOf, backA, primD, isK, slcD, cutD, sIx, isN, RV.d, putA, itemsD, isOw, atOw, ifOwn, onOwn, Fd.d, e], rfl⟩
theorem cM' : den (runN fs (k + 5)) (.comp (.nm 5) (.rng (.cst (.int 80))) none (.cmp .le (.bin .add (.idx (.var 0) (.cst (.int 1))) (.idx (.var 0) (.cst (.int 3)))) (.var 5)) [5]) [.pu f.d, s1, s2, s3, s4, .un] = .ok (.list (LM f)) [.pu f.d, s1, s2, s3, s4, .un] :=
  comp_rng 80 (by omega) (fun j => .bool (decide (f.e + f.c ≤ (j : Int)))) rfl fun j hj => ⟨[.pu f.d, s1, s2, s3, s4, .pu (.int (j : Int))], by
    simp only [ev_step, wipeE]; simp [runD, fits, entry, ev_bnd, ev_ret, ev_some, ev_none, ev_cst, ev_var, ev_glb, ev_tup, ev_lst, ev_bin, ev_neg, ev_cmp, ev_chn, ev_nt, ev_an, ev_orr, ev_ite, ev_idx, ev_slc, ev_rev, ev_prim, ev_itm, ev_peek, ev_isi, ev_call, ev_L0, ev_L1, ev_O0, ev_O1, ev_C0, ev_C1, ev_A0, ev_Av, ev_Ar, ev_Af, ev_Iover, ev_Irng, ev_Ienum, ev_Flst, ev_Fcall, ev_asg, ev_asgF, ev_par, ev_app, ev_expr, ev_retS, ev_retF, ev_retO, ev_ifs, ev_nev, ev_B0, ev_B1, ev_nm, ev_tp, ev_ts0, ev_ts1, ev_sub, ev_pm0, ev_pm1, rdV, getS, idxD, atD, DL.ixN, c_eqI, c_neI, c_eqS, c_neS, c_lt, c_le, c_gt, c_ge, c_is, c_isnot, truD, binD, outOf, Cn.d, callA, perm, pickA, owns, avOf, backA, primD, isK, slcD, cutD, sIx, isN, RV.d, putA, itemsD, isOw, atOw, ifOwn, onOwn, Fd.d, fd], rfl⟩
end
theorem due_one (f : Fd) (h : f.Ok) : due 0 [f] = f.q := by
  have := q_nn f h
  show maxI 0 [f.q] = f.q
  unfold maxI
  show maxI _ [] = _
  unfold maxI
  split <;> omega
theorem one_le : (1 : Nat) ≤ sizeLine := by rw [sizeLine]; omega
theorem three_le : (3 : Nat) ≤ sizeLine := by rw [sizeLine]; omega
theorem r25 (k : Nat) (f : Fd) (h : f.Ok) (s : f.Sm) : runN fs (k + 6) 25 [.pu f.d] = .ok (.pu (.bool true)) [] := by
  have q0 := q_nn f h
  have q1 := q_le f h s
  have hA := cA k f h
  have hS := cS k f h
  have hM := cM k f h
  have hA' := cA' k f
  have hS' := cS' k f
  have hM' := cM' k f
  have sA := (sh_LA f).2.2
  have sS := (sh_LS f h s).2.2
  have sM := (sh_LM f).2.2
  have h24 : runN fs (k + 5) 24 [.pu (.int 0), .pu (.list [f.d])] = .ok (.pu (.int f.q)) [] := by
    have := r24 (k + 2) 0 [f] (by omega) (by simp) (fun g hg => by rw [List.mem_singleton.mp hg]; exact h) (by rw [due_one f h]; omega)
    rw [due_one f h] at this
    exact this
  have h14 : runN fs (k + 5) 14 [.pu f.d] = .ok (.pu (.int f.q)) [] := r14 k f.l f.e f.m f.c f.t f.b h.h0 h.h1 h.h2 h.h3 h.h4
  have h3 : runN fs (k + 5) 3 [.pu f.d] = .ok (.pu (.bool true)) [] := r3 (k + 2) f.l f.e f.m f.c f.t f.b h.h0 h.h1 h.h2 h.h3 h.h4
  have h12 : runN fs (k + 5) 12 [.pu f.d, .pu (.int 7)] = .ok (.pu (.int (soonI f.l f.e f.m f.c 7))) [] := r12 k f.l f.e f.m f.c f.t 7 f.b h.h0 h.h1 h.h2 h.h3 h.h4 (by omega)
  have h13 : runN fs (k + 5) 13 [.pu f.d, .pu (.int 7)] = .ok (.pu (.bool (f.a 7))) [] := r13 k f.l f.e f.m f.c f.t 7 f.b h.h0 h.h1 h.h2 h.h3 h.h4 (by omega)
  have sQ : showOk (.list [.int f.q, .int f.q, .bool true]) = true := (flat_show (xs := [.int f.q, .int f.q, .bool true]) (fun x hx => by
    simp only [List.mem_cons, List.not_mem_nil, or_false] at hx
    rcases hx with rfl | rfl | rfl
    · exact ⟨okI q0 (by omega), rfl, rfl⟩
    · exact ⟨okI q0 (by omega), rfl, rfl⟩
    · exact ⟨rfl, rfl, rfl⟩) (by simp)).2.2
  have nS := ne_self (sh_LS f h s).1 (sh_LS f h s).2.1
  have e1 := any_hi f h s
  have e2 := all_lo f h s
  generalize hd : f.d = F at *
  show runD (runN fs (k + 5)) d_law_feed_right _ = _
  simp [runD, fits, entry, ev_bnd, ev_ret, ev_some, ev_none, ev_cst, ev_var, ev_glb, ev_tup, ev_lst, ev_bin, ev_neg, ev_cmp, ev_chn, ev_nt, ev_an, ev_orr, ev_ite, ev_idx, ev_slc, ev_rev, ev_prim, ev_itm, ev_peek, ev_isi, ev_call, ev_L0, ev_L1, ev_O0, ev_O1, ev_C0, ev_C1, ev_A0, ev_Av, ev_Ar, ev_Af, ev_Iover, ev_Irng, ev_Ienum, ev_Flst, ev_Fcall, ev_asg, ev_asgF, ev_par, ev_app, ev_expr, ev_retS, ev_retF, ev_retO, ev_ifs, ev_nev, ev_B0, ev_B1, ev_nm, ev_tp, ev_ts0, ev_ts1, ev_sub, ev_pm0, ev_pm1, rdV, getS, DL.ixN, c_eqI, c_neI, c_eqS, c_neS, c_lt, c_le, c_gt, c_ge, c_is, c_isnot, truD, binD, outOf, Cn.d, callA, perm, pickA, owns, avOf, backA, isK, isN, RV.d, putA, itemsD, isOw, atOw, ifOwn, onOwn, d_law_feed_right, hA, hS, hM, hA', hS', hM', repr_list sA, repr_list sS, repr_list sM, repr_list sQ, h24, h14, h3, h12, h13, nS, sort_LS f h, slc_hi, slc_lo, e1, e2, idx_LS, idx_LA, c_neB, one_le, three_le]
end K28
end
section
set_option maxHeartbeats 8000000
set_option maxRecDepth 100000
namespace K28
open PySem DL
def shift (n : Int) (f : Fd) : Fd := ⟨f.l + n, f.e + n, f.m, f.c, f.t + n, f.b⟩
theorem shift_q (n p : Int) (f : Fd) (hp : 0 ≤ p) (hn : 0 ≤ n) : (p + n < (shift n f).q ↔ p < f.q) ∧ (p < f.q → (shift n f).q = f.q + n) := by
  unfold Fd.q quietI minQ maxQ shift
  cases f.b
  · simp only [Bool.false_eq_true, if_false]
    repeat' split
    all_goals (first | omega | (constructor <;> omega))
  · simp only [if_true]
    repeat' split
    all_goals (first | omega | (constructor <;> omega))
theorem shift_ok (n : Int) (f : Fd) (hn : 0 ≤ n) (h : f.Ok) : (shift n f).Ok := by
  obtain ⟨h0, h1, h2, h3, h4⟩ := h
  exact ⟨by show 0 ≤ f.l + n; omega, h1, by show f.l + n + f.m ≤ f.e + n; omega, h3, by show 0 ≤ f.t + n; omega⟩
theorem due_shift (n p : Int) (fds : List Fd) (hp : 0 ≤ p) (hn : 0 ≤ n) : due (p + n) (fds.map (shift n)) = due p fds + n := by
  apply Int.le_antisymm
  · rcases due_at (p + n) (fds.map (shift n)) with e | ⟨g, hg, e⟩
    · have := due_ge p fds; omega
    · obtain ⟨f, hf, rfl⟩ := List.mem_map.mp hg
      obtain ⟨q1, q2⟩ := shift_q n p f hp hn
      have h1 := due_ge p fds
      have h2 := due_q p hf
      by_cases c : p < f.q
      · have := q2 c; omega
      · have : ¬ (p + n < (shift n f).q) := fun z => c (q1.mp z)
        omega
  · rcases due_at p fds with e | ⟨f, hf, e⟩
    · have := due_ge (p + n) (fds.map (shift n)); omega
    · obtain ⟨q1, q2⟩ := shift_q n p f hp hn
      have h1 := due_ge (p + n) (fds.map (shift n))
      have h2 := due_q (p + n) (List.mem_map_of_mem (f := shift n) hf)
      by_cases c : p < f.q
      · have := q2 c; omega
      · omega
theorem due_rev (p : Int) (fds : List Fd) : due p fds.reverse = due p fds := by
  apply Int.le_antisymm
  · rcases due_at p fds.reverse with e | ⟨f, hf, e⟩
    · have := due_ge p fds; omega
    · have := due_q p (List.mem_reverse.mp hf); omega
  · rcases due_at p fds with e | ⟨f, hf, e⟩
    · have := due_ge p fds.reverse; omega
    · have := due_q p (List.mem_reverse.mpr hf); omega
theorem due_due (p : Int) (fds : List Fd) : due (due p fds) fds = due p fds := by
  apply Int.le_antisymm
  · rcases due_at (due p fds) fds with e | ⟨f, hf, e⟩
    · omega
    · have := due_q p hf; omega
  · exact due_ge _ _
theorem num_map {α β : Type} (g : α → β) : ∀ (n : Nat) (l : List α), numFrom n (l.map g) = (numFrom n l).map fun x => (x.1, g x.2)
  | _, [] => rfl
  | n, a :: l => by simp [numFrom, num_map g (n + 1) l]
theorem num_lt {α : Type} {x : Nat × α} : ∀ {n : Nat} {l : List α}, x ∈ numFrom n l → x.1 < n + l.length
  | n, a :: l, h => by
    rcases List.mem_cons.mp (show x ∈ (n, a) :: numFrom (n + 1) l from h) with rfl | h
    · simp
    · have := num_lt h
      simp only [List.length_cons]
      omega
theorem fm_congr {α β : Type} {f g : α → Option β} (h : ∀ x, f x = g x) (l : List α) : l.filterMap f = l.filterMap g := by rw [funext h]
theorem lost_shift (n p : Int) (fds : List Fd) (hp : 0 ≤ p) (hn : 0 ≤ n) (D : Int) : lost (p + n) (D + n) (fds.map (shift n)) = lost p D fds := by
  unfold lost
  rw [num_map, List.filterMap_map]
  refine fm_congr (fun x => ?_) _
  show (if (decide (p + n < (shift n x.2).q) && !decide ((shift n x.2).e + (shift n x.2).c ≤ D + n)) = true then some (PyData.int (x.1 : Nat)) else none) = _
  have e1 : decide (p + n < (shift n x.2).q) = decide (p < x.2.q) := by
    rw [Bool.eq_iff_iff, decide_eq_true_eq, decide_eq_true_eq]
    exact (shift_q n p x.2 hp hn).1
  have e2 : decide ((shift n x.2).e + (shift n x.2).c ≤ D + n) = decide (x.2.e + x.2.c ≤ D) := by
    rw [Bool.eq_iff_iff, decide_eq_true_eq, decide_eq_true_eq]
    show x.2.e + n + x.2.c ≤ D + n ↔ _
    omega
  rw [e1, e2]
theorem lost_mem {p D : Int} {fds : List Fd} {x : PyData} (h : x ∈ lost p D fds) : ∃ i : Nat, x = .int (i : Int) ∧ i < fds.length := by
  unfold lost at h
  obtain ⟨y, hy, e⟩ := List.mem_filterMap.mp h
  split at e
  · cases e
    have := num_lt hy
    exact ⟨y.1, rfl, by omega⟩
  · cases e
theorem lost_len (p D : Int) (fds : List Fd) : (lost p D fds).length ≤ fds.length := by
  have := List.length_filterMap_le (fun x : Nat × Fd => if (decide (p < x.2.q) && !decide (x.2.e + x.2.c ≤ D)) = true then some (PyData.int (x.1 : Nat)) else none) (numFrom 0 fds)
  rw [numFrom_len] at this
  exact this
theorem sh_lost (p D : Int) (fds : List Fd) (hl : fds.length ≤ 24) : okD (.list (lost p D fds)) = true ∧ (PyData.list (lost p D fds)).depth ≤ 1 ∧ cnt (.list (lost p D fds)) ≤ 30 ∧ showOk (.list (lost p D fds)) = true := by
  have hx : ∀ x ∈ lost p D fds, okD x = true ∧ x.depth = 0 ∧ cnt x = 1 := fun x hx => by
    obtain ⟨i, rfl, hi⟩ := lost_mem hx
    exact ⟨okI (by omega) (by omega), rfl, rfl⟩
  have hlen := lost_len p D fds
  have := flat_show hx (by omega)
  refine ⟨this.1, ?_, ?_, this.2.2⟩
  · have := depthAll_le (n := 0) (xs := lost p D fds) fun x h => by rw [(hx x h).2.1]; exact Nat.le_refl _
    simp only [PyData.depth]
    omega
  · have := cntAll_le (n := 1) (xs := lost p D fds) fun x h => by rw [(hx x h).2.2]; exact Nat.le_refl _
    simp only [cnt]
    omega
theorem ok_way (b : Bool) : okD (.str (way b)) = true := by cases b <;> decide +kernel
theorem sh_fds (fds : List Fd) (hl : fds.length ≤ 24) (ho : ∀ f ∈ fds, f.Ok) (hs : ∀ f ∈ fds, f.Sm) : showOk (.list (fds.map Fd.d)) = true := by
  have one : ∀ x ∈ fds.map Fd.d, okD x = true ∧ x.depth = 1 ∧ cnt x = 7 := fun x hx => by
    obtain ⟨f, hf, rfl⟩ := List.mem_map.mp hx
    obtain ⟨h0, h1, h2, h3, h4⟩ := ho f hf
    obtain ⟨s1, s2, s3, s4, s5⟩ := hs f hf
    refine ⟨?_, ?_, rfl⟩
    · show (okD (.int f.l) && (okD (.int f.e) && (okD (.int f.m) && (okD (.int f.c) && (okD (.int f.t) && (okD (.str (way f.b)) && true)))))) = true
      rw [okI h0 (by omega), okI (i := f.e) (by omega) (by omega), okI (i := f.m) (by omega) (by omega), okI h3 (by omega), okI h4 (by omega), ok_way]
      rfl
    · simp [Fd.d, fd, PyData.depth, PyData.depthAll]
  refine show_ok (okAll_of fun x hx => (one x hx).1) ?_ ?_
  · have := depthAll_le (n := 1) (xs := fds.map Fd.d) fun x h => by rw [(one x h).2.1]; exact Nat.le_refl _
    simp only [PyData.depth]
    omega
  · have := cntAll_le (n := 7) (xs := fds.map Fd.d) fun x h => by rw [(one x h).2.2]; exact Nat.le_refl _
    rw [List.length_map] at this
    simp only [cnt]
    omega
theorem due_le (p : Int) (fds : List Fd) (ho : ∀ f ∈ fds, f.Ok) (hs : ∀ f ∈ fds, f.Sm) (hp : p ≤ 70) : due p fds ≤ 70 := by
  rcases due_at p fds with e | ⟨f, hf, e⟩
  · omega
  · have := q_le f (ho f hf) (hs f hf); omega
theorem pw25 : binD .pow (.int 10) (.int 25) = some (.int 10000000000000000000000000) := by
  show (if ((0 : Int) ≤ 25 ∧ (25 : Int) ≤ 1000000) ∧ (10 : Int).natAbs < 2 ^ 64 then some (PyData.int ((10 : Int) ^ (25 : Int).toNat)) else none) = _
  rw [if_pos (by decide)]
  rfl
theorem okB {i : Int} (h0 : 0 ≤ i) (h1 : i ≤ 20000000000000000000000000) : okD (.int i) = true := by
  show decide (i.natAbs < 10 ^ 30) = true
  rw [decide_eq_true]
  have e : (10 : Nat) ^ 30 = 1000000000000000000000000000000 := by decide
  omega
end K28
end
section
set_option maxHeartbeats 8000000
set_option maxRecDepth 100000
namespace K28
open PySem DL
theorem r26 (k : Nat) (a b p : Int) (fds : List Fd) (ha : 0 ≤ a) (hb : 0 ≤ b) (hp : 0 ≤ p) (hp2 : p ≤ 60) (hl : fds.length ≤ 24) (ho : ∀ f ∈ fds, f.Ok) (hs : ∀ f ∈ fds, f.Sm) :
    ∃ a' b' : Int, 0 ≤ a' ∧ 0 ≤ b' ∧ runN fs (k + 6) 26 [.ow [.int a, .int b], .pu (.list (fds.map Fd.d)), .pu (.int p)] = .ok (.pu (.bool true)) [.int a', .int b'] := by
  obtain ⟨a', b', x, ha', hb', hx, e20⟩ := r20 (k + 3) a b [.int 1, .int 60, .int 1440, .int 10000000000000000000000000] ha hb (by simp) (by simp)
  obtain ⟨n, rfl, n0, n1⟩ : ∃ n, x = .int n ∧ 0 ≤ n ∧ n ≤ 10000000000000000000000000 := by
    simp only [List.mem_cons, List.not_mem_nil, or_false] at hx
    rcases hx with rfl | rfl | rfl | rfl <;> exact ⟨_, rfl, by omega, by omega⟩
  refine ⟨a', b', ha', hb', ?_⟩
  have hD := due_ge p fds
  have hD2 := due_le p fds ho hs (by omega)
  have sF := sh_fds fds hl ho hs
  have sL := sh_lost p (due p fds) fds hl
  have e24 : runN fs (k + 5) 24 [.pu (.int p), .pu (.list (fds.map Fd.d))] = .ok (.pu (.int (due p fds))) [] := r24 (k + 2) p fds hp (by omega) ho (by omega)
  have e16 : runN fs (k + 5) 16 [.pu (.int p), .pu (.list (fds.map Fd.d))] = .ok (.pu (.int (due p fds))) [] := r16 k p false fds hp hl ho
  have e16r : runN fs (k + 5) 16 [.pu (.int p), .pu (.tuple (fds.map Fd.d).reverse)] = .ok (.pu (.int (due p fds))) [] := by
    have := r16 k p true fds.reverse hp (by simpa using hl) (fun f hf => ho f (List.mem_reverse.mp hf))
    rw [due_rev, List.map_reverse] at this
    exact this
  have e16d : runN fs (k + 5) 16 [.pu (.int (due p fds)), .pu (.list (fds.map Fd.d))] = .ok (.pu (.int (due p fds))) [] := by
    have := r16 k (due p fds) false fds (by omega) hl ho
    rw [due_due] at this
    exact this
  have e17 : runN fs (k + 5) 17 [.pu (.int p), .pu (.list (fds.map Fd.d))] = .ok (.fr (lost p (due p fds) fds)) [] := r17 k p false fds hp hl ho
  have e17t : runN fs (k + 5) 17 [.pu (.int p), .pu (.tuple (fds.map Fd.d))] = .ok (.fr (lost p (due p fds) fds)) [] := r17 k p true fds hp hl ho
  have sho : ∀ f ∈ fds.map (shift n), f.Ok := fun g hg => by
    obtain ⟨f, hf, rfl⟩ := List.mem_map.mp hg
    exact shift_ok n f n0 (ho f hf)
  have e16m : runN fs (k + 5) 16 [.pu (.int (p + n)), .pu (.list ((fds.map (shift n)).map Fd.d))] = .ok (.pu (.int (due p fds + n))) [] := by
    have := r16 k (p + n) false (fds.map (shift n)) (by omega) (by simpa using hl) sho
    rw [due_shift n p fds hp n0] at this
    exact this
  have e17m : runN fs (k + 5) 17 [.pu (.int (p + n)), .pu (.list ((fds.map (shift n)).map Fd.d))] = .ok (.fr (lost p (due p fds) fds)) [] := by
    have := r17 k (p + n) false (fds.map (shift n)) (by omega) (by simpa using hl) sho
    rw [due_shift n p fds hp n0, lost_shift n p fds hp n0] at this
    exact this
  have s3 : showOk (.list [.int (due p fds), .int (due p fds), .int (due p fds)]) = true := (flat_show (xs := [.int (due p fds), .int (due p fds), .int (due p fds)]) (fun x hx => by
    simp only [List.mem_cons, List.not_mem_nil, or_false] at hx
    rcases hx with rfl | rfl | rfl <;> exact ⟨okI (by omega) (by omega), rfl, rfl⟩) (by simp)).2.2
  have s2 : showOk (.list [.int (due p fds + n), .list (lost p (due p fds) fds)]) = true := by
    refine show_ok ?_ ?_ ?_
    · show (okD (.int (due p fds + n)) && (okD (.list (lost p (due p fds) fds)) && true)) = true
      rw [okB (by omega) (by omega), sL.1]
      rfl
    · have := sL.2.1
      simp only [PyData.depth, PyData.depthAll] at this ⊢
      omega
    · have := sL.2.2.1
      simp only [cnt, cntAll] at this ⊢
      omega
  have cL : ∀ s3 s5 s6 s7 s8 s9 : Sl, den (runN fs (k + 5)) (.comp (.tp [.nm 10, .nm 11]) (.enum (.var 1)) (some (.an (.call 23 [.val (.var 11), .val (.var 2)] []) (.cmp .gt (.bin .add (.idx (.var 11) (.cst (.int 1))) (.idx (.var 11) (.cst (.int 3)))) (.var 4)))) (.var 10) [10, 11])
      [.ow true [.int a, .int b], .pu (.list (fds.map Fd.d)), .pu (.int p), s3, .pu (.int (due p fds)), s5, s6, s7, s8, s9, .un, .un] = .ok (.list (lost p (due p fds) fds)) [.ow true [.int a, .int b], .pu (.list (fds.map Fd.d)), .pu (.int p), s3, .pu (.int (due p fds)), s5, s6, s7, s8, s9, .un, .un] := fun s3 s5 s6 s7 s8 s9 => by
    refine ev_comp (xs := (numFrom 0 fds).map fun x => PyData.tuple [.int (x.1 : Nat), x.2.d]) (by simp only [ev_Ienum, ev_bnd, ev_var, rdV, getS]; simp [itemsD, ev_some, ev_bnd, ev_ret, enum_num Fd.d 0 fds]) (comp_gen _ (numFrom 0 fds) _ rfl (by rw [numFrom_len]; exact sz_in (by omega)) fun x hx => ?_)
    refine ⟨[.ow true [.int a, .int b], .pu (.list (fds.map Fd.d)), .pu (.int p), s3, .pu (.int (due p fds)), s5, s6, s7, s8, s9, .pu (.int (x.1 : Nat)), .pu x.2.d], ?_, rfl⟩
    simp only [ev_step, wipeE]
    have hm := ho x.2 (numFrom_mem hx)
    have h23 : runN fs (k + 5) 23 [.pu (fd x.2.l x.2.e x.2.m x.2.c x.2.t x.2.b), .pu (.int p)] = .ok (.pu (.bool (decide (p < x.2.q)))) [] := by
      rw [r23 (k + 3)]
      have := Fd.aq x.2 hm hp
      unfold Fd.a at this
      rw [this]
    by_cases h1 : p < x.2.q
    · by_cases h2 : due p fds < x.2.e + x.2.c
      · have h3 : ¬ (x.2.e + x.2.c ≤ due p fds) := by omega
        simp [runD, fits, entry, ev_bnd, ev_ret, ev_some, ev_none, ev_cst, ev_var, ev_glb, ev_tup, ev_lst, ev_bin, ev_neg, ev_cmp, ev_chn, ev_nt, ev_an, ev_orr, ev_ite, ev_idx, ev_slc, ev_rev, ev_prim, ev_itm, ev_peek, ev_isi, ev_call, ev_L0, ev_L1, ev_O0, ev_O1, ev_C0, ev_C1, ev_A0, ev_Av, ev_Ar, ev_Af, ev_Iover, ev_Irng, ev_Ienum, ev_Flst, ev_Fcall, ev_asg, ev_asgF, ev_par, ev_app, ev_expr, ev_retS, ev_retF, ev_retO, ev_ifs, ev_nev, ev_B0, ev_B1, ev_nm, ev_tp, ev_ts0, ev_ts1, ev_sub, ev_pm0, ev_pm1, rdV, getS, idxD, atD, DL.ixN, c_eqI, c_neI, c_eqS, c_neS, c_lt, c_le, c_gt, c_ge, c_is, c_isnot, truD, binD, outOf, Cn.d, callA, perm, pickA, owns, avOf, backA, primD, isK, slcD, cutD, sIx, isN, RV.d, putA, itemsD, isOw, atOw, ifOwn, onOwn, Fd.d, h23, h1, h2, h3]
        simp [runD, fits, entry, ev_bnd, ev_ret, ev_some, ev_none, ev_cst, ev_var, ev_glb, ev_tup, ev_lst, ev_bin, ev_neg, ev_cmp, ev_chn, ev_nt, ev_an, ev_orr, ev_ite, ev_idx, ev_slc, ev_rev, ev_prim, ev_itm, ev_peek, ev_isi, ev_call, ev_L0, ev_L1, ev_O0, ev_O1, ev_C0, ev_C1, ev_A0, ev_Av, ev_Ar, ev_Af, ev_Iover, ev_Irng, ev_Ienum, ev_Flst, ev_Fcall, ev_asg, ev_asgF, ev_par, ev_app, ev_expr, ev_retS, ev_retF, ev_retO, ev_ifs, ev_nev, ev_B0, ev_B1, ev_nm, ev_tp, ev_ts0, ev_ts1, ev_sub, ev_pm0, ev_pm1, rdV, getS, idxD, atD, DL.ixN, c_eqI, c_neI, c_eqS, c_neS, c_lt, c_le, c_gt, c_ge, c_is, c_isnot, truD, binD, outOf, Cn.d, callA, perm, pickA, owns, avOf, backA, primD, isK, slcD, cutD, sIx, isN, RV.d, putA, itemsD, isOw, atOw, ifOwn, onOwn, fd, h2, h3]
      · have h3 : x.2.e + x.2.c ≤ due p fds := by omega
        simp [runD, fits, entry, ev_bnd, ev_ret, ev_some, ev_none, ev_cst, ev_var, ev_glb, ev_tup, ev_lst, ev_bin, ev_neg, ev_cmp, ev_chn, ev_nt, ev_an, ev_orr, ev_ite, ev_idx, ev_slc, ev_rev, ev_prim, ev_itm, ev_peek, ev_isi, ev_call, ev_L0, ev_L1, ev_O0, ev_O1, ev_C0, ev_C1, ev_A0, ev_Av, ev_Ar, ev_Af, ev_Iover, ev_Irng, ev_Ienum, ev_Flst, ev_Fcall, ev_asg, ev_asgF, ev_par, ev_app, ev_expr, ev_retS, ev_retF, ev_retO, ev_ifs, ev_nev, ev_B0, ev_B1, ev_nm, ev_tp, ev_ts0, ev_ts1, ev_sub, ev_pm0, ev_pm1, rdV, getS, idxD, atD, DL.ixN, c_eqI, c_neI, c_eqS, c_neS, c_lt, c_le, c_gt, c_ge, c_is, c_isnot, truD, binD, outOf, Cn.d, callA, perm, pickA, owns, avOf, backA, primD, isK, slcD, cutD, sIx, isN, RV.d, putA, itemsD, isOw, atOw, ifOwn, onOwn, Fd.d, h23, h1, h2, h3]
        simp [runD, fits, entry, ev_bnd, ev_ret, ev_some, ev_none, ev_cst, ev_var, ev_glb, ev_tup, ev_lst, ev_bin, ev_neg, ev_cmp, ev_chn, ev_nt, ev_an, ev_orr, ev_ite, ev_idx, ev_slc, ev_rev, ev_prim, ev_itm, ev_peek, ev_isi, ev_call, ev_L0, ev_L1, ev_O0, ev_O1, ev_C0, ev_C1, ev_A0, ev_Av, ev_Ar, ev_Af, ev_Iover, ev_Irng, ev_Ienum, ev_Flst, ev_Fcall, ev_asg, ev_asgF, ev_par, ev_app, ev_expr, ev_retS, ev_retF, ev_retO, ev_ifs, ev_nev, ev_B0, ev_B1, ev_nm, ev_tp, ev_ts0, ev_ts1, ev_sub, ev_pm0, ev_pm1, rdV, getS, idxD, atD, DL.ixN, c_eqI, c_neI, c_eqS, c_neS, c_lt, c_le, c_gt, c_ge, c_is, c_isnot, truD, binD, outOf, Cn.d, callA, perm, pickA, owns, avOf, backA, primD, isK, slcD, cutD, sIx, isN, RV.d, putA, itemsD, isOw, atOw, ifOwn, onOwn, fd, h2, h3]
    · simp [runD, fits, entry, ev_bnd, ev_ret, ev_some, ev_none, ev_cst, ev_var, ev_glb, ev_tup, ev_lst, ev_bin, ev_neg, ev_cmp, ev_chn, ev_nt, ev_an, ev_orr, ev_ite, ev_idx, ev_slc, ev_rev, ev_prim, ev_itm, ev_peek, ev_isi, ev_call, ev_L0, ev_L1, ev_O0, ev_O1, ev_C0, ev_C1, ev_A0, ev_Av, ev_Ar, ev_Af, ev_Iover, ev_Irng, ev_Ienum, ev_Flst, ev_Fcall, ev_asg, ev_asgF, ev_par, ev_app, ev_expr, ev_retS, ev_retF, ev_retO, ev_ifs, ev_nev, ev_B0, ev_B1, ev_nm, ev_tp, ev_ts0, ev_ts1, ev_sub, ev_pm0, ev_pm1, rdV, getS, idxD, atD, DL.ixN, c_eqI, c_neI, c_eqS, c_neS, c_lt, c_le, c_gt, c_ge, c_is, c_isnot, truD, binD, outOf, Cn.d, callA, perm, pickA, owns, avOf, backA, primD, isK, slcD, cutD, sIx, isN, RV.d, putA, itemsD, isOw, atOw, ifOwn, onOwn, Fd.d, h23, h1]
  have cMv : ∀ s3 s4 s5 s6 s7 s9 s10 : Sl, den (runN fs (k + 5)) (.comp (.nm 11) (.over (.var 1)) none (.tup [.bin .add (.idx (.var 11) (.cst (.int 0))) (.var 8), .bin .add (.idx (.var 11) (.cst (.int 1))) (.var 8), .idx (.var 11) (.cst (.int 2)), .idx (.var 11) (.cst (.int 3)), .bin .add (.idx (.var 11) (.cst (.int 4))) (.var 8), .idx (.var 11) (.cst (.int 5))]) [11])
      [.ow true [.int a', .int b'], .pu (.list (fds.map Fd.d)), .pu (.int p), s3, s4, s5, s6, s7, .pu (.int n), s9, s10, .un] = .ok (.list ((fds.map (shift n)).map Fd.d)) [.ow true [.int a', .int b'], .pu (.list (fds.map Fd.d)), .pu (.int p), s3, s4, s5, s6, s7, .pu (.int n), s9, s10, .un] := fun s3 s4 s5 s6 s7 s9 s10 => by
    have := comp_gen (own := [11]) (tg := .nm 11) (cc := denC (runN fs (k + 5)) none) (ee := den (runN fs (k + 5)) (.tup [.bin .add (.idx (.var 11) (.cst (.int 0))) (.var 8), .bin .add (.idx (.var 11) (.cst (.int 1))) (.var 8), .idx (.var 11) (.cst (.int 2)), .idx (.var 11) (.cst (.int 3)), .bin .add (.idx (.var 11) (.cst (.int 4))) (.var 8), .idx (.var 11) (.cst (.int 5))])) Fd.d (r := [.ow true [.int a', .int b'], .pu (.list (fds.map Fd.d)), .pu (.int p), s3, s4, s5, s6, s7, .pu (.int n), s9, s10, .un]) fds (fun f => some (shift n f).d) rfl (sz_in (by omega)) fun f hf =>
      ⟨[.ow true [.int a', .int b'], .pu (.list (fds.map Fd.d)), .pu (.int p), s3, s4, s5, s6, s7, .pu (.int n), s9, s10, .pu f.d], by simp only [ev_step, wipeE]; simp [runD, fits, entry, ev_bnd, ev_ret, ev_some, ev_none, ev_cst, ev_var, ev_glb, ev_tup, ev_lst, ev_bin, ev_neg, ev_cmp, ev_chn, ev_nt, ev_an, ev_orr, ev_ite, ev_idx, ev_slc, ev_rev, ev_prim, ev_itm, ev_peek, ev_isi, ev_call, ev_L0, ev_L1, ev_O0, ev_O1, ev_C0, ev_C1, ev_A0, ev_Av, ev_Ar, ev_Af, ev_Iover, ev_Irng, ev_Ienum, ev_Flst, ev_Fcall, ev_asg, ev_asgF, ev_par, ev_app, ev_expr, ev_retS, ev_retF, ev_retO, ev_ifs, ev_nev, ev_B0, ev_B1, ev_nm, ev_tp, ev_ts0, ev_ts1, ev_sub, ev_pm0, ev_pm1, rdV, getS, idxD, atD, DL.ixN, c_eqI, c_neI, c_eqS, c_neS, c_lt, c_le, c_gt, c_ge, c_is, c_isnot, truD, binD, outOf, Cn.d, callA, perm, pickA, owns, avOf, backA, primD, isK, slcD, cutD, sIx, isN, RV.d, putA, itemsD, isOw, atOw, ifOwn, onOwn, Fd.d, fd, shift, six_le], rfl⟩
    rw [fm_some] at this
    rw [List.map_map]
    exact ev_comp (by simp only [ev_Iover, ev_bnd, ev_var, rdV, getS]; simp [itemsD, ev_some]) this
  generalize hFL : fds.map Fd.d = FL at *
  generalize hMV : (fds.map (shift n)).map Fd.d = MV at *
  generalize hLO : lost p (due p fds) fds = LO at *
  generalize hDD : due p fds = DD at *
  have hlo : LO.length < sizeLine := by
    rw [← hLO, ← hDD]
    have := lost_len p (due p fds) fds
    exact Nat.lt_of_le_of_lt (Nat.le_trans this hl) (by rw [sizeLine]; decide)
  have rvt : primD .tuple [.list FL.reverse] = some (.tuple FL.reverse) := rfl
  have tpt : primD .tuple [.list FL] = some (.tuple FL) := rfl
  have four_le : (4 : Nat) ≤ sizeLine := by rw [sizeLine]; omega
  show runD (runN fs (k + 5)) d_law_all_right _ = _
  simp [runD, fits, entry, ev_bnd, ev_ret, ev_some, ev_none, ev_cst, ev_var, ev_glb, ev_tup, ev_lst, ev_bin, ev_neg, ev_cmp, ev_chn, ev_nt, ev_an, ev_orr, ev_ite, ev_idx, ev_slc, ev_rev, ev_prim, ev_itm, ev_peek, ev_isi, ev_call, ev_L0, ev_L1, ev_O0, ev_O1, ev_C0, ev_C1, ev_A0, ev_Av, ev_Ar, ev_Af, ev_Iover, ev_Irng, ev_Ienum, ev_Flst, ev_Fcall, ev_asg, ev_asgF, ev_par, ev_app, ev_expr, ev_retS, ev_retF, ev_retO, ev_ifs, ev_nev, ev_B0, ev_B1, ev_nm, ev_tp, ev_ts0, ev_ts1, ev_sub, ev_pm0, ev_pm1, rdV, getS, DL.ixN, c_eqI, c_neI, c_eqS, c_neS, c_lt, c_le, c_gt, c_ge, c_is, c_isnot, truD, binD, outOf, Cn.d, callA, perm, pickA, owns, avOf, backA, isK, isN, RV.d, putA, itemsD, isOw, atOw, ifOwn, onOwn, d_law_all_right, pw25, four_le, three_le, two_le, e24, e16, e16r, e16d, e17, e17t, e16m, e17m, cL, cMv, e20, repr_list sF, repr_list sL.2.2.2, repr_list s3, repr_list s2, rvt, tpt, hlo]
end K28
end
section
set_option maxHeartbeats 0
set_option maxRecDepth 1000000
namespace K28
open PySem DL
theorem r27 : DL.runN fs 6 27 [] = .ok (.pu (.bool true)) [] := by kernel_rfl
end K28
end
section
set_option maxHeartbeats 8000000
set_option maxRecDepth 100000
namespace K28
open PySem DL
theorem of_good {P : Fd → Prop} : ∀ {ys : List PyData}, (∀ y ∈ ys, ∃ f : Fd, y = f.d ∧ P f) → ∃ fds : List Fd, ys = fds.map Fd.d ∧ ∀ f ∈ fds, P f
  | [], _ => ⟨[], rfl, fun _ z => nomatch z⟩
  | y :: ys, h => by
    obtain ⟨f, rfl, hf⟩ := h _ List.mem_cons_self
    obtain ⟨fds, rfl, hp⟩ := of_good (ys := ys) fun z hz => h z (List.mem_cons_of_mem _ hz)
    exact ⟨f :: fds, rfl, fun g hg => by
      rcases List.mem_cons.mp hg with rfl | hg
      · exact hf
      · exact hp g hg⟩
theorem all_true {α : Type} (l : List α) : (l.map fun _ => true).all id = true := by
  induction l with
  | nil => rfl
  | cons a l ih => rw [List.map_cons, List.all_cons, ih]; rfl
theorem ev_rngE {G : Fns} {E : Ex} {r r' : Evn} {n : Int} (h : den G E r = .ok (.int n) r') (h1 : 0 ≤ n) (h2 : n ≤ 100) : denI G (.rng E) r = .ok (rngL 0 n) r' := by
  rw [ev_Irng, ev_bnd, h]
  simp only
  rw [if_pos (rng_in h1 h2)]
  rfl
theorem eight_le : (8 : Nat) ≤ sizeLine := by rw [sizeLine]; omega
theorem asg_nm {G : Fns} {i : Nat} {e : Ex} {r r' : Evn} {d : PyData} (h : den G e r = .ok d r') (hi : i < r'.length) : denS G (.asg (.nm i) e) r = .ok .nx (r'.set i (.pu d)) := by
  rw [ev_asg, ev_bnd, h]
  show bnd (putT (.nm i) d) (fun _ => DL.ret DL.Flow.nx) r' = _
  rw [ev_bnd, ev_nm, if_pos hi]
  rfl
theorem blk_cons {G : Fns} {s : Sm} {ss : List Sm} {r r' : Evn} {x : Res DL.Flow} (h : denS G s r = .ok .nx r') (h2 : denB G ss r' = x) : denB G (s :: ss) r = x := by
  rw [ev_B1, ev_bnd, h]
  exact h2
theorem blk_ret {G : Fns} {s : Sm} {r r' : Evn} {v : RV} (h : denS G s r = .ok (.rt v) r') : denB G [s] r = .ok (.rt v) r' := by
  rw [ev_B1, ev_bnd, h]
  rfl
theorem run_body {G : Fns} {f : FnD} {avs : List Av} {v : RV} {r : Evn} {out : List PyData} (h1 : (decide (avs.length = f.np) && fits f.own avs) = true) (h : denB G f.body (entry f.names.length avs) = .ok (.rt v) r) (ho : outOf r f.own = some out) : runD G f avs = .ok v out := by
  unfold runD
  rw [if_pos h1, h]
  simp only [ho]
theorem all_of {G : Fns} {e : Ex} {r r' : Evn} {d z : PyData} {q : Pr} (h : den G e r = .ok d r') (hz : primD q [d] = some z) : den G (.prim q [e]) r = .ok z r' := by
  rw [ev_prim, ev_bnd, ev_L1, ev_bnd, h]
  show (match (Res.ok [d] r' : Res (List PyData)) with | .ok a r' => lift (primD q a) r' | .exc c fs r' => .exc c fs r' | .bad => .bad) = _
  simp only [hz, ev_some]
theorem ret_of {G : Fns} {e : Ex} {r r' : Evn} {d : PyData} (h : den G e r = .ok d r') : denS G (.ret e) r = .ok (.rt (.pu d)) r' := by
  rw [ev_retS, ev_bnd, h]
  rfl
theorem pick_many {x1 : PyData} (m1 : x1 ∈ [PyData.int 0, .int 1, .int 1, .int 2, .int 3, .int 4, .int 6, .int 24]) : ∃ M : Nat, x1 = .int (M : Int) ∧ M ≤ 24 := by
  simp only [List.mem_cons, List.not_mem_nil, or_false] at m1
  rcases m1 with rfl | rfl | rfl | rfl | rfl | rfl | rfl | rfl
  · exact ⟨0, rfl, by omega⟩
  · exact ⟨1, rfl, by omega⟩
  · exact ⟨1, rfl, by omega⟩
  · exact ⟨2, rfl, by omega⟩
  · exact ⟨3, rfl, by omega⟩
  · exact ⟨4, rfl, by omega⟩
  · exact ⟨6, rfl, by omega⟩
  · exact ⟨24, rfl, by omega⟩
def En (M : Nat) (p : Int) (s : Int × Int) : Evn := [.ow true [.int s.1, .int s.2], .pu (.int (M : Int)), .pu (.int p), .un, .un, .un]
theorem fds_drawn (G : Fns) (H21 : ∀ a b : Int, 0 ≤ a → 0 ≤ b → ∃ (a' b' : Int) (f : Fd), 0 ≤ a' ∧ 0 ≤ b' ∧ f.Ok ∧ f.Sm ∧ G 21 [.ow [.int a, .int b]] = .ok (.pu f.d) [.int a', .int b']) (a2 b2 p : Int) (M : Nat) (hM : M ≤ 24) (ha2 : 0 ≤ a2) (hb2 : 0 ≤ b2) : ∃ (fds : List Fd) (s' : Int × Int), compD [4] (.nm 4) (denC G none) (den G (.call 21 [.ref 0] [])) ((List.range M).map fun j : Nat => PyData.int (j : Int)) (En M p (a2, b2)) = .ok (fds.map Fd.d) (En M p s') ∧ (0 ≤ s'.1 ∧ 0 ≤ s'.2) ∧ fds.length = M ∧ ∀ f ∈ fds, f.Ok ∧ f.Sm := by
  obtain ⟨ys, s', q1, q2, q3, q4⟩ := comp_state (own := [4]) (tg := .nm 4) (c := denC G none) (e := den G (.call 21 [.ref 0] [])) (xs := (List.range M).map fun j : Nat => PyData.int (j : Int)) (En M p) (fun s => 0 ≤ s.1 ∧ 0 ≤ s.2) (fun y => ∃ f : Fd, y = f.d ∧ f.Ok ∧ f.Sm) (a2, b2) ⟨ha2, hb2⟩ rfl (by rw [List.length_map, List.length_range]; exact sz_in (by omega))
    (fun s s' r2 h => by
      show r2.set 4 .un = _
      have h : r2.set 4 .un = (En M p s').set 4 .un := h
      rw [h]
      rfl)
    (fun x hx s hi => by
      obtain ⟨j, _, rfl⟩ := List.mem_map.mp hx
      obtain ⟨a', b', f, f1, f2, f3, f4, e⟩ := H21 s.1 s.2 hi.1 hi.2
      have e' : G 21 [.ow [.int s.1, .int s.2]] = .ok (.pu f.d) [.int a', .int b'] := e
      refine ⟨f.d, (a', b'), [.ow true [.int a', .int b'], .pu (.int (M : Int)), .pu (.int p), .un, .pu (.int (j : Int)), .un], ?_, rfl, ⟨f1, f2⟩, f, rfl, f3, f4⟩
      simp only [ev_step, wipeE, En]
      simp [runD, fits, entry, ev_bnd, ev_ret, ev_some, ev_none, ev_cst, ev_var, ev_glb, ev_tup, ev_lst, ev_bin, ev_neg, ev_cmp, ev_chn, ev_nt, ev_an, ev_orr, ev_ite, ev_idx, ev_slc, ev_rev, ev_prim, ev_itm, ev_peek, ev_isi, ev_call, ev_L0, ev_L1, ev_O0, ev_O1, ev_C0, ev_C1, ev_A0, ev_Av, ev_Ar, ev_Af, ev_Iover, ev_Irng, ev_Ienum, ev_Flst, ev_Fcall, ev_asg, ev_asgF, ev_par, ev_app, ev_expr, ev_retS, ev_retF, ev_retO, ev_ifs, ev_nev, ev_B0, ev_B1, ev_nm, ev_tp, ev_ts0, ev_ts1, ev_sub, ev_pm0, ev_pm1, rdV, getS, idxD, atD, DL.ixN, c_eqI, c_neI, c_eqS, c_neS, c_lt, c_le, c_gt, c_ge, c_is, c_isnot, truD, binD, outOf, Cn.d, callA, perm, pickA, owns, avOf, backA, primD, isK, slcD, cutD, sIx, isN, RV.d, putA, itemsD, isOw, atOw, ifOwn, onOwn, e'])
  obtain ⟨fds, rfl, hg⟩ := of_good q4
  rw [List.length_map, List.length_map, List.length_range] at q3
  exact ⟨fds, s', q1, q2, q3, hg⟩
theorem cF_of (G : Fns) (a2 b2 p : Int) (M : Nat) (hM : M ≤ 24) (fds : List Fd) (s' : Int × Int) (q1 : compD [4] (.nm 4) (denC G none) (den G (.call 21 [.ref 0] [])) ((List.range M).map fun j : Nat => PyData.int (j : Int)) (En M p (a2, b2)) = .ok (fds.map Fd.d) (En M p s')) : den G (.comp (.nm 4) (.rng (.var 1)) none (.call 21 [.ref 0] []) [4]) (En M p (a2, b2)) = .ok (.list (fds.map Fd.d)) (En M p s') := by
  refine ev_comp (r1 := En M p (a2, b2)) (xs := (List.range M).map fun j : Nat => PyData.int (j : Int)) ?_ q1
  have h : den G (.var 1) (En M p (a2, b2)) = .ok (.int (M : Int)) (En M p (a2, b2)) := rfl
  rw [ev_rngE h (by omega) (by omega), rngN]
theorem cB_of (G : Fns) (H25 : ∀ f : Fd, f.Ok → f.Sm → G 25 [.pu f.d] = .ok (.pu (.bool true)) []) (p : Int) (M : Nat) (fds : List Fd) (s' : Int × Int) (hl : fds.length ≤ 24) (hg : ∀ f ∈ fds, f.Ok ∧ f.Sm) : den G (.comp (.nm 5) (.over (.slc (.var 3) none (some (.cst (.int 6))))) none (.call 25 [.val (.var 5)] []) [5]) [.ow true [.int s'.1, .int s'.2], .pu (.int (M : Int)), .pu (.int p), .pu (.list (fds.map Fd.d)), .un, .un] = .ok (.list ((fds.take (min 6 fds.length)).map fun _ => .bool true)) [.ow true [.int s'.1, .int s'.2], .pu (.int (M : Int)), .pu (.int p), .pu (.list (fds.map Fd.d)), .un, .un] := by
    have h := comp_gen (own := [5]) (tg := .nm 5) (cc := denC G none) (ee := den G (.call 25 [.val (.var 5)] [])) Fd.d (r := [.ow true [.int s'.1, .int s'.2], .pu (.int (M : Int)), .pu (.int p), .pu (.list (fds.map Fd.d)), .un, .un]) (fds.take (min 6 fds.length)) (fun _ => some (.bool true)) rfl (by rw [List.length_take]; exact sz_in (by omega)) fun f hf => by
      have hf := List.mem_of_mem_take hf
      have e : G 25 [.pu f.d] = .ok (.pu (.bool true)) [] := H25 f (hg f hf).1 (hg f hf).2
      refine ⟨[.ow true [.int s'.1, .int s'.2], .pu (.int (M : Int)), .pu (.int p), .pu (.list (fds.map Fd.d)), .un, .pu f.d], ?_, rfl⟩
      simp only [ev_step, wipeE]
      simp [runD, fits, entry, ev_bnd, ev_ret, ev_some, ev_none, ev_cst, ev_var, ev_glb, ev_tup, ev_lst, ev_bin, ev_neg, ev_cmp, ev_chn, ev_nt, ev_an, ev_orr, ev_ite, ev_idx, ev_slc, ev_rev, ev_prim, ev_itm, ev_peek, ev_isi, ev_call, ev_L0, ev_L1, ev_O0, ev_O1, ev_C0, ev_C1, ev_A0, ev_Av, ev_Ar, ev_Af, ev_Iover, ev_Irng, ev_Ienum, ev_Flst, ev_Fcall, ev_asg, ev_asgF, ev_par, ev_app, ev_expr, ev_retS, ev_retF, ev_retO, ev_ifs, ev_nev, ev_B0, ev_B1, ev_nm, ev_tp, ev_ts0, ev_ts1, ev_sub, ev_pm0, ev_pm1, rdV, getS, idxD, atD, DL.ixN, c_eqI, c_neI, c_eqS, c_neS, c_lt, c_le, c_gt, c_ge, c_is, c_isnot, truD, binD, outOf, Cn.d, callA, perm, pickA, owns, avOf, backA, primD, isK, slcD, cutD, sIx, isN, RV.d, putA, itemsD, isOw, atOw, ifOwn, onOwn, e]
    rw [fm_some] at h
    refine ev_comp ?_ h
    simp [runD, fits, entry, ev_bnd, ev_ret, ev_some, ev_none, ev_cst, ev_var, ev_glb, ev_tup, ev_lst, ev_bin, ev_neg, ev_cmp, ev_chn, ev_nt, ev_an, ev_orr, ev_ite, ev_idx, ev_slc, ev_rev, ev_prim, ev_itm, ev_peek, ev_isi, ev_call, ev_L0, ev_L1, ev_O0, ev_O1, ev_C0, ev_C1, ev_A0, ev_Av, ev_Ar, ev_Af, ev_Iover, ev_Irng, ev_Ienum, ev_Flst, ev_Fcall, ev_asg, ev_asgF, ev_par, ev_app, ev_expr, ev_retS, ev_retF, ev_retO, ev_ifs, ev_nev, ev_B0, ev_B1, ev_nm, ev_tp, ev_ts0, ev_ts1, ev_sub, ev_pm0, ev_pm1, rdV, getS, idxD, atD, DL.ixN, c_eqI, c_neI, c_eqS, c_neS, c_lt, c_le, c_gt, c_ge, c_is, c_isnot, truD, binD, outOf, Cn.d, callA, perm, pickA, owns, avOf, backA, primD, isK, slcD, cutD, sIx, isN, RV.d, putA, itemsD, isOw, atOw, ifOwn, onOwn, List.map_take]
theorem hall_of (fds : List Fd) : primD .all [.list ((fds.take (min 6 fds.length)).map fun _ => .bool true)] = some (.bool true) := by
  have hb2' : bools? ((fds.take (min 6 fds.length)).map fun _ => PyData.bool true) = some ((fds.take (min 6 fds.length)).map fun _ => true) := by
    have := bools_map ((fds.take (min 6 fds.length)).map fun _ => true)
    rw [List.map_map] at this
    exact this
  show ((bools? _).map fun bs => PyData.bool (bs.all id)) = _
  rw [hb2']
  show some (PyData.bool _) = _
  rw [all_true]
theorem st1 (G : Fns) (a b a1 b1 a2 b2 a3 b3 p : Int) (M : Nat) (fds : List Fd) (s' : Int × Int) (e1 : G 20 [.ow [.int a, .int b], .pu (.list [.int 0, .int 1, .int 1, .int 2, .int 3, .int 4, .int 6, .int 24])] = .ok (.pu (.int (M : Int))) [.int a1, .int b1]) (e2 : G 19 [.ow [.int a1, .int b1], .pu (.int 45)] = .ok (.pu (.int p)) [.int a2, .int b2]) : denS G (.par [1, 2] [.val (.call 20 [.ref 0, .val (.lst [.cst (.int 0), .cst (.int 1), .cst (.int 1), .cst (.int 2), .cst (.int 3), .cst (.int 4), .cst (.int 6), .cst (.int 24)])] []), .val (.call 19 [.ref 0, .val (.cst (.int 45))] [])]) [.ow true [.int a, .int b], .un, .un, .un, .un, .un] = .ok .nx [.ow true [.int a2, .int b2], .pu (.int (M : Int)), .pu (.int p), .un, .un, .un] := by
  simp [runD, fits, entry, ev_bnd, ev_ret, ev_some, ev_none, ev_cst, ev_var, ev_glb, ev_tup, ev_lst, ev_bin, ev_neg, ev_cmp, ev_chn, ev_nt, ev_an, ev_orr, ev_ite, ev_idx, ev_slc, ev_rev, ev_prim, ev_itm, ev_peek, ev_isi, ev_call, ev_L0, ev_L1, ev_O0, ev_O1, ev_C0, ev_C1, ev_A0, ev_Av, ev_Ar, ev_Af, ev_Iover, ev_Irng, ev_Ienum, ev_Flst, ev_Fcall, ev_asg, ev_asgF, ev_par, ev_app, ev_expr, ev_retS, ev_retF, ev_retO, ev_ifs, ev_nev, ev_B0, ev_B1, ev_nm, ev_tp, ev_ts0, ev_ts1, ev_sub, ev_pm0, ev_pm1, rdV, getS, DL.ixN, c_eqI, c_neI, c_eqS, c_neS, c_lt, c_le, c_gt, c_ge, c_is, c_isnot, truD, binD, outOf, Cn.d, callA, perm, pickA, owns, avOf, backA, isK, isN, RV.d, putA, itemsD, isOw, atOw, ifOwn, onOwn, e1, e2, eight_le]
theorem st2 (G : Fns) (a b a1 b1 a2 b2 a3 b3 p : Int) (M : Nat) (fds : List Fd) (s' : Int × Int) (cF : den G (.comp (.nm 4) (.rng (.var 1)) none (.call 21 [.ref 0] []) [4]) [.ow true [.int a2, .int b2], .pu (.int (M : Int)), .pu (.int p), .un, .un, .un] = .ok (.list (fds.map Fd.d)) [.ow true [.int s'.1, .int s'.2], .pu (.int (M : Int)), .pu (.int p), .un, .un, .un]) : denS G (.asg (.nm 3) (.comp (.nm 4) (.rng (.var 1)) none (.call 21 [.ref 0] []) [4])) [.ow true [.int a2, .int b2], .pu (.int (M : Int)), .pu (.int p), .un, .un, .un] = .ok .nx [.ow true [.int s'.1, .int s'.2], .pu (.int (M : Int)), .pu (.int p), .pu (.list (fds.map Fd.d)), .un, .un] := asg_nm cF (by simp)
theorem st3 (G : Fns) (a b a1 b1 a2 b2 a3 b3 p : Int) (M : Nat) (fds : List Fd) (s' : Int × Int) (BL : List PyData) (cB : den G (.comp (.nm 5) (.over (.slc (.var 3) none (some (.cst (.int 6))))) none (.call 25 [.val (.var 5)] []) [5]) [.ow true [.int s'.1, .int s'.2], .pu (.int (M : Int)), .pu (.int p), .pu (.list (fds.map Fd.d)), .un, .un] = .ok (.list BL) [.ow true [.int s'.1, .int s'.2], .pu (.int (M : Int)), .pu (.int p), .pu (.list (fds.map Fd.d)), .un, .un]) (hall : primD .all [.list BL] = some (.bool true)) : denS G (.ifs (.nt (.prim .all [.comp (.nm 5) (.over (.slc (.var 3) none (some (.cst (.int 6))))) none (.call 25 [.val (.var 5)] []) [5]])) [.ret (.cst (.bl false))] []) [.ow true [.int s'.1, .int s'.2], .pu (.int (M : Int)), .pu (.int p), .pu (.list (fds.map Fd.d)), .un, .un] = .ok .nx [.ow true [.int s'.1, .int s'.2], .pu (.int (M : Int)), .pu (.int p), .pu (.list (fds.map Fd.d)), .un, .un] := by
  simp only [ev_ifs, ev_bnd, ev_nt, ev_prim, ev_L1, ev_L0, cB, ev_ret, hall, ev_some, truD, Bool.not_true, Bool.false_eq_true, if_false, ev_B0]
theorem st4 (G : Fns) (a b a1 b1 a2 b2 a3 b3 p : Int) (M : Nat) (fds : List Fd) (s' : Int × Int) (e26 : G 26 [.ow [.int s'.1, .int s'.2], .pu (.list (fds.map Fd.d)), .pu (.int p)] = .ok (.pu (.bool true)) [.int a3, .int b3]) (H27 : G 27 [] = .ok (.pu (.bool true)) []) : denS G (.ret (.an (.call 26 [.ref 0, .val (.var 3), .val (.var 2)] []) (.call 27 [] []))) [.ow true [.int s'.1, .int s'.2], .pu (.int (M : Int)), .pu (.int p), .pu (.list (fds.map Fd.d)), .un, .un] = .ok (.rt (.pu (.bool true))) [.ow true [.int a3, .int b3], .pu (.int (M : Int)), .pu (.int p), .pu (.list (fds.map Fd.d)), .un, .un] := by
  simp [runD, fits, entry, ev_bnd, ev_ret, ev_some, ev_none, ev_cst, ev_var, ev_glb, ev_tup, ev_lst, ev_bin, ev_neg, ev_cmp, ev_chn, ev_nt, ev_an, ev_orr, ev_ite, ev_idx, ev_slc, ev_rev, ev_prim, ev_itm, ev_peek, ev_isi, ev_call, ev_L0, ev_L1, ev_O0, ev_O1, ev_C0, ev_C1, ev_A0, ev_Av, ev_Ar, ev_Af, ev_Iover, ev_Irng, ev_Ienum, ev_Flst, ev_Fcall, ev_asg, ev_asgF, ev_par, ev_app, ev_expr, ev_retS, ev_retF, ev_retO, ev_ifs, ev_nev, ev_B0, ev_B1, ev_nm, ev_tp, ev_ts0, ev_ts1, ev_sub, ev_pm0, ev_pm1, rdV, getS, DL.ixN, c_eqI, c_neI, c_eqS, c_neS, c_lt, c_le, c_gt, c_ge, c_is, c_isnot, truD, binD, outOf, Cn.d, callA, perm, pickA, owns, avOf, backA, isK, isN, RV.d, putA, itemsD, isOw, atOw, ifOwn, onOwn, e26, H27]
theorem right_of (G : Fns) (a b a1 b1 a2 b2 a3 b3 p : Int) (M : Nat) (fds : List Fd) (s' : Int × Int) (e1 : G 20 [.ow [.int a, .int b], .pu (.list [.int 0, .int 1, .int 1, .int 2, .int 3, .int 4, .int 6, .int 24])] = .ok (.pu (.int (M : Int))) [.int a1, .int b1]) (e2 : G 19 [.ow [.int a1, .int b1], .pu (.int 45)] = .ok (.pu (.int p)) [.int a2, .int b2]) (cF : den G (.comp (.nm 4) (.rng (.var 1)) none (.call 21 [.ref 0] []) [4]) [.ow true [.int a2, .int b2], .pu (.int (M : Int)), .pu (.int p), .un, .un, .un] = .ok (.list (fds.map Fd.d)) [.ow true [.int s'.1, .int s'.2], .pu (.int (M : Int)), .pu (.int p), .un, .un, .un]) (BL : List PyData) (cB : den G (.comp (.nm 5) (.over (.slc (.var 3) none (some (.cst (.int 6))))) none (.call 25 [.val (.var 5)] []) [5]) [.ow true [.int s'.1, .int s'.2], .pu (.int (M : Int)), .pu (.int p), .pu (.list (fds.map Fd.d)), .un, .un] = .ok (.list BL) [.ow true [.int s'.1, .int s'.2], .pu (.int (M : Int)), .pu (.int p), .pu (.list (fds.map Fd.d)), .un, .un]) (hall : primD .all [.list BL] = some (.bool true)) (e26 : G 26 [.ow [.int s'.1, .int s'.2], .pu (.list (fds.map Fd.d)), .pu (.int p)] = .ok (.pu (.bool true)) [.int a3, .int b3]) (H27 : G 27 [] = .ok (.pu (.bool true)) []) : runD G d_law_right [.ow [.int a, .int b]] = .ok (.pu (.bool true)) [.int a3, .int b3] :=
  run_body (by rfl) (blk_cons (st1 G a b a1 b1 a2 b2 a3 b3 p M fds s' e1 e2) (blk_cons (st2 G a b a1 b1 a2 b2 a3 b3 p M fds s' cF) (blk_cons (st3 G a b a1 b1 a2 b2 a3 b3 p M fds s' BL cB hall) (blk_ret (st4 G a b a1 b1 a2 b2 a3 b3 p M fds s' e26 H27))))) rfl
theorem r28core (G : Fns) (H20 : ∀ (a b : Int) (xs : List PyData), 0 ≤ a → 0 ≤ b → xs ≠ [] → xs.length < 1000000 → ∃ (a' b' : Int) (x : PyData), 0 ≤ a' ∧ 0 ≤ b' ∧ x ∈ xs ∧ G 20 [.ow [.int a, .int b], .pu (.list xs)] = .ok (.pu x) [.int a', .int b'])
    (H19 : ∀ a b many : Int, 0 ≤ a → 0 ≤ b → 0 < many → many < 1000000 → ∃ a' b' d : Int, 0 ≤ a' ∧ 0 ≤ b' ∧ 0 ≤ d ∧ d < many ∧ G 19 [.ow [.int a, .int b], .pu (.int many)] = .ok (.pu (.int d)) [.int a', .int b'])
    (H21 : ∀ a b : Int, 0 ≤ a → 0 ≤ b → ∃ (a' b' : Int) (f : Fd), 0 ≤ a' ∧ 0 ≤ b' ∧ f.Ok ∧ f.Sm ∧ G 21 [.ow [.int a, .int b]] = .ok (.pu f.d) [.int a', .int b'])
    (H25 : ∀ f : Fd, f.Ok → f.Sm → G 25 [.pu f.d] = .ok (.pu (.bool true)) [])
    (H26 : ∀ (a b p : Int) (fds : List Fd), 0 ≤ a → 0 ≤ b → 0 ≤ p → p ≤ 60 → fds.length ≤ 24 → (∀ f ∈ fds, f.Ok) → (∀ f ∈ fds, f.Sm) → ∃ a' b' : Int, 0 ≤ a' ∧ 0 ≤ b' ∧ G 26 [.ow [.int a, .int b], .pu (.list (fds.map Fd.d)), .pu (.int p)] = .ok (.pu (.bool true)) [.int a', .int b'])
    (H27 : G 27 [] = .ok (.pu (.bool true)) []) (a b : Int) (ha : 0 ≤ a) (hb : 0 ≤ b) : ∃ out, runD G d_law_right [.ow [.int a, .int b]] = .ok (.pu (.bool true)) out := by
  obtain ⟨a1, b1, x1, ha1, hb1, m1, e1⟩ := H20 a b [.int 0, .int 1, .int 1, .int 2, .int 3, .int 4, .int 6, .int 24] ha hb (by simp) (by simp)
  obtain ⟨M, rfl, hM⟩ := pick_many m1
  obtain ⟨a2, b2, p, ha2, hb2, p0, p1, e2⟩ := H19 a1 b1 45 ha1 hb1 (by omega) (by omega)
  obtain ⟨fds, s', q1, q2, q3, hg⟩ := fds_drawn G H21 a2 b2 p M hM ha2 hb2
  have hl : fds.length ≤ 24 := by omega
  obtain ⟨a3, b3, ha3, hb3, e26⟩ := H26 s'.1 s'.2 p fds q2.1 q2.2 p0 (by omega) hl (fun f hf => (hg f hf).1) (fun f hf => (hg f hf).2)
  exact ⟨_, right_of G a b a1 b1 a2 b2 a3 b3 p M fds s' e1 e2 (cF_of G a2 b2 p M hM fds s' q1) _ (cB_of G H25 p M fds s' hl hg) (hall_of fds) e26 H27⟩
theorem r28 (a b : Int) (ha : 0 ≤ a) (hb : 0 ≤ b) : ∃ out, runN fs 7 28 [.ow [.int a, .int b]] = .ok (.pu (.bool true)) out :=
  r28core (runN fs 6) (fun a b xs h1 h2 h3 h4 => r20 4 a b xs h1 h2 h3 h4) (fun a b m h1 h2 h3 h4 => r19 5 a b m h1 h2 h3 h4) (fun a b h1 h2 => r21 3 a b h1 h2) (fun f h1 h2 => r25 0 f h1 h2) (fun a b p fds h1 h2 h3 h4 h5 h6 h7 => r26 0 a b p fds h1 h2 h3 h4 h5 h6 h7) r27 a b ha hb
theorem law_core (G : Fns) (H18 : ∀ (ns : List Int) (j : Nat), ∃ a b : Int, 0 ≤ a ∧ 0 ≤ b ∧ G 18 [.pu (.list (ns.map .int)), .pu (.int j)] = .ok (.fr [.int a, .int b]) []) (H28 : ∀ a b : Int, 0 ≤ a → 0 ≤ b → ∃ out, G 28 [.ow [.int a, .int b]] = .ok (.pu (.bool true)) out) (ns : List Int) :
    ∃ out, runD G d_law [.pu (.list (ns.map .int))] = .ok (.pu (.bool true)) out := by
  obtain ⟨N, hN, hN2⟩ : ∃ N : Nat, N ≤ 3 ∧ (if (if (ns.length : Int) < 3 then (ns.length : Int) else 3) > 1 then (if (ns.length : Int) < 3 then (ns.length : Int) else 3) else 1) = (N : Int) := by
    refine ⟨if ns.length < 3 then (if ns.length > 1 then ns.length else 1) else 3, ?_, ?_⟩
    · repeat' split
      all_goals omega
    · repeat' split
      all_goals omega
  have hc : den G (.comp (.nm 1) (.rng (.prim .max [.cst (.int 1), .prim .min [.cst (.int 3), .prim .len [.var 0]]])) none (.call 28 [.fre (.call 18 [.val (.var 0), .val (.var 1)] [])] []) [1]) [.pu (.list (ns.map .int)), .un] = .ok (.list ((List.range N).map fun _ => .bool true)) [.pu (.list (ns.map .int)), .un] := by
    have h := comp_gen (own := [1]) (tg := .nm 1) (cc := denC G none) (ee := den G (.call 28 [.fre (.call 18 [.val (.var 0), .val (.var 1)] [])] [])) (fun j : Nat => PyData.int (j : Int)) (r := [.pu (.list (ns.map .int)), .un]) (List.range N) (fun _ => some (.bool true)) rfl (by rw [List.length_range]; exact sz_in (by omega)) fun j hj => by
      obtain ⟨a, b, ha, hb, e⟩ := H18 ns j
      have e' : G 18 [.pu (.list (ns.map .int)), .pu (.int (j : Int))] = .ok (.fr [.int a, .int b]) [] := e
      obtain ⟨out, e28⟩ := H28 a b ha hb
      refine ⟨[.pu (.list (ns.map .int)), .pu (.int (j : Int))], ?_, rfl⟩
      simp only [ev_step, wipeE]
      simp [runD, fits, entry, ev_bnd, ev_ret, ev_some, ev_none, ev_cst, ev_var, ev_glb, ev_tup, ev_lst, ev_bin, ev_neg, ev_cmp, ev_chn, ev_nt, ev_an, ev_orr, ev_ite, ev_idx, ev_slc, ev_rev, ev_prim, ev_itm, ev_peek, ev_isi, ev_call, ev_L0, ev_L1, ev_O0, ev_O1, ev_C0, ev_C1, ev_A0, ev_Av, ev_Ar, ev_Af, ev_Iover, ev_Irng, ev_Ienum, ev_Flst, ev_Fcall, ev_asg, ev_asgF, ev_par, ev_app, ev_expr, ev_retS, ev_retF, ev_retO, ev_ifs, ev_nev, ev_B0, ev_B1, ev_nm, ev_tp, ev_ts0, ev_ts1, ev_sub, ev_pm0, ev_pm1, rdV, getS, idxD, atD, DL.ixN, c_eqI, c_neI, c_eqS, c_neS, c_lt, c_le, c_gt, c_ge, c_is, c_isnot, truD, binD, outOf, Cn.d, callA, perm, pickA, owns, avOf, backA, primD, isK, slcD, cutD, sIx, isN, RV.d, putA, itemsD, isOw, atOw, ifOwn, onOwn, e', e28]
    rw [fm_some] at h
    refine ev_comp ?_ h
    have hp : den G (.prim .max [.cst (.int 1), .prim .min [.cst (.int 3), .prim .len [.var 0]]]) [.pu (.list (ns.map .int)), .un] = .ok (.int (N : Int)) [.pu (.list (ns.map .int)), .un] := by
      rw [← hN2]
      simp [runD, fits, entry, ev_bnd, ev_ret, ev_some, ev_none, ev_cst, ev_var, ev_glb, ev_tup, ev_lst, ev_bin, ev_neg, ev_cmp, ev_chn, ev_nt, ev_an, ev_orr, ev_ite, ev_idx, ev_slc, ev_rev, ev_prim, ev_itm, ev_peek, ev_isi, ev_call, ev_L0, ev_L1, ev_O0, ev_O1, ev_C0, ev_C1, ev_A0, ev_Av, ev_Ar, ev_Af, ev_Iover, ev_Irng, ev_Ienum, ev_Flst, ev_Fcall, ev_asg, ev_asgF, ev_par, ev_app, ev_expr, ev_retS, ev_retF, ev_retO, ev_ifs, ev_nev, ev_B0, ev_B1, ev_nm, ev_tp, ev_ts0, ev_ts1, ev_sub, ev_pm0, ev_pm1, rdV, getS, idxD, atD, DL.ixN, c_eqI, c_neI, c_eqS, c_neS, c_lt, c_le, c_gt, c_ge, c_is, c_isnot, truD, binD, outOf, Cn.d, callA, perm, pickA, owns, avOf, backA, primD, isK, slcD, cutD, sIx, isN, RV.d, putA, itemsD, isOw, atOw, ifOwn, onOwn]
    rw [ev_rngE hp (by omega) (by omega), rngN]
  have hb2' : bools? ((List.range N).map fun _ => PyData.bool true) = some ((List.range N).map fun _ => true) := by
    have := bools_map ((List.range N).map fun _ => true)
    rw [List.map_map] at this
    exact this
  have hall : primD .all [.list ((List.range N).map fun _ => .bool true)] = some (.bool true) := by
    show ((bools? _).map fun bs => PyData.bool (bs.all id)) = _
    rw [hb2']
    show some (PyData.bool _) = _
    rw [all_true]
  have hp : den G (.prim .all [.comp (.nm 1) (.rng (.prim .max [.cst (.int 1), .prim .min [.cst (.int 3), .prim .len [.var 0]]])) none (.call 28 [.fre (.call 18 [.val (.var 0), .val (.var 1)] [])] []) [1]]) [.pu (.list (ns.map .int)), .un] = .ok (.bool true) [.pu (.list (ns.map .int)), .un] := all_of hc hall
  exact ⟨[], run_body (f := d_law) (by rfl) (blk_ret (ret_of hp)) rfl⟩
theorem law_runs : ∀ ns : List Int, ns.length ≤ 63 → ∃ out, DL.runN K28.fs 8 29 [.pu (.list (ns.map .int))] = .ok (.pu (.bool true)) out := fun ns _ =>
  law_core (runN fs 7) (fun ns j => r18 6 ns j) r28 ns
end K28
end
set_option maxRecDepth 100000
set_option maxHeartbeats 0
open PySem PySem.W PySem.Calls PyProof.Rows
theorem PySem.Challenge.cw_citylines_k28_asks_and_leaves_at_each_mi_holds : PySem.Challenge.rw_citylines_k28_asks_and_leaves_at_each_mi.Holds := by
  w_on; o_law
  refine HandSHeadRun.head_any (r := OpenLaw.row PySem.Challenge.rw_citylines_k28_asks_and_leaves_at_each_mi) (q := view (OpenLaw.row PySem.Challenge.rw_citylines_k28_asks_and_leaves_at_each_mi).prog [41]) (H := K28.hk) (ob := K28.ob) (M := 20000) (loose := K28.loose) (d := HandSHeadRun.topDef (OpenLaw.row PySem.Challenge.rw_citylines_k28_asks_and_leaves_at_each_mi).prog 41) (kwd := []) K28.ob_eq
    (by kernel_rfl) (fun s => by kernel_rfl) K28.run (by kernel_rfl) (by kernel_rfl) (by kernel_rfl) (by rfl) (by first | assumption | decide +kernel) (by decide +kernel) ⟨rfl, rfl, rfl, rfl, rfl, by decide +kernel⟩ ?hw ?hc
  case hw => w_witness2
  case hc =>
    refine DL.walk_G (l := PySem.Challenge.rw_citylines_k28_asks_and_leaves_at_each_mi) (n := 63) (k := 8) (f := 29) (x := "script") (fs := K28.fs) rfl (by decide) (by kernel_rfl) ⟨rfl, by decide, by decide⟩ ?F K28.law_runs
    intro w mg fa h Y G hmg0
    obtain ⟨K, KX, c⟩ := Y
    have hmg : mg ("law" : PySem.Str) = some (.ref fa) := by
      have e : (HandSHeadRun.topDef (OpenLaw.row PySem.Challenge.rw_citylines_k28_asks_and_leaves_at_each_mi).prog 41).name = ("law" : PySem.Str) := by kernel_rfl
      rw [← e]
      exact hmg0
    obtain ⟨fd, D⟩ := K28.D_29 KX G c
    have e := hmg.symm.trans D.g
    cases e
    exact ⟨K, fd, KX, fun s v => D.bind s [v] rfl, fun base => DL.fns_ok (K28.mod_ok KX G c) 8 29 "law" _ _ fd _ _ _ _ rfl D⟩
