import PyProof.Rows.All
import Wide.All
import OpenK.AllK
import Wide.FinOn
import HandS.ForMost
import HandS.Deep
import KE.SortData
import KE.KDictKeyed
import HandS.TupAny
import HandS.Zip
import KE.KTupSum
import HandS.TupMul
import HandS.IsInst
import KE.KDictWalk
import KE.GoesEnum
import HandS.Comp
import KE.KDictDisplayH
import HandS.Style
import HandS.Conv
import HandS.Ends
import PySem.Challenge.RW_stillrows_k01_screens_and_rules_recogniz
section
set_option Elab.async false
set_option linter.all false
set_option maxRecDepth 100000
/-! Ev: an own small language (IR), its evaluator over plain data. -/
namespace Mi
open PySem

abbrev D := PyData
/-- a slot of a frame: nothing, a value that never changes, an object of the frame's own that may be changed -/
inductive Sl where
  | no | val (d : D) | own (d : D)
abbrev Ev := List Sl
def SZ : Nat := 16777216

inductive BO where | add | sub | mul | mod | fdiv | pow
  deriving DecidableEq
inductive CO where | eq | ne | lt | le | gt | ge | is | isn | inn | nin
  deriving DecidableEq
inductive Ty where | int | bool | str | tup | lst
  deriving DecidableEq
inductive F1 where | len | sum | sorted | list | tuple | abs | int | max | any | all | str | bool | dict
  deriving DecidableEq
inductive F2 where | max | min
  deriving DecidableEq
/-- targets -/
inductive T where
  | nm (i : Nat) | tp (ts : List T)

mutual
inductive E where
  | v (i : Nat)
  | c (d : D)
  | g (k : Nat)
  | tup (es : List E) | lst (es : List E)
  | bin (o : BO) (a b : E)
  | neg (a : E) | nt (a : E)
  | and (a b : E) | or (a b : E) | orS (a b : E)
  | cmp (o : CO) (a b : E)
  | ch (o o' : CO) (a b c : E)
  | ife (c a b : E)
  | idx (a i : E)
  | slc (a : E) (lo hi : Option E)
  | rev (a : E)
  | call (f : Nat) (es : List E)
  | callB (f i : Nat) (es : List E)
  | callK (f : Nat) (es : List E) (k : E)
  | f1 (f : F1) (a : E)
  | f2 (f : F2) (a b : E)
  | sset (a : E)
  | isi (a : E) (ts : List Ty)
  | comp (own : List Nat) (e : E) (t : T) (it : It) (cs : List E)
  | comp2 (own own2 : List Nat) (e : E) (t : T) (it : It) (t2 : T) (it2 : It)
  | listI (it : It)
  | get (a k : E) | join (a b : E) | split (a b : E) | index (a b : E) | sitems (a : E)
  | lenO (i : Nat) | idxO (i : Nat) (e : E) | inO (e : E) (i : Nat) (neg : Bool) | nilO (i : Nat) (neg : Bool)
inductive It where
  | val (e : E) | rng (a : E) | rng2 (a b : E) | enum (e : E) | zip (a b : E) | items (e : E) | vals (e : E)
end
/-- right sides of assignments: a value, or a new object of the frame's own -/
inductive O where
  | e (e : E) | lst (es : List E) | dct (kvs : List (E × E))
inductive S where
  | asg (i : Nat) (o : O)
  | par (is : List Nat) (os : List O)
  | unp (t : T) (e : E)
  | app (i : Nat) (e : E)
  | seti (i : Nat) (k v : E)
  | pop (j i : Nat)
  | iff (c : E) (a b : List S)
  | for_ (t : T) (it : It) (b : List S)
  | whl (n : Nat) (c : E) (b : List S)
  | ret (e : E)
  | ex (e : E)
  | rse

/-! ### the plain operations -/
def bnd {α β : Type} (x : Option (α × Ev)) (f : α → Ev → Option β) : Option β := match x with
  | some (a, e) => f a e
  | none => none
@[simp] theorem bnd_some {α β : Type} (a : α) (e : Ev) (f : α → Ev → Option β) : bnd (some (a, e)) f = f a e := rfl
@[simp] theorem bnd_none {α β : Type} (f : α → Ev → Option β) : bnd none f = none := rfl
def lft {α : Type} (env : Ev) (x : Option α) : Option (α × Ev) := match x with
  | some a => some (a, env)
  | none => none
@[simp] theorem lft_some {α : Type} (env : Ev) (a : α) : lft env (some a) = some (a, env) := rfl
@[simp] theorem lft_none {α : Type} (env : Ev) : lft env (none : Option α) = none := rfl
def gd {α : Type} (c : Bool) (x : Option α) : Option α := match c with
  | true => x
  | false => none
@[simp] theorem gd_true {α : Type} (x : Option α) : gd true x = x := rfl
@[simp] theorem gd_false {α : Type} (x : Option α) : gd false x = none := rfl

def rd (env : Ev) (i : Nat) : Option (D × Ev) := match env.getD i .no with
  | .val d => some (d, env)
  | .own d => some (d, env.set i (.val d))
  | .no => none
def pk (env : Ev) (i : Nat) : Option D := match env.getD i .no with
  | .val _ => none
  | .own d => some d
  | .no => none

def big : Int := 18446744073709551616
def binD : BO → D → D → Option D
  | .add, .int i, .int j => some (.int (i + j))
  | .add, .str x, .str y => gd (decide (x.length + y.length ≤ SZ)) (some (.str (x ++ y)))
  | .add, .tuple x, .tuple y => gd (decide (x.length + y.length ≤ SZ)) (some (.tuple (x ++ y)))
  | .add, .list x, .list y => gd (decide (x.length + y.length ≤ SZ)) (some (.list (x ++ y)))
  | .sub, .int i, .int j => some (.int (i - j))
  | .mul, .int i, .int j => gd (decide (-big < i) && decide (i < big) || decide (-big < j) && decide (j < big)) (some (.int (i * j)))
  | .mul, .tuple x, .int k => gd (decide (0 ≤ k) && decide (k < 1000) && decide (x.length ≤ 1000)) (some (.tuple (List.replicate k.toNat x).flatten))
  | .mul, .list x, .int k => gd (decide (0 ≤ k) && decide (k < 1000) && decide (x.length * k.toNat ≤ SZ)) (some (.list (List.replicate k.toNat x).flatten))
  | .mod, .int i, .int j => gd (decide (0 < j)) (some (.int (i % j)))
  | .fdiv, .int i, .int j => gd (decide (0 < j) && decide (j < 1073741824)) (some (.int (i / j)))
  | .pow, .int i, .int j => gd (decide (0 ≤ j) && decide (j ≤ 1000000) && decide (i.natAbs < 18446744073709551616)) (some (.int (i ^ j.toNat)))
  | _, _, _ => none

def okD (a : D) : Bool := SeqAt.shaped a
def keyN : D → Option NestedKey
  | .none => some .none
  | .int i => some (.num i)
  | .tuple xs => (keyNs xs).map .tup
  | _ => none
where keyNs : List D → Option (List NestedKey)
  | [] => some []
  | x :: xs => match keyN x, keyNs xs with
    | some k, some ks => some (k :: ks)
    | _, _ => none

/-- what a dict holds at a key -/
def dLook (kvs : List (D × D)) (k : D) : Option D := match kvs with
  | [] => none
  | (a, b) :: r => if PyData.eqv a k then some b else dLook r k
def dPut (kvs : List (D × D)) (k v : D) : List (D × D) := match kvs with
  | [] => [(k, v)]
  | (a, b) :: r => if PyData.eqv a k then (a, v) :: r else (a, b) :: dPut r k v
/-- the kinds of dict: keys all tuples of whole numbers (nested), or all whole numbers and None -/
def isTupKey : D → Bool
  | .tuple xs => match keyN (.tuple xs) with
    | some k => decide (k.depth ≤ 8)
    | none => false
  | _ => false
def isLeafKey : D → Bool
  | .int _ => true
  | .none => true
  | _ => false
def kindOk (kvs : List (D × D)) (k : D) : Bool := (isTupKey k && kvs.all fun p => isTupKey p.1) || (isLeafKey k && kvs.all fun p => isLeafKey p.1)

def idxD : D → D → Option D
  | .list xs, .int i => (L2.ixN xs.length i).bind fun j => xs[j]?
  | .tuple xs, .int i => (L2.ixN xs.length i).bind fun j => xs[j]?
  | .dict kvs, k => gd (kindOk kvs k) (dLook kvs k)
  | _, _ => none
def inD : D → D → Option Bool
  | x, .list ys => gd (okD x && okD (.list ys)) (some (ys.any fun z => PyData.eqv z x))
  | x, .tuple ys => gd (okD x && okD (.tuple ys)) (some (ys.any fun z => PyData.eqv z x))
  | x, .dict kvs => gd (kindOk kvs x) (some (dLook kvs x).isSome)
  | _, _ => none
def cmpD : CO → D → D → Option D
  | .eq, a, b => gd (okD a && okD b) (some (.bool (PyData.eqv a b)))
  | .ne, a, b => gd (okD a && okD b) (some (.bool (!PyData.eqv a b)))
  | .lt, .int i, .int j => some (.bool (decide (i < j)))
  | .le, .int i, .int j => some (.bool (decide (i ≤ j)))
  | .gt, .int i, .int j => some (.bool (decide (j < i)))
  | .ge, .int i, .int j => some (.bool (decide (j ≤ i)))
  | .is, a, .none => some (.bool (match a with | .none => true | _ => false))
  | .isn, a, .none => some (.bool (match a with | .none => false | _ => true))
  | .inn, a, b => (inD a b).map .bool
  | .nin, a, b => (inD a b).map fun c => .bool (!c)
  | _, _, _ => none

def intsL : List D → Option (List Int)
  | [] => some []
  | .int i :: r => match intsL r with
    | some is => some (i :: is)
    | none => none
  | _ => none
def bools : List D → Option (List Bool)
  | [] => some []
  | .bool i :: r => match bools r with
    | some is => some (i :: is)
    | none => none
  | _ => none
def strsL : List D → Option (List Str)
  | [] => some []
  | .str i :: r => match strsL r with
    | some is => some (i :: is)
    | none => none
  | _ => none
def pairsI : List D → List (D × D) → Option (List (D × D))
  | [], acc => some acc
  | .tuple [.int i, .int j] :: r, acc => pairsI r (dPut acc (.int i) (.int j))
  | _, _ => none
def maxL : List Int → Int → Int
  | [], m => m
  | x :: r, m => maxL r (if m < x then x else m)
def alikeL (ds : List D) : Bool := ds.all fun d => ds.all fun e => PySem.W.alike d e
def sortable (ds : List D) : Bool := (ds.all fun d => match d with | .tuple (_ :: _) => true | _ => false) || (ds.all fun d => match d with | .tuple _ => false | .none => false | _ => true)
def sortD (ds : List D) : List D := ds.mergeSort (PySem.W.dataLe false fun d => d)
def depthOk (ds : List D) : Bool := ds.all fun d => decide (d.depth ≤ 64)
/-- sorted(ds) -/
def sorted_ (ds : List D) : Option (List D) := gd (alikeL ds && sortable ds && depthOk ds && decide (ds.length ≤ SZ)) (some (sortD ds))
def dedup : List D → List D
  | [] => []
  | x :: r => x :: (dedup r).filter fun y => !PyData.eqv y x
def f1D : F1 → D → Option D
  | .len, .list xs => some (.int xs.length)
  | .len, .tuple xs => some (.int xs.length)
  | .sum, .list xs => (intsL xs).map fun is => .int is.sum
  | .sum, .tuple xs => (intsL xs).map fun is => .int is.sum
  | .sorted, .list xs => (sorted_ xs).map .list
  | .list, .list xs => some (.list xs)
  | .list, .tuple xs => some (.list xs)
  | .list, .dict kvs => some (.list (kvs.map (·.1)))
  | .tuple, .list xs => some (.tuple xs)
  | .tuple, .tuple xs => some (.tuple xs)
  | .abs, .int i => some (.int (if i < 0 then -i else i))
  | .int, .int i => some (.int i)
  | .int, .bool b => some (.int (if b then 1 else 0))
  | .max, .list xs => match intsL xs with
    | some (x :: r) => some (.int (maxL r x))
    | _ => none
  | .any, .list xs => (bools xs).map fun bs => .bool (bs.any id)
  | .all, .list xs => (bools xs).map fun bs => .bool (bs.all id)
  | .bool, .bool b => some (.bool b)
  | .dict, .tuple xs => (pairsI xs []).map .dict
  | _, _ => none
def f2D : F2 → D → D → Option D
  | .max, .int i, .int j => some (.int (if j > i then j else i))
  | .min, .int i, .int j => some (.int (if j < i then j else i))
  | _, _, _ => none
def ssetD : D → Option D
  | .list xs => match intsL xs with
    | some is => gd (decide (is.length ≤ 63)) ((sorted_ (dedup xs)).map .list)
    | none => none
  | _ => none
def isTy : D → Ty → Bool
  | .int _, .int => true
  | .bool _, .int => true
  | .bool _, .bool => true
  | .str _, .str => true
  | .tuple _, .tup => true
  | .list _, .lst => true
  | _, _ => false
def noDict : D → Bool
  | .dict _ => false
  | _ => true

/-- a slice -/
def cut {α : Type} (xs : List α) (lo hi : Option Int) : List α := (xs.drop (HT.sIx xs.length 0 lo)).take (HT.sIx xs.length xs.length hi - HT.sIx xs.length 0 lo)
def slcD : D → Option Int → Option Int → Option D
  | .list xs, lo, hi => some (.list (cut xs lo hi))
  | .tuple xs, lo, hi => some (.tuple (cut xs lo hi))
  | .str x, lo, hi => gd (decide (x.length ≤ SZ)) (some (.str (L2.cutS x lo hi)))
  | _, _, _ => none
def revD : D → Option D
  | .tuple xs => some (.tuple xs.reverse)
  | .list xs => some (.list xs.reverse)
  | _ => none
def asI : D → Option Int
  | .int i => some i
  | _ => none
def asB : D → Option Bool
  | .bool b => some b
  | _ => none
def joinS (s : Str) : List Str → Str
  | [] => ⟨#[]⟩
  | [x] => x
  | x :: r => x ++ s ++ joinS s r
def getD_ : D → D → Option D
  | .dict kvs, k => gd (kindOk kvs k) (some ((dLook kvs k).getD .none))
  | _, _ => none
def indexL (xs : List D) (x : D) : Nat → Option Nat
  | k => match xs with
    | [] => none
    | y :: r => if PyData.eqv y x then some k else indexL r x (k + 1)
def indexD : D → D → Option D
  | .list xs, x => gd (okD x && okD (.list xs)) ((indexL xs x 0).map fun (k : Nat) => .int k)
  | _, _ => none
/-- sorted(d.items()) -/
def itemsD : D → Option D
  | .dict kvs => (sorted_ (kvs.map fun p => .tuple [p.1, p.2])).map .list
  | _ => none

/-! ### targets and iterables -/
mutual
def bindT : T → D → Ev → Option Ev
  | .nm i, d, env => match env.getD i (.own .none) with
    | .own _ => none
    | _ => some (env.set i (.val d))
  | .tp ts, .tuple ds, env => bindTs ts ds env
  | .tp _, _, _ => none
def bindTs : List T → List D → Ev → Option Ev
  | [], [], env => some env
  | t :: ts, d :: ds, env => match bindT t d env with
    | some e => bindTs ts ds e
    | none => none
  | _, _, _ => none
end
def isTp : T → Bool
  | .nm _ => false
  | .tp _ => true
def enumL : Nat → List D → List D
  | _, [] => []
  | k, x :: r => .tuple [.int k, x] :: enumL (k + 1) r
def seqD : D → Option (List D)
  | .list xs => some xs
  | .tuple xs => some xs
  | _ => none
def rngL (lo : Int) : Nat → List D
  | 0 => []
  | n + 1 => .int lo :: rngL (lo + 1) n
def small (i : Int) : Bool := decide (-4611686018427387904 ≤ i) && decide (i < 4611686018427387904)

def wipeE (env : Ev) : List Nat → Ev
  | [] => env
  | i :: r => (wipeE env r).set i .no
/-- the slots of a comprehension's own names as they were -/
def back (env0 env : Ev) : List Nat → Ev
  | [] => env
  | i :: r => (back env0 env r).set i (env0.getD i .no)
def noOwn (env : Ev) (own : List Nat) : Bool := own.all fun i => match env.getD i (.own .none) with
  | .own _ => false
  | _ => true

/-- a comprehension's loop -/
def compL (own : List Nat) (bt : D → Ev → Option Ev) (cs : Ev → Option (Bool × Ev)) (el : Ev → Option (D × Ev)) : List D → Ev → Option (List D × Ev)
  | [], env => some ([], env)
  | x :: xs, env => match bt x (wipeE env own) with
    | none => none
    | some e1 => bnd (cs e1) fun b e2 => match b with
      | false => compL own bt cs el xs e2
      | true => bnd (el e2) fun y e3 => bnd (compL own bt cs el xs e3) fun ys e4 => some (y :: ys, e4)
def comp2L (own own2 : List Nat) (bt : D → Ev → Option Ev) (it2 : Ev → Option (List D × Ev)) (bt2 : D → Ev → Option Ev) (el : Ev → Option (D × Ev)) : List D → Ev → Option (List D × Ev)
  | [], env => some ([], env)
  | x :: xs, env => match bt x (wipeE env own) with
    | none => none
    | some e1 => bnd (it2 e1) fun ys e2 => bnd (compL own2 bt2 (fun e => some (true, e)) el ys e2) fun zs e3 =>
      bnd (comp2L own own2 bt it2 bt2 el xs e3) fun ws e4 => some (zs ++ ws, e4)
inductive Fl where
  | nx (env : Ev) | rt (d : D) (env : Ev)
def forL (bt : D → Ev → Option Ev) (body : Ev → Option Fl) : List D → Ev → Option Fl
  | [], env => some (.nx env)
  | x :: xs, env => match bt x env with
    | none => none
    | some e1 => match body e1 with
      | none => none
      | some (.rt d e) => some (.rt d e)
      | some (.nx e) => forL bt body xs e
def whlL (c : Ev → Option (D × Ev)) (body : Ev → Option Fl) : Nat → Ev → Option Fl
  | 0, _ => none
  | n + 1, env => bnd (c env) fun d e => match d with
    | .bool false => some (.nx e)
    | .bool true => match body e with
      | none => none
      | some (.rt d e) => some (.rt d e)
      | some (.nx e) => whlL c body n e
    | _ => none

/-- the functions: a result, and what its borrowed object (the first argument) has become -/
abbrev CF := Nat → List D → Option (D × Option D)
abbrev CD := Nat → D

section
variable (cf : CF) (cd : CD)
mutual
def evE : E → Ev → Option (D × Ev)
  | .v i, env => rd env i
  | .c d, env => some (d, env)
  | .g k, env => some (cd k, env)
  | .tup es, env => bnd (evEs es env) fun ds env => gd (decide (ds.length ≤ SZ)) (some (.tuple ds, env))
  | .lst es, env => bnd (evEs es env) fun ds env => gd (decide (ds.length ≤ SZ)) (some (.list ds, env))
  | .bin o a b, env => bnd (evE a env) fun x env => bnd (evE b env) fun y env => lft env (binD o x y)
  | .neg a, env => bnd (evE a env) fun x env => match x with
    | .int i => some (.int (-i), env)
    | _ => none
  | .nt a, env => bnd (evE a env) fun x env => match x with
    | .bool b => some (.bool (!b), env)
    | _ => none
  | .and a b, env => bnd (evE a env) fun x env => match x with
    | .bool true => evE b env
    | .bool false => some (.bool false, env)
    | _ => none
  | .or a b, env => bnd (evE a env) fun x env => match x with
    | .bool true => some (.bool true, env)
    | .bool false => evE b env
    | _ => none
  | .orS a b, env => bnd (evE a env) fun x env => match x with
    | .str s => if s.length = 0 then evE b env else some (.str s, env)
    | _ => none
  | .cmp o a b, env => bnd (evE a env) fun x env => bnd (evE b env) fun y env => lft env (cmpD o x y)
  | .ch o o' a b c, env => bnd (evE a env) fun x env => bnd (evE b env) fun y env => match cmpD o x y with
    | some (.bool true) => bnd (evE c env) fun z env => lft env (cmpD o' y z)
    | some (.bool false) => some (.bool false, env)
    | _ => none
  | .ife c a b, env => bnd (evE c env) fun x env => match x with
    | .bool true => evE a env
    | .bool false => evE b env
    | _ => none
  | .idx a i, env => bnd (evE a env) fun x env => bnd (evE i env) fun y env => lft env (idxD x y)
  | .slc a lo hi, env => bnd (evE a env) fun x env => bnd (evO lo env) fun l env => bnd (evO hi env) fun h env => lft env (slcD x l h)
  | .rev a, env => bnd (evE a env) fun x env => lft env (revD x)
  | .call f es, env => bnd (evEs es env) fun ds env => match cf f ds with
    | some (d, none) => some (d, env)
    | _ => none
  | .callB f i es, env => match env.getD i .no with
    | .own _ => bnd (evEs es env) fun ds env => match env.getD i .no with
      | .own b => match cf f (b :: ds) with
        | some (d, some b') => some (d, env.set i (.own b'))
        | _ => none
      | _ => none
    | _ => none
  | .callK f es k, env => bnd (evEs es env) fun ds env => bnd (evE k env) fun x env => match cf f (ds ++ [x]) with
    | some (d, none) => some (d, env)
    | _ => none
  | .f1 f a, env => bnd (evE a env) fun x env => lft env (f1D f x)
  | .f2 f a b, env => bnd (evE a env) fun x env => bnd (evE b env) fun y env => lft env (f2D f x y)
  | .sset a, env => bnd (evE a env) fun x env => lft env (ssetD x)
  | .isi a ts, env => bnd (evE a env) fun x env => gd (noDict x) (some (.bool (ts.any (isTy x)), env))
  | .comp own e t it cs, env => bnd (evI it env) fun xs env => gd (noOwn env own) (bnd (compL own (bindT t) (evCs cs) (evE e) xs env) fun ys env' => gd (decide (ys.length ≤ SZ)) (some (.list ys, back env env' own)))
  | .comp2 own own2 e t it t2 it2, env => bnd (evI it env) fun xs env => gd (noOwn env own) (bnd (comp2L own own2 (bindT t) (evI it2) (bindT t2) (evE e) xs env) fun ys env' => gd (decide (ys.length ≤ SZ)) (some (.list ys, back env env' own)))
  | .listI it, env => bnd (evI it env) fun xs env => gd (decide (xs.length ≤ SZ)) (some (.list xs, env))
  | .get a k, env => bnd (evE a env) fun x env => bnd (evE k env) fun y env => lft env (getD_ x y)
  | .join a b, env => bnd (evE a env) fun x env => bnd (evE b env) fun y env => none
  | .split a b, env => none
  | .index a b, env => bnd (evE a env) fun x env => bnd (evE b env) fun y env => lft env (indexD x y)
  | .sitems a, env => bnd (evE a env) fun x env => lft env (itemsD x)
  | .lenO i, env => match pk env i with
    | some (.list xs) => some (.int xs.length, env)
    | _ => none
  | .idxO i e, env => match pk env i with
    | some _ => bnd (evE e env) fun k env => match pk env i with
      | some d => lft env (idxD d k)
      | none => none
    | none => none
  | .inO e i neg, env => bnd (evE e env) fun k env => match pk env i with
    | some d => match inD k d with
      | some b => some (.bool (b != neg), env)
      | none => none
    | none => none
  | .nilO i neg, env => match pk env i with
    | some (.list xs) => gd (okD (.list xs)) (some (.bool (xs.isEmpty != neg), env))
    | _ => none
def evEs : List E → Ev → Option (List D × Ev)
  | [], env => some ([], env)
  | e :: es, env => bnd (evE e env) fun d env => bnd (evEs es env) fun ds env => some (d :: ds, env)
def evO : Option E → Ev → Option (Option Int × Ev)
  | none, env => some (none, env)
  | some e, env => bnd (evE e env) fun x env => match x with
    | .int i => some (some i, env)
    | _ => none
def evCs : List E → Ev → Option (Bool × Ev)
  | [], env => some (true, env)
  | [c], env => bnd (evE c env) fun x env => match x with
    | .bool b => some (b, env)
    | _ => none
  | _ :: _ :: _, _ => none
def evI : It → Ev → Option (List D × Ev)
  | .val e, env => bnd (evE e env) fun x env => match x with
    | .list xs => some (xs, env)
    | .tuple xs => some (xs, env)
    | .dict kvs => some (kvs.map (·.1), env)
    | _ => none
  | .rng a, env => bnd (evE a env) fun x env => match x with
    | .int j => gd (small j) (some (rngL 0 j.toNat, env))
    | _ => none
  | .rng2 a b, env => bnd (evE a env) fun x env => bnd (evE b env) fun y env => match x, y with
    | .int i, .int j => gd (small i && small j) (some (rngL i (j - i).toNat, env))
    | _, _ => none
  | .enum e, env => bnd (evE e env) fun x env => match seqD x with
    | some xs => some (enumL 0 xs, env)
    | none => none
  | .zip a b, env => bnd (evE a env) fun x env => bnd (evE b env) fun y env => match x, y with
    | .list xs, .list ys => some ((xs.zip ys).map fun p => .tuple [p.1, p.2], env)
    | .tuple xs, .tuple ys => some ((xs.zip ys).map fun p => .tuple [p.1, p.2], env)
    | _, _ => none
  | .items e, env => bnd (evE e env) fun x env => match x with
    | .dict kvs => some (kvs.map fun p => .tuple [p.1, p.2], env)
    | _ => none
  | .vals e, env => bnd (evE e env) fun x env => match x with
    | .dict kvs => some (kvs.map (·.2), env)
    | _ => none
end
def evOs : O → Ev → Option (Sl × Ev)
  | .e e, env => bnd (evE cf cd e env) fun d env => some (.val d, env)
  | .lst es, env => bnd (evEs cf cd es env) fun ds env => gd (decide (ds.length ≤ SZ)) (some (.own (.list ds), env))
  | .dct [], env => some (.own (.dict []), env)
  | .dct [(k, v)], env => bnd (evE cf cd k env) fun x env => bnd (evE cf cd v env) fun y env => gd (isTupKey x) (some (.own (.dict [(x, y)]), env))
  | .dct (_ :: _ :: _), _ => none
def evOL : List O → Ev → Option (List Sl × Ev)
  | [], env => some ([], env)
  | o :: os, env => bnd (evOs cf cd o env) fun s env => bnd (evOL os env) fun ss env => some (s :: ss, env)
def setAll : List Nat → List Sl → Ev → Ev
  | i :: is, s :: ss, env => setAll is ss (env.set i s)
  | _, _, env => env
def putD (d k v : D) : Option D := match d, k with
  | .list xs, .int i => (L2.ixN xs.length i).map fun j => .list (xs.set j v)
  | .dict kvs, k => gd (kindOk kvs k && decide (kvs.length < SZ)) (some (.dict (dPut kvs k v)))
  | _, _ => none
mutual
def evS : S → Ev → Option Fl
  | .asg i o, env => bnd (evOs cf cd o env) fun s env => some (.nx (env.set i s))
  | .par is os, env => bnd (evOL cf cd os env) fun ss env => some (.nx (setAll is ss env))
  | .unp t e, env => bnd (evE cf cd e env) fun d env => match bindT t d env with
    | some env => some (.nx env)
    | none => none
  | .app i e, env => match pk env i with
    | some (.list _) => bnd (evE cf cd e env) fun d env => match pk env i with
      | some (.list xs) => gd (decide (xs.length < SZ)) (some (.nx (env.set i (.own (.list (xs ++ [d]))))))
      | _ => none
    | _ => none
  | .seti i k v, env => bnd (evE cf cd v env) fun y env => match pk env i with
    | some _ => bnd (evE cf cd k env) fun x env => match pk env i with
      | some d => match putD d x y with
        | some d' => some (.nx (env.set i (.own d')))
        | none => none
      | none => none
    | none => none
  | .pop j i, env => match pk env i with
    | some (.list xs) => match xs.getLast? with
      | some d => some (.nx ((env.set i (.own (.list xs.dropLast))).set j (.val d)))
      | none => none
    | _ => none
  | .iff c a b, env => bnd (evE cf cd c env) fun x env => match x with
    | .bool true => evSs a env
    | .bool false => evSs b env
    | _ => none
  | .for_ t it b, env => bnd (evI cf cd it env) fun xs env => forL (bindT t) (evSs b) xs env
  | .whl n c b, env => whlL (evE cf cd c) (evSs b) n env
  | .ret e, env => bnd (evE cf cd e env) fun d env => some (.rt d env)
  | .ex e, env => bnd (evE cf cd e env) fun _ env => some (.nx env)
  | .rse, _ => none
def evSs : List S → Ev → Option Fl
  | [], env => some (.nx env)
  | s :: ss, env => match evS s env with
    | some (.nx env) => evSs ss env
    | some (.rt d env) => some (.rt d env)
    | none => none
end
end
/-- a function: its parameters, its names by slot, whether the first argument is borrowed (changed for the caller), its body -/
structure Fd where
  ps : List Str
  N : List Str
  bor : Bool
  body : List S
structure Tb where
  nm : Nat → Str
  fn : Nat → Fd
  cn : Nat → Str
  cd : CD
def startE (fd : Fd) (ds : List D) : Ev := (match fd.bor, ds with
  | true, d :: r => .own d :: r.map Sl.val
  | _, ds => ds.map Sl.val) ++ List.replicate (fd.N.length - ds.length) .no
def endE (bor : Bool) (d : D) (env : Ev) : Option (D × Option D) := match bor with
  | false => some (d, none)
  | true => match env.getD 0 .no with
    | .own b => some (d, some b)
    | _ => none
def runB (fd : Fd) (r : Option Fl) : Option (D × Option D) := match r with
  | some (.nx env) => endE fd.bor .none env
  | some (.rt d env) => endE fd.bor d env
  | none => none
def callF (t : Tb) : Nat → CF
  | 0 => fun _ _ => none
  | n + 1 => fun f ds => gd (decide (ds.length = (t.fn f).ps.length)) (runB (t.fn f) (evSs (callF t n) t.cd (t.fn f).body (startE (t.fn f) ds)))
end Mi
end
section
set_option Elab.async false
set_option linter.all false
set_option maxRecDepth 100000
set_option maxHeartbeats 1000000
/-! S1: how plain data stand in the abstract heap; states; how they go on. -/
namespace Mi
open PySem PySem.Spec PyProof.Rows L2

/-- entries of a dict: key, value, the key's hash -/
abbrev Rw := List (V × V × Int)
def RowOk (p : V × V × Int) (e : DictEntry) : Prop := RelV p.1 e.key ∧ RelV p.2.1 e.val ∧ e.hash = p.2.2
/-- a plain dict at a with these entries -/
def RawAt (a : Addr) (xs : Rw) (h : Heap) : Prop := (a == sysModules) = false ∧ xs.length ≤ sizeLine ∧ ∃ o es ep, h.get? a = some o ∧ o.ExactDict ∧ o.data = .dict es ep ∧ Paired RowOk xs es.toList
def dO (a : Addr) (xs : Rw) : HO := .ext (RawAt a xs)
/-- the hash of a key -/
def hashD (w : World) (d : D) : Option Int := (keyN d).map fun k => k.hash w

/-- a tuple, its object known to have no dict -/
def TupE (K : PySem.W.Frag) (H : Hp) (a : Addr) (xs : List V) : Prop :=
  (∃ o, H a = some (.frz o (.tup xs)) ∧ o.dict = none) ∨
    ∃ (o : Obj) (its : Array Value) (n : Nat), K.lookup a = some o ∧ o.cls = .type "tuple" ∧ o.dict = none ∧ o.data = .seq its n ∧ its.size ≤ sizeLine ∧ Vals xs its.toList
theorem TupE.sq {K : PySem.W.Frag} {H : Hp} {a : Addr} {xs : List V} (h : TupE K H a xs) : SqT K H a xs := by
  rcases h with ⟨o, h, _⟩ | ⟨o, its, n, h1, h2, _, h3, h4, h5⟩
  · exact .inl (.inr ⟨o, h⟩)
  · exact .inr ⟨o, its, n, h1, h2, h3, h4, h5⟩
/-- no key twice -/
def Nd (kvs : List (D × D)) : Prop := (kvs.map fun p => keyN p.1).Nodup
section
variable (w : World) (K : PySem.W.Frag)
mutual
inductive Rp (H : Hp) (M : Addr → Prop) : D → V → Prop where
  | non : Rp H M .none .non
  | bl (b : Bool) : Rp H M (.bool b) (.bl b)
  | int (i : Int) : Rp H M (.int i) (.int i)
  | str (x : Str) : Rp H M (.str x) (.str x)
  | lst {a : Addr} {xs : List V} {ds : List D} : H a = some (.lst xs) → ¬ M a → RpL H M ds xs → Rp H M (.list ds) (.ref a)
  | tup {a : Addr} {xs : List V} {ds : List D} : TupE K H a xs → RpL H M ds xs → Rp H M (.tuple ds) (.ref a)
  | dct {a : Addr} {o : Obj} {xs : Rw} {kvs : List (D × D)} : H a = some (.frz o (dO a xs)) → ¬ M a → RpR H M kvs xs → Nd kvs → Rp H M (.dict kvs) (.ref a)
inductive RpL (H : Hp) (M : Addr → Prop) : List D → List V → Prop where
  | nil : RpL H M [] []
  | cons {d : D} {ds : List D} {x : V} {xs : List V} : Rp H M d x → RpL H M ds xs → RpL H M (d :: ds) (x :: xs)
inductive RpR (H : Hp) (M : Addr → Prop) : List (D × D) → Rw → Prop where
  | nil : RpR H M [] []
  | cons {k v : D} {kvs : List (D × D)} {x y : V} {n : Int} {xs : Rw} : Rp H M k x → Rp H M v y → hashD w k = some n → RpR H M kvs xs → RpR H M ((k, v) :: kvs) ((x, y, n) :: xs)
end
/-- an object of a frame's own, that may be changed -/
inductive Ow (H : Hp) (M : Addr → Prop) : D → Addr → Prop where
  | lst {a : Addr} {xs : List V} {ds : List D} : H a = some (.lst xs) → RpL w K H M ds xs → Ow H M (.list ds) a
  | dct {a : Addr} {xs : Rw} {kvs : List (D × D)} : H a = some (dO a xs) → RpR w K H M kvs xs → Nd kvs → Ow H M (.dict kvs) a
end

/-- S: what may change from H to H' -/
structure Evo (S : Addr → Prop) (H : Hp) (M : Addr → Prop) (S' : Addr → Prop) (H' : Hp) (M' : Addr → Prop) : Prop where
  keep : ∀ a o, H a = some o → ¬ S a → H' a = some o
  mk' : ∀ a, H a ≠ none → M a → ¬ S a → M' a
  mo : ∀ a, H a ≠ none → M' a → M a
  sn : ∀ a, S' a → S a ∨ H a = none
  al : ∀ a, H a ≠ none → H' a ≠ none

theorem some_ne {α : Type} {x : Option α} {a : α} (h : x = some a) : x ≠ none := fun z => by rw [z] at h; cases h
theorem al_same {H H' : Hp} (s : Same H H') {a : Addr} (h : H a ≠ none) : H' a ≠ none := by
  cases e : H a with
  | none => exact absurd e h
  | some o => exact some_ne (s a o e)
theorem same_upd {H : Hp} {p : Addr} {o : HO} (h : H p = none) : Same H (upd H p o) := fun b x e => by
  rw [upd_ne (ne_of_none e h)]
  exact e
theorem SqT.same {K : PySem.W.Frag} {H H' : Hp} {a : Addr} {xs : List V} (e : ∀ o, H a = some o → H' a = some o) (h : SqT K H a xs) : SqT K H' a xs := by
  rcases h with (h | ⟨o, h⟩) | h
  · exact .inl (.inl (e _ h))
  · exact .inl (.inr ⟨o, e _ h⟩)
  · exact .inr h
theorem SqL.same {K : PySem.W.Frag} {H H' : Hp} {a : Addr} {xs : List V} (e : ∀ o, H a = some o → H' a = some o) (h : SqL K H a xs) : SqL K H' a xs := by
  rcases h with (h | ⟨o, h⟩) | h
  · exact .inl (.inl (e _ h))
  · exact .inl (.inr ⟨o, e _ h⟩)
  · exact .inr h

section
variable {w : World} {K : PySem.W.Frag} {S S' S'' M M' M'' : Addr → Prop} {H H' H'' : Hp}
theorem Evo.rfl' : Evo S H M S H M := ⟨fun _ _ h _ => h, fun _ _ h _ => h, fun _ _ h => h, fun _ h => .inl h, fun _ h => h⟩
theorem Evo.trans (a : Evo S H M S' H' M') (b : Evo S' H' M' S'' H'' M'') : Evo S H M S'' H'' M'' where
  keep := fun x o e n => b.keep x o (a.keep x o e n) fun z => (a.sn x z).elim n fun q => by rw [e] at q; cases q
  mk' := fun x e m n => b.mk' x (a.al x e) (a.mk' x e m n) fun z => (a.sn x z).elim n fun q => e q
  mo := fun x e m => a.mo x e (b.mo x (a.al x e) m)
  sn := fun x z => (b.sn x z).elim (a.sn x) fun q => .inr (by
    cases e : H x with
    | none => rfl
    | some o => exact absurd q (a.al x (some_ne e)))
  al := fun x e => b.al x (a.al x e)
/-- all stays, new objects may have come -/
theorem Evo.same (s : Same H H') : Evo S H M S H' M := ⟨fun a o e _ => s a o e, fun _ _ m _ => m, fun _ _ m => m, fun _ z => .inl z, fun _ e => Mi.al_same s e⟩
/-- an object that may be changed -/
def IsOw : HO → Prop
  | .lst _ => True
  | .ext _ => True
  | _ => False
def SOk (S : Addr → Prop) (H : Hp) (M : Addr → Prop) : Prop := ∀ a, S a → M a ∧ ∃ o, H a = some o ∧ IsOw o
theorem SOk.none {H : Hp} {M : Addr → Prop} : SOk (fun _ => False) H M := fun _ z => z.elim
mutual
theorem Rp.evo (e : Evo S H M S' H' M') (sm : SOk S H M) : ∀ {d : D} {v : V}, Rp w K H M d v → Rp w K H' M' d v
  | _, _, .non => .non
  | _, _, .bl b => .bl b
  | _, _, .int i => .int i
  | _, _, .str x => .str x
  | _, _, .lst h m r => .lst (e.keep _ _ h fun q => m (sm _ q).1) (fun z => m (e.mo _ (some_ne h) z)) (RpL.evo e sm r)
  | _, _, @Rp.tup _ _ _ _ a xs ds h r => by
    refine .tup ?_ (RpL.evo e sm r)
    rcases h with ⟨o, h, hd⟩ | h
    · refine .inl ⟨o, e.keep _ _ h fun q => ?_, hd⟩
      obtain ⟨_, o, eo, io⟩ := sm _ q
      rw [h] at eo
      cases eo
      exact io.elim
    · exact .inr h
  | _, _, .dct h m r nd => .dct (e.keep _ _ h fun q => m (sm _ q).1) (fun z => m (e.mo _ (some_ne h) z)) (RpR.evo e sm r) nd
theorem RpL.evo (e : Evo S H M S' H' M') (sm : SOk S H M) : ∀ {ds : List D} {xs : List V}, RpL w K H M ds xs → RpL w K H' M' ds xs
  | _, _, .nil => .nil
  | _, _, .cons h r => .cons (Rp.evo e sm h) (RpL.evo e sm r)
theorem RpR.evo (e : Evo S H M S' H' M') (sm : SOk S H M) : ∀ {kvs : List (D × D)} {xs : Rw}, RpR w K H M kvs xs → RpR w K H' M' kvs xs
  | _, _, .nil => .nil
  | _, _, .cons h1 h2 h3 r => .cons (Rp.evo e sm h1) (Rp.evo e sm h2) h3 (RpR.evo e sm r)
end
theorem Rp.same (e : Same H H') {d : D} {v : V} (h : Rp w K H M d v) : Rp w K H' M d v := h.evo (S := fun _ => False) (S' := fun _ => False) (Evo.same e) SOk.none
theorem RpL.same (e : Same H H') {d : List D} {v : List V} (h : RpL w K H M d v) : RpL w K H' M d v := h.evo (S := fun _ => False) (S' := fun _ => False) (Evo.same e) SOk.none
theorem RpR.same (e : Same H H') {d : List (D × D)} {v : Rw} (h : RpR w K H M d v) : RpR w K H' M d v := h.evo (S := fun _ => False) (S' := fun _ => False) (Evo.same e) SOk.none
theorem Ow.same (e : Same H H') {d : D} {a : Addr} (h : Ow w K H M d a) : Ow w K H' M d a := by
  cases h with
  | lst h r => exact .lst (e _ _ h) (r.same e)
  | dct h r nd => exact .dct (e _ _ h) (r.same e) nd
/-- an owned object stays where it is not among those that change -/
theorem Ow.evo (e : Evo S H M S' H' M') (sm : SOk S H M) {d : D} {a : Addr} (n : ¬ S a) (h : Ow w K H M d a) : Ow w K H' M' d a := by
  cases h with
  | lst h r => exact .lst (e.keep _ _ h n) (r.evo e sm)
  | dct h r nd => exact .dct (e.keep _ _ h n) (r.evo e sm) nd
theorem Ow.isOw {d : D} {a : Addr} (h : Ow w K H M d a) : ∃ o, H a = some o ∧ IsOw o := by
  cases h with
  | lst h r => exact ⟨_, h, trivial⟩
  | dct h r nd => exact ⟨_, h, trivial⟩
mutual
/-- fewer addresses to be shunned -/
theorem Rp.less (m : ∀ a, H a ≠ none → M' a → M a) : ∀ {d : D} {v : V}, Rp w K H M d v → Rp w K H M' d v
  | _, _, .non => .non
  | _, _, .bl b => .bl b
  | _, _, .int i => .int i
  | _, _, .str x => .str x
  | _, _, .lst h q r => .lst h (fun z => q (m _ (some_ne h) z)) (RpL.less m r)
  | _, _, .tup h r => .tup h (RpL.less m r)
  | _, _, .dct h q r nd => .dct h (fun z => q (m _ (some_ne h) z)) (RpR.less m r) nd
theorem RpL.less (m : ∀ a, H a ≠ none → M' a → M a) : ∀ {ds : List D} {xs : List V}, RpL w K H M ds xs → RpL w K H M' ds xs
  | _, _, .nil => .nil
  | _, _, .cons h r => .cons (Rp.less m h) (RpL.less m r)
theorem RpR.less (m : ∀ a, H a ≠ none → M' a → M a) : ∀ {kvs : List (D × D)} {xs : Rw}, RpR w K H M kvs xs → RpR w K H M' kvs xs
  | _, _, .nil => .nil
  | _, _, .cons h1 h2 h3 r => .cons (Rp.less m h1) (Rp.less m h2) h3 (RpR.less m r)
end
theorem RpL.length : ∀ {ds : List D} {xs : List V}, RpL w K H M ds xs → ds.length = xs.length
  | _, _, .nil => rfl
  | _, _, .cons _ r => by rw [List.length_cons, List.length_cons, r.length]
theorem RpR.length : ∀ {ds : List (D × D)} {xs : Rw}, RpR w K H M ds xs → ds.length = xs.length
  | _, _, .nil => rfl
  | _, _, .cons _ _ _ r => by rw [List.length_cons, List.length_cons, r.length]
theorem RpL.get : ∀ {ds : List D} {xs : List V} {i : Nat} {d : D}, RpL w K H M ds xs → ds[i]? = some d → ∃ v, xs[i]? = some v ∧ Rp w K H M d v
  | _, _, _, _, .nil, e => by simp at e
  | _, _, 0, _, .cons h _, e => by simp at e; subst e; exact ⟨_, rfl, h⟩
  | _, _, i + 1, d, .cons _ r, e => by
    obtain ⟨v, h1, h2⟩ := RpL.get (i := i) (d := d) r (by simpa using e)
    exact ⟨v, by simpa using h1, h2⟩
theorem RpL.append : ∀ {ds es : List D} {xs ys : List V}, RpL w K H M ds xs → RpL w K H M es ys → RpL w K H M (ds ++ es) (xs ++ ys)
  | _, _, _, _, .nil, r => r
  | _, _, _, _, .cons h q, r => .cons h (q.append r)
theorem RpL.take : ∀ {ds : List D} {xs : List V} (n : Nat), RpL w K H M ds xs → RpL w K H M (ds.take n) (xs.take n)
  | _, _, 0, _ => .nil
  | _, _, _ + 1, .nil => .nil
  | _, _, n + 1, .cons h r => .cons h (r.take n)
theorem RpL.drop : ∀ {ds : List D} {xs : List V} (n : Nat), RpL w K H M ds xs → RpL w K H M (ds.drop n) (xs.drop n)
  | _, _, 0, r => r
  | _, _, _ + 1, .nil => .nil
  | _, _, n + 1, .cons _ r => r.drop n
theorem RpL.set {d : D} {v : V} (h : Rp w K H M d v) : ∀ {ds : List D} {xs : List V} (i : Nat), RpL w K H M ds xs → RpL w K H M (ds.set i d) (xs.set i v)
  | _, _, _, .nil => .nil
  | _, _, 0, .cons _ r => .cons h r
  | _, _, i + 1, .cons q r => .cons q (RpL.set h i r)
theorem RpL.rep {ds : List D} {xs : List V} (h : RpL w K H M ds xs) : ∀ k : Nat, RpL w K H M (List.replicate k ds).flatten (List.replicate k xs).flatten
  | 0 => .nil
  | k + 1 => by
    rw [List.replicate_succ, List.replicate_succ, List.flatten_cons, List.flatten_cons]
    exact h.append (h.rep k)
theorem RpL.dropLast {ds : List D} {xs : List V} (h : RpL w K H M ds xs) : RpL w K H M ds.dropLast xs.dropLast := by
  rw [List.dropLast_eq_take, List.dropLast_eq_take, h.length]
  exact h.take _
theorem RpL.reverse : ∀ {ds : List D} {xs : List V}, RpL w K H M ds xs → RpL w K H M ds.reverse xs.reverse
  | _, _, .nil => .nil
  | _, _, .cons h r => by
    rw [List.reverse_cons, List.reverse_cons]
    exact r.reverse.append (.cons h .nil)
end

/-! ### the state of a frame -/
/-- the addresses of the objects of the frame's own -/
def OwA (env : Ev) (σ : L2.St) (a : Addr) : Prop := ∃ (i : Nat) (d : D), env[i]? = some (Sl.own d) ∧ σ[i]? = some (some (V.ref a))
structure SR (w : World) (K : PySem.W.Frag) (env : Ev) (M : Addr → Prop) (σ : L2.St) (H : Hp) : Prop where
  len : env.length = σ.length
  val : ∀ (i : Nat) (d : D), env[i]? = some (Sl.val d) → ∃ v, σ[i]? = some (some v) ∧ Rp w K H M d v
  own : ∀ (i : Nat) (d : D), env[i]? = some (Sl.own d) → ∃ a, σ[i]? = some (some (V.ref a)) ∧ M a ∧ Ow w K H M d a
  sep : ∀ (i j : Nat) (d e : D) (a : Addr), env[i]? = some (Sl.own d) → env[j]? = some (Sl.own e) → σ[i]? = some (some (V.ref a)) → σ[j]? = some (some (V.ref a)) → i = j
  mt : ∀ a, M a → H a ≠ none
section
variable {w : World} {K : PySem.W.Frag} {env env' : Ev} {M M' : Addr → Prop} {σ : L2.St} {H H' : Hp}
theorem SR.sok (r : SR w K env M σ H) : SOk (OwA env σ) H M := fun a ⟨i, d, e1, e2⟩ => by
  obtain ⟨b, h1, h2, h3⟩ := r.own i d e1
  rw [e2] at h1
  cases h1
  exact ⟨h2, h3.isOw⟩
theorem SR.same (r : SR w K env M σ H) (s : Same H H') : SR w K env M σ H' :=
  ⟨r.len, fun i d e => let ⟨v, h1, h2⟩ := r.val i d e; ⟨v, h1, h2.same s⟩, fun i d e => let ⟨a, h1, h2, h3⟩ := r.own i d e; ⟨a, h1, h2, h3.same s⟩, r.sep, fun a m => al_same s (r.mt a m)⟩
theorem getD_get {env : Ev} {i : Nat} {x y : Sl} (h : env.getD i x = y) (n : x ≠ y) : env[i]? = some y := by
  rw [List.getD_eq_getElem?_getD] at h
  cases e : env[i]? with
  | none => rw [e] at h; exact absurd h n
  | some z => rw [e] at h; exact congrArg some h
end
end Mi
end
section
set_option Elab.async false
set_option linter.all false
set_option maxRecDepth 100000
set_option maxHeartbeats 1000000
/-! S2: the operations on values. -/
namespace Mi
open PySem PySem.Spec PyProof.Rows L2

theorem SZ_line : SZ = sizeLine := by rw [sizeLine_eq]; rfl
def MT (M : Addr → Prop) (H : Hp) : Prop := ∀ a, M a → H a ≠ none
/-- what is wanted of a result: it holds of the plain value d however it stands, all that stood standing -/
def Wt (w : World) (K : PySem.W.Frag) (M : Addr → Prop) (H : Hp) (d : D) (Q : VK) : Prop := ∀ v H', Same H H' → Rp w K H' M d v → Q v H'
section
variable {w : World} {K : PySem.W.Frag} {M : Addr → Prop} {H : Hp} {d : D} {Q : VK}
theorem Wt.here (q : Wt w K M H d Q) {v : V} (r : Rp w K H M d v) : Q v H := q v H (Same.refl H) r
theorem MT.new (mt : MT M H) {p : Addr} (h : H p = none) : ¬ M p := fun m => mt p m h
theorem Wt.lst {xs : List V} {ds : List D} (q : Wt w K M H (.list ds) Q) (mt : MT M H) (r : RpL w K H M ds xs) {p : Addr} (h : H p = none) : Q (.ref p) (upd H p (.lst xs)) :=
  q _ _ (same_upd h) (.lst upd_same (mt.new h) (r.same (same_upd h)))
/-- a new tuple's object -/
def tO (its : List Value) : Obj := { cls := .type "tuple", data := .seq its.toArray }
theorem Wt.tup {xs : List V} {ds : List D} (q : Wt w K M H (.tuple ds) Q) (r : RpL w K H M ds xs) {p : Addr} (h : H p = none) {o : Obj} (hd : o.dict = none) : Q (.ref p) (upd H p (.frz o (.tup xs))) :=
  q _ _ (same_upd h) (.tup (.inl ⟨o, upd_same, hd⟩) (r.same (same_upd h)))
theorem newTup {X : Cx} {pins : List (Addr × Obj)} {σ : L2.St} {s : Shared} (I : Inv X pins σ H s) {xs : List V} {its : List Value} (rv : Vals xs its) (hz : xs.length ≤ sizeLine) {t' : Nat} :
    Inv X pins σ (upd H s.heap.objs.size (.frz (tO its) (.tup xs))) { s with heap := s.heap.push (tO its), toks := t' } :=
  I.laid (fun b u e => Heap.get?_push_of_some _ e) (Nat.le_refl _) ⟨Heap.get?_push_size _ rfl, hz, its, rv, ⟨_, Heap.get?_push_size _ rfl, rfl, _, rfl⟩⟩
theorem tupEnd {X : Cx} {pins : List (Addr × Obj)} {σ : L2.St} {s : Shared} (I : Inv X pins σ H s) {xs : List V} {ds : List D} {its : List Value} (rv : Vals xs its) (hz : xs.length ≤ sizeLine) (r : RpL w K H M ds xs) (q : Wt w K M H (.tuple ds) Q) {t' : Nat} :
    EP X pins σ Q (.ref s.heap.objs.size) { s with heap := s.heap.push (tO its), toks := t' } :=
  ⟨.ref _, _, newTup I rv hz, rfl, q.tup r (I.hok.fresh (Nat.le_refl _)) rfl⟩
end
theorem gd_some {α : Type} {c : Bool} {x : Option α} {a : α} (h : gd c x = some a) : c = true ∧ x = some a := by
  cases c with
  | true => exact ⟨rfl, h⟩
  | false => cases h
theorem gd_of {α : Type} {c : Bool} {a b : α} (h : gd c (some a) = some b) : c = true ∧ a = b := by
  obtain ⟨h1, h2⟩ := gd_some h
  exact ⟨h1, Option.some.inj h2⟩

/-- a two-place operation on values does what sem says on plain data -/
def rS (w : World) (K : PySem.W.Frag) (sem : D → D → Option D) : R2 := fun x y H Q => ∃ M dx dy d, MT M H ∧ Rp w K H M dx x ∧ Rp w K H M dy y ∧ sem dx dy = some d ∧ Wt w K M H d Q
def OpS (X : Cx) (f : Value → Value → Sem Value) (sem : D → D → Option D) : Prop := OpR X f (rS X.w X.K sem)
def rS1 (w : World) (K : PySem.W.Frag) (sem : D → Option D) : V → Hp → VK → Prop := fun x H Q => ∃ M dx d, MT M H ∧ Rp w K H M dx x ∧ sem dx = some d ∧ Wt w K M H d Q

section
variable {X : Cx}
theorem opAdd : OpS X (binaryOp .Add) (binD .add) := by
  intro pins s σ H x y v u Q I rx ry h
  obtain ⟨M, dx, dy, d, mt, px, py, hs, q⟩ := h
  cases px with
  | int i =>
    cases py with
    | int j =>
      cases hs
      exact op_add pins s σ H _ _ v u Q I rx ry ⟨i, j, rfl, rfl, q.here (.int _)⟩
    | _ => cases hs
  | str a =>
    cases py with
    | str b =>
      obtain ⟨hc, hd⟩ := gd_of (show gd _ (some _) = some d from hs)
      subst hd
      exact op_add_str pins s σ H _ _ v u Q I rx ry ⟨a, b, rfl, rfl, SZ_line ▸ of_decide_eq_true hc, q.here (.str _)⟩
    | _ => cases hs
  | tup ha ra =>
    cases py with
    | tup hb rb =>
      rename_i a xs ds b ys es
      obtain ⟨hc, hd⟩ := gd_of (show gd _ (some _) = some d from hs)
      subst hd
      cases rx
      cases ry
      obtain ⟨its, r1, p1, z1⟩ := I.tuple ha.sq
      obtain ⟨its2, r2, p2, z2⟩ := I.tuple hb.sq
      have hz : xs.length + ys.length ≤ sizeLine := by rw [← ra.length, ← rb.length]; exact SZ_line ▸ of_decide_eq_true hc
      by_cases hx : its = []
      · subst hx
        cases r1
        cases ra
        exact cat_tup0 p1 p2 ⟨.ref b, H, I, rfl, q.here (.tup hb rb)⟩
      · refine HT.cat_tup p1 p2 hx (fun z => ?_) (fun _ => tupEnd (t' := s.toks) I (r1.append r2) (by rw [List.length_append]; exact hz) (ra.append rb) q) (by rw [← r1.length, ← r2.length]; exact hz)
        subst z
        cases r2
        cases rb
        rw [List.append_nil] at q
        exact ⟨.ref a, H, I, rfl, q.here (.tup ha ra)⟩
    | _ => cases hs
  | lst ha ma ra =>
    cases py with
    | lst hb mb rb =>
      obtain ⟨hc, hd⟩ := gd_of (show gd _ (some _) = some d from hs)
      subst hd
      exact op_cat pins s σ H _ _ v u Q I rx ry ⟨_, _, _, _, rfl, rfl, ha, hb, by rw [← ra.length, ← rb.length]; exact SZ_line ▸ of_decide_eq_true hc, fun p hp => q.lst mt (ra.append rb) hp⟩
    | _ => cases hs
  | _ => cases py <;> cases hs
theorem opSub : OpS X (binaryOp .Sub) (binD .sub) := by
  intro pins s σ H x y v u Q I rx ry h
  obtain ⟨M, dx, dy, d, mt, px, py, hs, q⟩ := h
  cases px <;> cases py <;> cases hs
  exact op_sub pins s σ H _ _ v u Q I rx ry ⟨_, _, rfl, rfl, q.here (.int _)⟩
theorem opMod : OpS X (binaryOp .Mod) (binD .mod) := by
  intro pins s σ H x y v u Q I rx ry h
  obtain ⟨M, dx, dy, d, mt, px, py, hs, q⟩ := h
  cases px with
  | int i =>
    cases py with
    | int j =>
      obtain ⟨hc, hd⟩ := gd_of (show gd _ (some _) = some d from hs)
      subst hd
      exact op_mod pins s σ H _ _ v u Q I rx ry ⟨_, _, rfl, rfl, of_decide_eq_true hc, q.here (.int _)⟩
    | _ => cases hs
  | _ => cases py <;> cases hs
theorem opFdiv : OpS X (binaryOp .FloorDiv) (binD .fdiv) := by
  intro pins s σ H x y v u Q I rx ry h
  obtain ⟨M, dx, dy, d, mt, px, py, hs, q⟩ := h
  cases px with
  | int i =>
    cases py with
    | int j =>
      obtain ⟨hc, hd⟩ := gd_of (show gd _ (some _) = some d from hs)
      subst hd
      rw [Bool.and_eq_true] at hc
      exact op_fdiv pins s σ H _ _ v u Q I rx ry ⟨_, _, rfl, rfl, ⟨of_decide_eq_true hc.1, of_decide_eq_true hc.2⟩, q.here (.int _)⟩
    | _ => cases hs
  | _ => cases py <;> cases hs
theorem opPow : OpS X (binaryOp .Pow) (binD .pow) := by
  intro pins s σ H x y v u Q I rx ry h
  obtain ⟨M, dx, dy, d, mt, px, py, hs, q⟩ := h
  cases px with
  | int i =>
    cases py with
    | int j =>
      obtain ⟨hc, hd⟩ := gd_of (show gd _ (some _) = some d from hs)
      subst hd
      rw [Bool.and_eq_true, Bool.and_eq_true] at hc
      exact op_pow pins s σ H _ _ v u Q I rx ry ⟨_, _, rfl, rfl, ⟨of_decide_eq_true hc.1.1, of_decide_eq_true hc.1.2, of_decide_eq_true hc.2⟩, q.here (.int _)⟩
    | _ => cases hs
  | _ => cases py <;> cases hs
/-! ### a tuple times an int -/
theorem mul_same (l : Addr) (items : Array Value) (n : Nat) (dd : Option Addr) (sl : Array (Option Value)) (x : Int) (u : Tok) (c0 : (decide (x < -(2 ^ 63)) || decide (x ≥ 2 ^ 63)) = false) (c1 : (items.isEmpty || x == 1) = true) :
    Meets (Builtin.«tuple.__mul__» ⟨[.ref l, .int x u], []⟩) (fun _ R s => s.heap.get? l = some { cls := .type "tuple", dict := dd, data := .seq items n, slots := sl } ∧ R (.ok (.ret (.ref l))) s) :=
  .of_wp fun prog w A R s h => by
    obtain ⟨hp, g, d, tk, os⟩ := s
    obtain ⟨hl, h⟩ := h
    have f1 := AutoSeq1.idx_int
    wp_walk using wpAny_loadPart' hl
    first
      | exact ⟨_, rfl, h⟩
      | (refine wpAny_ite_false (decide_eq_false (by rw [c0]; exact Bool.false_ne_true)) ?_; wp_walk using wpAny_loadPart' hl; exact ⟨_, rfl, h⟩)
theorem mul_none (l : Addr) (items : Array Value) (n : Nat) (dd : Option Addr) (sl : Array (Option Value)) (u : Tok) (c1 : (items.isEmpty || (0 : Int) == 1) = false) :
    Meets (Builtin.«tuple.__mul__» ⟨[.ref l, .int 0 u], []⟩) (fun _ R s => s.heap.get? l = some { cls := .type "tuple", dict := dd, data := .seq items n, slots := sl } ∧
      R (.ok (.ret (.ref s.heap.objs.size))) { s with heap := s.heap.push { cls := .type "tuple", data := .seq #[] }, toks := s.toks }) :=
  .of_wp fun prog w A R s h => by
    obtain ⟨hp, g, d, tk, os⟩ := s
    obtain ⟨hl, h⟩ := h
    have f1 := AutoSeq1.idx_int
    wp_walk using wpAny_loadPart' hl
    refine wpAny_ite_false (decide_eq_false (by rw [c1]; exact Bool.false_ne_true)) ?_
    wp_walk using wpAny_loadPart' hl
    exact ⟨_, rfl, h⟩
/-- the way to tuple.__mul__ -/
theorem mul_way {X : Cx} {Q : Value → Shared → Prop} {s : Shared} {l : Addr} {items : Array Value} {n : Nat} {dd : Option Addr} {sl : Array (Option Value)} {k : Int} {t : Tok} (ho : s.heap.get? l = some ⟨.type "tuple", dd, .seq items n, sl⟩)
    (h : wpAny (model X.prog X.w) X.A (call (.builtin "tuple.__mul__") [.ref l, .int k t]) Q X.xe s) : wpAny (model X.prog X.w) X.A (binaryOp .Mult (.ref l) (.int k t)) Q X.xe s := by
  have ty : s.TypeIs (.ref l) "tuple" := ⟨_, ho, rfl⟩
  refine wpAny_binaryOp_repeat_ref (by decide) ty (fun z => typeIs_int z k t) noFill_tuple_mul F.fills_int_mul F.slot_int_rmul repeat_tuple F.slot_int_index.lookup ?_
  exact call_meets F.slot_int_rmul (typeIs_int s k t) F.entry_int_rmul (F.args_int_rmul_2 _ _) (int_rmul_tuple k t l items n dd sl) ⟨ho, rfl, ty, h⟩
theorem opMul : OpS X (binaryOp .Mult) (binD .mul) := by
  intro pins s σ H x y v u Q I rx ry h
  obtain ⟨M, dx, dy, d, mt, px, py, hs, q⟩ := h
  cases px with
  | int i =>
    cases py with
    | int j =>
      obtain ⟨hc, hd⟩ := gd_of (show gd _ (some _) = some d from hs)
      subst hd
      rw [Bool.or_eq_true, Bool.and_eq_true, Bool.and_eq_true] at hc
      refine op_mul pins s σ H _ _ v u Q I rx ry ⟨_, _, rfl, rfl, ?_, q.here (.int _)⟩
      rcases hc with hc | hc
      · exact .inl ⟨of_decide_eq_true hc.1, of_decide_eq_true hc.2⟩
      · exact .inr ⟨of_decide_eq_true hc.1, of_decide_eq_true hc.2⟩
    | _ => cases hs
  | tup ha ra =>
    cases py with
    | int k =>
      rename_i a xs ds
      obtain ⟨hc, hd⟩ := gd_of (show gd _ (some _) = some d from hs)
      subst hd
      rw [Bool.and_eq_true, Bool.and_eq_true] at hc
      have k0 : 0 ≤ k := of_decide_eq_true hc.1.1
      have k1 : k < 1000 := of_decide_eq_true hc.1.2
      have hz : ds.length ≤ 1000 := of_decide_eq_true hc.2
      obtain ⟨t, rfl⟩ := id ry
      cases id rx
      obtain ⟨its, rv, ⟨⟨cls, dd, data, sl⟩, ho, hcl, n, hdt⟩, hz2⟩ := I.tuple ha.sq
      simp only at hcl hdt
      subst hcl hdt
      have c0 : (decide (k < -(2 ^ 63)) || decide (k ≥ 2 ^ 63)) = false := by
        rw [decide_eq_false (by omega), decide_eq_false (by omega)] <;> rfl
      have ty : s.TypeIs (.ref a) "tuple" := ⟨_, ho, rfl⟩
      by_cases e1 : (its.toArray.isEmpty || k == 1) = true
      · refine mul_way ho (call_meets F.slot_tuple_mul ty F.entry_tuple_mul (F.args_tuple_mul_2 _ _) (mul_same a its.toArray n dd sl k t c0 e1) ⟨ho, ?_⟩)
        refine ⟨.ref a, H, I, rfl, q.here ?_⟩
        rw [Bool.or_eq_true] at e1
        rcases e1 with e | e
        · have : its = [] := by cases its with
            | nil => rfl
            | cons _ _ => cases e
          subst this
          cases rv
          cases ra
          have e2 : ∀ m, (List.replicate m ([] : List D)).flatten = [] := fun m => by
            induction m with
            | zero => rfl
            | succ m ih => rw [List.replicate_succ, List.flatten_cons, ih]; rfl
          rw [e2]
          exact .tup ha .nil
        · have : k = 1 := by simpa using e
          subst this
          show Rp _ _ _ _ (.tuple (List.replicate 1 ds).flatten) _
          rw [List.replicate_one, List.flatten_singleton]
          exact .tup ha ra
      · have e1 : (its.toArray.isEmpty || k == 1) = false := by simpa using e1
        by_cases e0 : k = 0
        · subst e0
          refine mul_way ho (call_meets F.slot_tuple_mul ty F.entry_tuple_mul (F.args_tuple_mul_2 _ _) (mul_none a its.toArray n dd sl t e1) ⟨ho, ?_⟩)
          exact tupEnd (ds := (List.replicate 0 ds).flatten) (its := []) (t' := s.toks) I .nil (Nat.zero_le _) .nil q
        · have e2 := e1
          rw [Bool.or_eq_false_iff] at e2
          have k2 : 2 ≤ k := by
            have := e2.2
            simp only [beq_eq_false_iff_ne] at this
            omega
          have hn : xs ≠ [] := fun e => by
            subst e
            cases rv
            exact absurd e2.1 (by simp)
          have hle : its.length = xs.length := rv.length.symm
          have hzx : xs.length ≤ 1000 := by rw [← ra.length]; exact hz
          have hm : ((its.toArray.size : Nat) : Int) * k ≤ 1000000 := by
            rw [List.size_toArray, hle]
            have a1 := Int.mul_le_mul_of_nonneg_right (show ((xs.length : Nat) : Int) ≤ 1000 by omega) k0
            omega
          have a2 : k.toNat * xs.length ≤ 1000 * 1000 := Nat.mul_le_mul (by omega) hzx
          have c2 : (decide (k ≤ 0) || its.toArray.isEmpty) = false := by rw [e2.1, decide_eq_false (by omega)]; rfl
          have c4 : Builtin.Tuple.tupleTooMany (((its.toArray.size : Nat) : Int) * k) = false := by
            unfold Builtin.Tuple.tupleTooMany
            rw [sizeLine_eq]
            exact decide_eq_false (by omega)
          have fl : (List.replicate k.toNat its).flatten.length ≤ sizeLine := by
            rw [PyProof.Rows.lm_len_rep_flat, hle, sizeLine_eq]
            omega
          refine mul_way ho (call_meets F.slot_tuple_mul ty F.entry_tuple_mul (F.args_tuple_mul_2 _ _) (tuple_mulW a its.toArray n dd sl k t c0 e1 c2 (by omega) c4 (by rw [size_rep, List.size_toArray]; exact fl)) ⟨ho, ?_⟩)
          rw [size_rep]
          exact tupEnd (t' := s.toks) I (rv.rep k.toNat) (by rw [(rv.rep k.toNat).length]; exact fl) (ra.rep k.toNat) q
    | _ => cases hs
  | lst ha ma ra =>
    cases py with
    | int k =>
      obtain ⟨hc, hd⟩ := gd_of (show gd _ (some _) = some d from hs)
      subst hd
      rw [Bool.and_eq_true, Bool.and_eq_true] at hc
      have k0 : 0 ≤ k := of_decide_eq_true hc.1.1
      have k1 : k < 1000 := of_decide_eq_true hc.1.2
      exact op_rep pins s σ H _ _ v u Q I rx ry ⟨_, k, _, rfl, rfl, ha, by omega, by omega, by rw [← ra.length]; exact SZ_line ▸ of_decide_eq_true hc.2, fun p hp => q.lst mt (ra.rep _) hp⟩
    | _ => cases hs
  | _ => cases py <;> cases hs

/-! ### comparisons -/
mutual
/-- no dict at any depth -/
def ndD : D → Bool
  | .list xs => ndL xs
  | .tuple xs => ndL xs
  | .dict _ => false
  | _ => true
def ndL : List D → Bool
  | [] => true
  | x :: xs => ndD x && ndL xs
end
mutual
theorem nd_lay : ∀ {d : D}, d.canLay0 = true → ndD d = true
  | .none, _ => rfl
  | .bool _, _ => rfl
  | .int _, _ => rfl
  | .str _, _ => rfl
  | .list xs, e => nd_lays (by simpa [PyData.canLay0] using e)
  | .tuple xs, e => nd_lays (by simpa [PyData.canLay0] using e)
  | .dict _, e => by simp [PyData.canLay0] at e
theorem nd_lays : ∀ {ds : List D}, PyData.canLayAll0 ds = true → ndL ds = true
  | [], _ => rfl
  | x :: xs, e => by
    rw [PyData.canLayAll0, Bool.and_eq_true] at e
    rw [ndL, nd_lay e.1, nd_lays e.2]
    rfl
end
mutual
theorem nd_alike : ∀ {d : D}, PySem.W.alike d d = true → ndD d = true
  | .none, _ => rfl
  | .bool _, _ => rfl
  | .int _, _ => rfl
  | .str _, _ => rfl
  | .list xs, e => nd_alikes (by simpa [PySem.W.alike] using e)
  | .tuple xs, e => nd_alikes (by simpa [PySem.W.alike] using e)
  | .dict _, e => by simp [PySem.W.alike] at e
theorem nd_alikes : ∀ {ds : List D}, PySem.W.alikeAll ds ds = true → ndL ds = true
  | [], _ => rfl
  | x :: xs, e => by
    rw [PySem.W.alikeAll, Bool.and_eq_true] at e
    rw [ndL, nd_alike e.1, nd_alikes e.2]
    rfl
end
mutual
theorem Rp.dpN {w : World} {K : PySem.W.Frag} {H : Hp} {M : Addr → Prop} : ∀ {d : D} {v : V}, Rp w K H M d v → ndD d = true → Dp K H v d
  | _, _, .non, _ => .non
  | _, _, .bl b, _ => .bl b
  | _, _, .int i, _ => .int i
  | _, _, .str x, _ => .str x
  | _, _, .lst h _ r, e => .lst (SqL.of h) (RpL.dpN r e)
  | _, _, .tup h r, e => .tup h.sq (RpL.dpN r e)
  | _, _, .dct _ _ _ _, e => by cases e
theorem RpL.dpN {w : World} {K : PySem.W.Frag} {H : Hp} {M : Addr → Prop} : ∀ {ds : List D} {xs : List V}, RpL w K H M ds xs → ndL ds = true → DpAll K H xs ds
  | _, _, .nil, _ => .nil
  | _, _, .cons h r, e => by
    rw [ndL, Bool.and_eq_true] at e
    exact .cons (h.dpN e.1) (r.dpN e.2)
end
theorem Rp.dp {w : World} {K : PySem.W.Frag} {H : Hp} {M : Addr → Prop} {d : D} {v : V} (h : Rp w K H M d v) (e : d.canLay0 = true) : Dp K H v d := h.dpN (nd_lay e)
theorem okD_lay {d : D} (h : okD d = true) : d.canLay0 = true := SeqAt.canLay_of_shaped h
theorem opEq (hu : X.A.units + 64 < cLine) : OpS X (compareOp .Eq) (cmpD .eq) := by
  intro pins s σ H x y v u Q I rx ry h
  obtain ⟨M, dx, dy, d, mt, px, py, hs, q⟩ := h
  obtain ⟨hc, hd⟩ := gd_of (show gd _ (some _) = some d from hs)
  subst hd
  rw [Bool.and_eq_true] at hc
  exact op_eqD hu pins s σ H _ _ v u Q I rx ry ⟨dx, dy, px.dp (okD_lay hc.1), py.dp (okD_lay hc.2), hc.1, hc.2, q.here (.bl _)⟩
theorem opNe (hu : X.A.units + 64 < cLine) : OpS X (compareOp .NotEq) (cmpD .ne) := by
  intro pins s σ H x y v u Q I rx ry h
  obtain ⟨M, dx, dy, d, mt, px, py, hs, q⟩ := h
  obtain ⟨hc, hd⟩ := gd_of (show gd _ (some _) = some d from hs)
  subst hd
  rw [Bool.and_eq_true] at hc
  exact op_neD hu pins s σ H _ _ v u Q I rx ry ⟨dx, dy, px.dp (okD_lay hc.1), py.dp (okD_lay hc.2), hc.1, hc.2, q.here (.bl _)⟩
theorem opLt : OpS X (compareOp .Lt) (cmpD .lt) := by
  intro pins s σ H x y v u Q I rx ry h
  obtain ⟨M, dx, dy, d, mt, px, py, hs, q⟩ := h
  cases px <;> cases py <;> cases hs
  exact op_lt pins s σ H _ _ v u Q I rx ry ⟨_, _, rfl, rfl, q.here (.bl _)⟩
theorem opLe : OpS X (compareOp .LtE) (cmpD .le) := by
  intro pins s σ H x y v u Q I rx ry h
  obtain ⟨M, dx, dy, d, mt, px, py, hs, q⟩ := h
  cases px <;> cases py <;> cases hs
  exact op_le pins s σ H _ _ v u Q I rx ry ⟨_, _, rfl, rfl, q.here (.bl _)⟩
theorem opGt : OpS X (compareOp .Gt) (cmpD .gt) := by
  intro pins s σ H x y v u Q I rx ry h
  obtain ⟨M, dx, dy, d, mt, px, py, hs, q⟩ := h
  cases px <;> cases py <;> cases hs
  exact op_gt pins s σ H _ _ v u Q I rx ry ⟨_, _, rfl, rfl, q.here (.bl _)⟩
theorem opGe : OpS X (compareOp .GtE) (cmpD .ge) := by
  intro pins s σ H x y v u Q I rx ry h
  obtain ⟨M, dx, dy, d, mt, px, py, hs, q⟩ := h
  cases px <;> cases py <;> cases hs
  exact op_ge pins s σ H _ _ v u Q I rx ry ⟨_, _, rfl, rfl, q.here (.bl _)⟩
theorem opIs : OpS X (compareOp .Is) (cmpD .is) := by
  intro pins s σ H x y v u Q I rx ry h
  obtain ⟨M, dx, dy, d, mt, px, py, hs, q⟩ := h
  cases py <;> first | (cases px <;> cases hs <;> fail) | skip
  refine op_isN pins s σ H _ _ v u Q I rx ry ⟨rfl, ?_⟩
  cases px <;> cases hs <;> exact q.here (.bl _)
theorem opIsn : OpS X (compareOp .IsNot) (cmpD .isn) := by
  intro pins s σ H x y v u Q I rx ry h
  obtain ⟨M, dx, dy, d, mt, px, py, hs, q⟩ := h
  cases py <;> first | (cases px <;> cases hs <;> fail) | skip
  refine op_notN pins s σ H _ _ v u Q I rx ry ⟨rfl, ?_⟩
  cases px <;> cases hs <;> exact q.here (.bl _)
end
end Mi
end
section
set_option Elab.async false
set_option linter.all false
set_option maxRecDepth 100000
set_option maxHeartbeats 1000000
/-! S2d: dicts. -/
namespace Mi
open PySem PySem.Spec PyProof.Rows L2

/-! ### keys -/
mutual
theorem eqv_key : ∀ {a b : D} {x y : NestedKey}, keyN a = some x → keyN b = some y → PyData.eqv a b = NestedKey.beq x y
  | .none, b, x, y, h1, h2 => by
    cases h1
    cases b <;> simp [keyN] at h2 <;> first | (subst h2; simp [PyData.eqv, NestedKey.beq]; done) | skip
    obtain ⟨ks, _, rfl⟩ := h2
    simp [PyData.eqv, NestedKey.beq]
  | .int i, b, x, y, h1, h2 => by
    cases h1
    cases b <;> simp [keyN] at h2 <;> first | (subst h2; simp [PyData.eqv, NestedKey.beq]; done) | skip
    · subst h2
      simp only [PyData.eqv, NestedKey.beq, Bool.beq_eq_decide_eq]
    · obtain ⟨ks, _, rfl⟩ := h2
      simp [PyData.eqv, NestedKey.beq]
  | .tuple as, b, x, y, h1, h2 => by
    simp only [keyN, Option.map_eq_some_iff] at h1
    obtain ⟨ks, e1, rfl⟩ := h1
    cases b <;> simp [keyN] at h2
    · subst h2; simp [PyData.eqv, NestedKey.beq]
    · subst h2; simp [PyData.eqv, NestedKey.beq]
    · obtain ⟨ls, e2, rfl⟩ := h2
      simp only [PyData.eqv, NestedKey.beq]
      exact eqv_keys e1 e2
  | .bool _, _, _, _, h1, _ => by cases h1
  | .str _, _, _, _, h1, _ => by cases h1
  | .list _, _, _, _, h1, _ => by cases h1
  | .dict _, _, _, _, h1, _ => by cases h1
theorem eqv_keys : ∀ {as bs : List D} {xs ys : List NestedKey}, keyN.keyNs as = some xs → keyN.keyNs bs = some ys → PyData.eqvAll as bs = NestedKey.beqAll xs ys
  | [], [], _, _, h1, h2 => by cases h1; cases h2; simp [PyData.eqvAll, NestedKey.beqAll]
  | [], b :: bs, _, ys, h1, h2 => by
    cases h1
    simp only [keyN.keyNs] at h2
    split at h2 <;> cases h2
    simp [PyData.eqvAll, NestedKey.beqAll]
  | a :: as, [], xs, _, h1, h2 => by
    cases h2
    simp only [keyN.keyNs] at h1
    split at h1 <;> cases h1
    simp [PyData.eqvAll, NestedKey.beqAll]
  | a :: as, b :: bs, xs, ys, h1, h2 => by
    simp only [keyN.keyNs] at h1 h2
    split at h1 <;> cases h1
    split at h2 <;> cases h2
    simp only [PyData.eqvAll, NestedKey.beqAll]
    rw [eqv_key (by assumption) (by assumption), eqv_keys (by assumption) (by assumption)]
end
theorem eqv_dec {a b : D} {x y : NestedKey} (h1 : keyN a = some x) (h2 : keyN b = some y) : PyData.eqv a b = decide (x = y) := by
  rw [eqv_key h1 h2, NestedKey.decide_eq]

section
variable {X : Cx} {pins : List (Addr × Obj)} {σ : L2.St} {H : Hp} {s : Shared} {M : Addr → Prop}
mutual
/-- a plain value that may be a key is that key in the heap -/
theorem Rp.nested (I : Inv X pins σ H s) : ∀ {d : D} {v : V} {u : Value} {k : NestedKey}, Rp X.w X.K H M d v → RelV v u → keyN d = some k → NestedIs s.heap k u
  | _, _, _, _, .non, r, e => by cases r; cases e; exact .none
  | _, _, _, _, .bl _, _, e => by cases e
  | _, _, _, _, .int i, r, e => by
    obtain ⟨t, rfl⟩ := r
    cases e
    exact .int _ _
  | _, _, _, _, .str _, _, e => by cases e
  | _, _, _, _, .lst _ _ _, _, e => by cases e
  | _, _, _, _, .tup h r, q, e => by
    cases q
    simp only [keyN, Option.map_eq_some_iff] at e
    obtain ⟨ks, e1, rfl⟩ := e
    obtain ⟨its, rv, ⟨o, ho, hc, n, hd⟩, _⟩ := I.tuple h.sq
    exact .tup ho hc hd (by simpa using RpL.nested I r rv e1)
  | _, _, _, _, .dct _ _ _ _, _, e => by cases e
theorem RpL.nested (I : Inv X pins σ H s) : ∀ {ds : List D} {xs : List V} {us : List Value} {ks : List NestedKey}, RpL X.w X.K H M ds xs → Vals xs us → keyN.keyNs ds = some ks → NestedAll s.heap ks us
  | _, _, _, _, .nil, r, e => by
    cases r
    cases e
    exact .nil
  | _, _, _, _, .cons h r, q, e => by
    cases q with
    | cons q1 q2 =>
      simp only [keyN.keyNs] at e
      split at e <;> cases e
      exact .cons (h.nested I q1 (by assumption)) (r.nested I q2 (by assumption))
end
end

/-! ### the kinds of dict -/
/-- whole numbers and None, by their exact values -/
def nb : Value → Bool
  | .bool _ => false
  | _ => true
def exKind (P : Program) (w : World) : KeyKind P w Leaf where
  is := fun k v => (leafKind P w).is k v && nb v
  hash := (leafKind P w).hash
  inj := fun v a b ha hb => (leafKind P w).inj v a b (Bool.and_eq_true_iff.mp ha).1 (Bool.and_eq_true_iff.mp hb).1
  byValue := fun k v h => (leafKind P w).byValue k v (Bool.and_eq_true_iff.mp h).1
  pyHash := fun hv h => (leafKind P w).pyHash (Bool.and_eq_true_iff.mp hv).1 h
  eqBool := fun hu hv h => (leafKind P w).eqBool (Bool.and_eq_true_iff.mp hu).1 (Bool.and_eq_true_iff.mp hv).1 h
  «strs» := fun k x t v h => by
    rw [Bool.and_eq_true] at h
    show ((leafKind P w).is k v && nb v) = _
    rw [(leafKind P w).strs k x t v h.1]
    cases v <;> first | rfl | (simp [nb]; done)
def leafOf : D → Option Leaf
  | .none => some .none
  | .int i => some (.num i)
  | _ => none
theorem leaf_key {k : D} {l : Leaf} (h : leafOf k = some l) : keyN k = some l.key := by
  cases k <;> cases h <;> rfl
theorem eqv_leaf {a b : D} {x y : Leaf} (h1 : leafOf a = some x) (h2 : leafOf b = some y) : PyData.eqv a b = decide (x = y) := by
  rw [eqv_dec (leaf_key h1) (leaf_key h2)]
  by_cases e : x = y
  · rw [decide_eq_true e, decide_eq_true (congrArg Leaf.key e)]
  · rw [decide_eq_false e, decide_eq_false fun z => e (Leaf.key_inj z)]
theorem isLeaf_of {k : D} (h : isLeafKey k = true) : ∃ l, leafOf k = some l := by
  cases k <;> first | exact ⟨_, rfl⟩ | cases h
theorem isTup_of {k : D} (h : isTupKey k = true) : ∃ n, keyN k = some n ∧ n.depth ≤ 8 := by
  cases k <;> simp only [isTupKey] at h <;> first | cases h | skip
  split at h
  · exact ⟨_, by assumption, of_decide_eq_true h⟩
  · cases h
theorem isTup_ref {w : World} {K : PySem.W.Frag} {H : Hp} {M : Addr → Prop} {k : D} {v : V} (h : isTupKey k = true) (r : Rp w K H M k v) : ∃ a, v = .ref a := by
  cases r <;> first | exact ⟨_, rfl⟩ | (simp [isTupKey] at h; done)

section
variable (w : World) (K : PySem.W.Frag) (H : Hp) (M : Addr → Prop)
inductive RT : List (D × D) → List (NestedKey × Addr × Value) → Prop where
  | nil : RT [] []
  | cons {k v : D} {nk : NestedKey} {ka : Addr} {vv : V} {u : Value} {kvs : List (D × D)} {ys : List (NestedKey × Addr × Value)} : keyN k = some nk → nk.depth ≤ 8 → Rp w K H M k (.ref ka) → Rp w K H M v vv → RelV vv u → RT kvs ys → RT ((k, v) :: kvs) ((nk, ka, u) :: ys)
inductive RL : List (D × D) → List (Leaf × Value) → Prop where
  | nil : RL [] []
  | cons {k v : D} {l : Leaf} {vv : V} {u : Value} {kvs : List (D × D)} {ys : List (Leaf × Value)} : leafOf k = some l → Rp w K H M v vv → RelV vv u → RL kvs ys → RL ((k, v) :: kvs) ((l, u) :: ys)
end
section
variable {P : Program} {w : World} {K : PySem.W.Frag} {H : Hp} {M : Addr → Prop}
theorem toRT : ∀ {kvs : List (D × D)} {xs : Rw} {es : List DictEntry}, RpR w K H M kvs xs → Paired RowOk xs es → (kvs.all fun p => isTupKey p.1) = true → ∃ ys, RT w K H M kvs ys ∧ es = ys.map (entryOfKey (nestedKind P w))
  | _, _, _, .nil, q, _ => by
    cases q
    exact ⟨[], .nil, rfl⟩
  | _, _, _, .cons h1 h2 h3 r, q, t => by
    cases q with
    | @cons _ en _ _ q1 q2 =>
      obtain ⟨eh, ek, ev⟩ := en
      obtain ⟨q3, q4, q5⟩ := q1
      rw [List.all_cons, Bool.and_eq_true] at t
      obtain ⟨nk, e1, e2⟩ := isTup_of t.1
      obtain ⟨ka, rfl⟩ := isTup_ref t.1 h1
      obtain ⟨ys, p, rfl⟩ := toRT r q2 t.2
      refine ⟨(nk, ka, _) :: ys, .cons e1 e2 h1 h2 q4 p, ?_⟩
      rw [List.map_cons]
      congr 1
      have z : ek = Value.ref ka := q3
      subst z
      rw [hashD, e1] at h3
      have z2 : nk.hash w = _ := Option.some.inj h3
      show DictEntry.mk eh _ _ = ⟨nk.hash w, _, _⟩
      rw [show eh = _ from q5, z2]
theorem ofRT : ∀ {kvs : List (D × D)} {ys : List (NestedKey × Addr × Value)}, RT w K H M kvs ys → ∃ xs, RpR w K H M kvs xs ∧ Paired RowOk xs (ys.map (entryOfKey (nestedKind P w)))
  | _, _, .nil => ⟨[], .nil, .nil⟩
  | _, _, @RT.cons _ _ _ _ k v nk ka vv u kvs ys h1 _ h3 h4 h5 r => by
    obtain ⟨xs, a, b⟩ := ofRT r
    refine ⟨(.ref ka, vv, nk.hash w) :: xs, .cons h3 h4 ?_ a, .cons ⟨rfl, h5, rfl⟩ b⟩
    rw [hashD, h1]
    rfl
theorem RT.nd : ∀ {kvs : List (D × D)} {ys : List (NestedKey × Addr × Value)}, RT w K H M kvs ys → (kvs.map fun p => keyN p.1) = (ys.map (·.1)).map some
  | _, _, .nil => rfl
  | _, _, .cons h1 _ _ _ _ r => by
    rw [List.map_cons, List.map_cons, List.map_cons, h1, r.nd]
theorem nodup_some {α : Type} {l : List α} (h : (l.map some).Nodup) : l.Nodup := by
  rw [List.Nodup, List.pairwise_map] at h
  exact h.imp fun z e => z (congrArg some e)
theorem some_nodup {α : Type} {l : List α} (h : l.Nodup) : (l.map some).Nodup := by
  rw [List.Nodup, List.pairwise_map]
  exact h.imp fun z e => z (Option.some.inj e)
theorem RT.length : ∀ {kvs : List (D × D)} {ys : List (NestedKey × Addr × Value)}, RT w K H M kvs ys → kvs.length = ys.length
  | _, _, .nil => rfl
  | _, _, .cons _ _ _ _ _ r => by rw [List.length_cons, List.length_cons, r.length]
theorem RT.look {k : D} {nk : NestedKey} (hk : keyN k = some nk) : ∀ {kvs : List (D × D)} {ys : List (NestedKey × Addr × Value)}, RT w K H M kvs ys →
    (∀ v, dLook kvs k = some v → ∃ p vv, atKey ys nk = some p ∧ Rp w K H M v vv ∧ RelV vv p.2) ∧ (dLook kvs k = none → atKey ys nk = none)
  | _, _, .nil => ⟨fun v e => (by cases e), fun _ => rfl⟩
  | _, _, @RT.cons _ _ _ _ k' v' nk' ka vv u kvs ys h1 _ h3 h4 h5 r => by
    have e := eqv_dec h1 hk
    obtain ⟨a, b⟩ := r.look hk
    by_cases z : nk' = nk
    · rw [decide_eq_true z] at e
      have el : dLook ((k', v') :: kvs) k = some v' := by rw [dLook, if_pos e]
      have ea : atKey ((nk', ka, u) :: ys) nk = some (ka, u) := by simp [atKey, z]
      rw [el, ea]
      exact ⟨fun v q => ⟨_, vv, rfl, Option.some.inj q ▸ h4, h5⟩, fun q => (by cases q)⟩
    · rw [decide_eq_false z] at e
      have el : dLook ((k', v') :: kvs) k = dLook kvs k := by rw [dLook, if_neg (by rw [e]; exact Bool.false_ne_true)]
      have ea : atKey ((nk', ka, u) :: ys) nk = atKey ys nk := by simp [atKey, z]
      rw [el, ea]
      exact ⟨a, b⟩
theorem RT.out {k : D} {nk : NestedKey} (hk : keyN k = some nk) {kvs : List (D × D)} {ys : List (NestedKey × Addr × Value)} (h : RT w K H M kvs ys) : (dLook kvs k).isSome = (atKey ys nk).isSome := by
  obtain ⟨a, b⟩ := h.look hk
  cases e : dLook kvs k with
  | none => rw [b e]; rfl
  | some v =>
    obtain ⟨p, vv, e1, _⟩ := a v e
    rw [e1]; rfl
theorem atKey_cons {y : NestedKey × Addr × Value} {ys : List (NestedKey × Addr × Value)} {nk : NestedKey} : atKey (y :: ys) nk = if y.1 = nk then some y.2 else atKey ys nk := by
  by_cases z : y.1 = nk <;> simp [atKey, z]
theorem not_mem_of {ys : List (NestedKey × Addr × Value)} {nk : NestedKey} (h : nk ∉ ys.map (·.1)) : atKey ys nk = none :=
  atKey_none_of_get fun j p e => h (List.mem_map.mpr ⟨_, List.mem_of_getElem? e, rfl⟩)
theorem storedH_cons {y : NestedKey × Addr × Value} {ys : List (NestedKey × Addr × Value)} {nk : NestedKey} {a : Addr} {u : Value} (nd : ((y :: ys).map (·.1)).Nodup) :
    storedH (y :: ys) nk a u = if y.1 = nk then (y.1, y.2.1, u) :: ys else y :: storedH ys nk a u := by
  by_cases z : y.1 = nk
  · rw [if_pos z, storedH_old (p := y.2) (by rw [atKey_cons, if_pos z]), List.map_cons]
    rw [List.map_cons, List.nodup_cons] at nd
    rw [map_putAt_of_not_mem ys nk u (by rw [← z]; exact nd.1)]
    congr 1
    unfold putAt
    rw [if_pos z]
  · rw [if_neg z]
    cases e : atKey ys nk with
    | none => rw [storedH_new (by rw [atKey_cons, if_neg z]; exact e), storedH_new e]; rfl
    | some p =>
      rw [storedH_old (p := p) (by rw [atKey_cons, if_neg z]; exact e), storedH_old e, List.map_cons]
      congr 1
      unfold putAt
      rw [if_neg z]
theorem RT.put {k v : D} {nk : NestedKey} {ka : Addr} {vv : V} {u : Value} (hk : keyN k = some nk) (hd : nk.depth ≤ 8) (h1 : Rp w K H M k (.ref ka)) (h2 : Rp w K H M v vv) (h3 : RelV vv u) :
    ∀ {kvs : List (D × D)} {ys : List (NestedKey × Addr × Value)}, RT w K H M kvs ys → (ys.map (·.1)).Nodup → RT w K H M (dPut kvs k v) (storedH ys nk ka u)
  | _, _, .nil, _ => by
    rw [storedH_new rfl]
    exact .cons hk hd h1 h2 h3 .nil
  | _, _, @RT.cons _ _ _ _ k' v' nk' ka' vv' u' kvs ys g1 g2 g3 g4 g5 r, nd => by
    rw [storedH_cons nd]
    have e := eqv_dec g1 hk
    rw [List.map_cons, List.nodup_cons] at nd
    by_cases z : nk' = nk
    · rw [decide_eq_true z] at e
      rw [if_pos z, dPut, if_pos e]
      exact .cons g1 g2 g3 h2 h3 r
    · rw [decide_eq_false z] at e
      rw [if_neg z, dPut, if_neg (by rw [e]; exact Bool.false_ne_true)]
      exact .cons g1 g2 g3 g4 g5 (r.put hk hd h1 h2 h3 nd.2)
theorem RT.evo {S S' M' : Addr → Prop} {H' : Hp} (e : Evo S H M S' H' M') (sm : SOk S H M) : ∀ {kvs : List (D × D)} {ys : List (NestedKey × Addr × Value)}, RT w K H M kvs ys → RT w K H' M' kvs ys
  | _, _, .nil => .nil
  | _, _, .cons g1 g2 g3 g4 g5 r => .cons g1 g2 (g3.evo e sm) (g4.evo e sm) g5 (r.evo e sm)
theorem dPut_keys (kvs : List (D × D)) (k v : D) (nk : NestedKey) (hk : keyN k = some nk) (h : ∀ p ∈ kvs, ∃ n, keyN p.1 = some n) (nd : Nd kvs) : Nd (dPut kvs k v) ∧ ∀ z, z ∈ (dPut kvs k v).map (fun p => keyN p.1) → z ∈ (kvs.map fun p => keyN p.1) ∨ z = some nk := by
  induction kvs with
  | nil =>
    refine ⟨?_, fun z hz => .inr ?_⟩
    · show ([keyN k]).Nodup
      simp
    · have : z = keyN k := by simpa [dPut] using hz
      rw [this, hk]
  | cons p r ih =>
    obtain ⟨k', v'⟩ := p
    obtain ⟨n', hn'⟩ := h _ List.mem_cons_self
    have nd' : Nd r := (List.nodup_cons.mp nd).2
    have e := eqv_dec hn' hk
    by_cases z : n' = nk
    · rw [decide_eq_true z] at e
      rw [dPut, if_pos e]
      exact ⟨nd, fun z hz => .inl hz⟩
    · rw [decide_eq_false z] at e
      rw [dPut, if_neg (by rw [e]; exact Bool.false_ne_true)]
      obtain ⟨i1, i2⟩ := ih (fun q hq => h q (List.mem_cons_of_mem _ hq)) nd'
      refine ⟨List.nodup_cons.mpr ⟨fun m => ?_, i1⟩, fun y hy => ?_⟩
      · rcases i2 _ m with m | m
        · exact (List.nodup_cons.mp nd).1 m
        · have : some n' = some nk := hn'.symm.trans m
          exact z (Option.some.inj this)
      · rw [List.map_cons] at hy
        rcases List.mem_cons.mp hy with hy | hy
        · exact .inl (by rw [List.map_cons]; exact hy ▸ List.mem_cons_self)
        · rcases i2 _ hy with q | q
          · exact .inl (List.mem_cons_of_mem _ q)
          · exact .inr q

/-! leaf keys -/
theorem leaf_rel {k : D} {l : Leaf} {u : Value} (h : leafOf k = some l) (q : (exKind P w).is l u = true) : ∃ x, Rp w K H M k x ∧ RelV x u := by
  have q : ((leafKind P w).is l u && nb u) = true := q
  rw [Bool.and_eq_true] at q
  have q1 : Leaf.isOf l u = true := q.1
  cases k <;> cases h
  · cases u <;> first | exact ⟨.non, .non, rfl⟩ | (simp [Leaf.isOf] at q1; done)
  · cases u <;> first | (simp [Leaf.isOf] at q1; done) | skip
    · exact absurd q.2 Bool.false_ne_true
    · have z := q1
      simp only [Leaf.isOf, decide_eq_true_eq] at z
      subst z
      exact ⟨.int _, .int _, _, rfl⟩
theorem rel_leaf {k : D} {l : Leaf} {x : V} {u : Value} (h : leafOf k = some l) (r : Rp w K H M k x) (q : RelV x u) : (exKind P w).is l u = true := by
  show ((leafKind P w).is l u && nb u) = true
  rw [Bool.and_eq_true]
  cases k <;> cases h
  · cases r
    cases q
    exact ⟨rfl, rfl⟩
  · cases r
    obtain ⟨t, rfl⟩ := q
    exact ⟨decide_eq_true rfl, rfl⟩
theorem toRL : ∀ {kvs : List (D × D)} {xs : Rw} {es : List DictEntry}, RpR w K H M kvs xs → Paired RowOk xs es → (kvs.all fun p => isLeafKey p.1) = true →
    ∃ ys, RL w K H M kvs ys ∧ Pairs (exKind P w) es ys ∧ ∀ e ∈ es, ∃ k, (exKind P w).is k e.key = true ∧ e.hash = (exKind P w).hash k
  | _, _, _, .nil, q, _ => by
    cases q
    exact ⟨[], .nil, .nil, fun e he => by cases he⟩
  | _, _, _, .cons h1 h2 h3 r, q, t => by
    cases q with
    | @cons _ en _ _ q1 q2 =>
      obtain ⟨eh, ek, ev⟩ := en
      obtain ⟨q3, q4, q5⟩ := q1
      rw [List.all_cons, Bool.and_eq_true] at t
      obtain ⟨l, e1⟩ := isLeaf_of t.1
      obtain ⟨ys, p, pp, ko⟩ := toRL r q2 t.2
      have il : (exKind P w).is l ek = true := rel_leaf e1 h1 q3
      refine ⟨(l, ev) :: ys, .cons e1 h2 q4 p, .cons il rfl pp, fun e he => ?_⟩
      rcases List.mem_cons.mp he with he | he
      · subst he
        refine ⟨l, il, ?_⟩
        rw [hashD, leaf_key e1] at h3
        have z2 : l.key.hash w = _ := Option.some.inj h3
        exact (show eh = _ from q5).trans z2.symm
      · exact ko e he
theorem ofRL : ∀ {kvs : List (D × D)} {ys : List (Leaf × Value)} {es : List DictEntry}, RL w K H M kvs ys → Pairs (exKind P w) es ys → (∀ e ∈ es, ∃ k, (exKind P w).is k e.key = true ∧ e.hash = (exKind P w).hash k) → ∃ xs, RpR w K H M kvs xs ∧ Paired RowOk xs es
  | _, _, _, .nil, q, _ => by
    cases q
    exact ⟨[], .nil, .nil⟩
  | _, _, _, .cons h1 h2 h3 r, q, ko => by
    cases q with
    | @cons en _ es _ q1 q2 q3 =>
      obtain ⟨xs, a, b⟩ := ofRL r q3 fun e he => ko e (List.mem_cons_of_mem _ he)
      obtain ⟨x, rx, qx⟩ := leaf_rel (P := P) (w := w) (K := K) (H := H) (M := M) h1 q1
      obtain ⟨l', il, hh⟩ := ko en List.mem_cons_self
      have e := (exKind P w).inj _ _ _ il q1
      subst e
      refine ⟨(x, _, en.hash) :: xs, .cons rx h2 ?_ a, .cons ⟨qx, q2 ▸ h3, rfl⟩ b⟩
      rw [hashD, leaf_key h1, hh]
      rfl
theorem RL.nd : ∀ {kvs : List (D × D)} {ys : List (Leaf × Value)}, RL w K H M kvs ys → (kvs.map fun p => keyN p.1) = (ys.map (·.1)).map fun l => some l.key
  | _, _, .nil => rfl
  | _, _, .cons h1 _ _ r => by rw [List.map_cons, List.map_cons, List.map_cons, leaf_key h1, r.nd]
theorem RL.nodup {kvs : List (D × D)} {ys : List (Leaf × Value)} (h : RL w K H M kvs ys) (nd : Nd kvs) : (ys.map (·.1)).Nodup := by
  rw [Nd, h.nd, List.Nodup, List.pairwise_map] at nd
  exact nd.imp fun z e => z (by rw [e])
theorem RL.length : ∀ {kvs : List (D × D)} {ys : List (Leaf × Value)}, RL w K H M kvs ys → kvs.length = ys.length
  | _, _, .nil => rfl
  | _, _, .cons _ _ _ r => by rw [List.length_cons, List.length_cons, r.length]
theorem valueAt_cons {y : Leaf × Value} {ys : List (Leaf × Value)} {l : Leaf} : valueAt (y :: ys) l = if y.1 = l then some y.2 else valueAt ys l := by
  by_cases z : y.1 = l <;> simp [valueAt, z]
theorem RL.look {k : D} {l : Leaf} (hk : leafOf k = some l) : ∀ {kvs : List (D × D)} {ys : List (Leaf × Value)}, RL w K H M kvs ys →
    (∀ v, dLook kvs k = some v → ∃ u vv, valueAt ys l = some u ∧ Rp w K H M v vv ∧ RelV vv u) ∧ (dLook kvs k = none → valueAt ys l = none)
  | _, _, .nil => ⟨fun v e => (by cases e), fun _ => rfl⟩
  | _, _, @RL.cons _ _ _ _ k' v' l' vv u kvs ys h1 h4 h5 r => by
    have e := eqv_leaf h1 hk
    obtain ⟨a, b⟩ := r.look hk
    rw [valueAt_cons]
    by_cases z : l' = l
    · rw [decide_eq_true z] at e
      rw [if_pos z, dLook, if_pos e]
      exact ⟨fun v q => ⟨u, vv, rfl, Option.some.inj q ▸ h4, h5⟩, fun q => (by cases q)⟩
    · rw [decide_eq_false z] at e
      rw [if_neg z, dLook, if_neg (by rw [e]; exact Bool.false_ne_true)]
      exact ⟨a, b⟩
theorem stored_cons {y : Leaf × Value} {ys : List (Leaf × Value)} {l : Leaf} {u : Value} (nd : ((y :: ys).map (·.1)).Nodup) :
    stored (y :: ys) l u = if y.1 = l then (y.1, u) :: ys else y :: stored ys l u := by
  rw [List.map_cons, List.nodup_cons] at nd
  by_cases z : y.1 = l
  · rw [if_pos z]
    unfold stored
    rw [if_pos (by simp [z]), List.map_cons, if_pos z]
    congr 1
    conv => rhs; rw [← List.map_id ys]
    refine List.map_congr_left fun q hq => ?_
    rw [if_neg fun e => nd.1 (by rw [z, ← e]; exact List.mem_map.mpr ⟨q, hq, rfl⟩)]
    rfl
  · rw [if_neg z]
    unfold stored
    rw [List.any_cons, decide_eq_false z, Bool.false_or, List.map_cons, if_neg z]
    split <;> rfl
theorem RL.put {k v : D} {l : Leaf} {vv : V} {u : Value} (hk : leafOf k = some l) (h2 : Rp w K H M v vv) (h3 : RelV vv u) :
    ∀ {kvs : List (D × D)} {ys : List (Leaf × Value)}, RL w K H M kvs ys → (ys.map (·.1)).Nodup → RL w K H M (dPut kvs k v) (stored ys l u)
  | _, _, .nil, _ => .cons hk h2 h3 .nil
  | _, _, @RL.cons _ _ _ _ k' v' l' vv' u' kvs ys g1 g4 g5 r, nd => by
    rw [stored_cons nd]
    have e := eqv_leaf g1 hk
    rw [List.map_cons, List.nodup_cons] at nd
    by_cases z : l' = l
    · rw [decide_eq_true z] at e
      rw [if_pos z, dPut, if_pos e]
      exact .cons g1 h2 h3 r
    · rw [decide_eq_false z] at e
      rw [if_neg z, dPut, if_neg (by rw [e]; exact Bool.false_ne_true)]
      exact .cons g1 g4 g5 (r.put hk h2 h3 nd.2)
theorem RL.evo {S S' M' : Addr → Prop} {H' : Hp} (e : Evo S H M S' H' M') (sm : SOk S H M) : ∀ {kvs : List (D × D)} {ys : List (Leaf × Value)}, RL w K H M kvs ys → RL w K H' M' kvs ys
  | _, _, .nil => .nil
  | _, _, .cons g1 g4 g5 r => .cons g1 (g4.evo e sm) g5 (r.evo e sm)
end
end Mi
end
section
set_option Elab.async false
set_option linter.all false
set_option maxRecDepth 100000
set_option maxHeartbeats 1000000
/-! S2e: what is done with dicts. -/
namespace Mi
open PySem PySem.Spec PyProof.Rows L2

theorem RawAt.stay {a : Addr} {xs : Rw} {h h' : Heap} (r : RawAt a xs h) (e : ∀ o, h.get? a = some o → h'.get? a = some o) : RawAt a xs h' := by
  obtain ⟨z, l, o, es, ep, ho, q⟩ := r
  exact ⟨z, l, o, es, ep, e o ho, q⟩
theorem RawAt.ok {P : Program} {w : World} {H : Hp} {a : Addr} {xs : Rw} {h : Heap} (r : RawAt a xs h) : ObjOk P w H h a (dO a xs) := by
  obtain ⟨o, _, _, ho, _⟩ := r.2.2
  exact ⟨r, ⟨o, ho⟩, fun h1 h2 q e => RawAt.stay q e⟩
/-- a dict that is read -/
def DAt (H : Hp) (a : Addr) (xs : Rw) : Prop := H a = some (dO a xs) ∨ ∃ o, H a = some (.frz o (dO a xs))
section
variable {X : Cx} {pins : List (Addr × Obj)} {σ : L2.St} {H : Hp} {s : Shared} {M : Addr → Prop} {a : Addr} {xs : Rw} {kvs : List (D × D)}
theorem rawAt (I : Inv X pins σ H s) (h : DAt H a xs) : RawAt a xs s.heap := by
  rcases h with h | ⟨o, h⟩
  · exact (I.hok a _ h).1
  · obtain ⟨_, q⟩ := I.hok a _ h
    exact q.1
theorem RT.is (I : Inv X pins σ H s) : ∀ {kvs : List (D × D)} {ys : List (NestedKey × Addr × Value)}, RT X.w X.K H M kvs ys → ∀ y ∈ ys, (nestedKind X.prog X.w).is s.heap y.1 y.2.1
  | _, _, .nil, y, hy => by cases hy
  | _, _, .cons h1 h2 h3 h4 h5 p, y, hy => by
    rcases List.mem_cons.mp hy with rfl | hy
    · exact ⟨h3.nested I rfl h1, h2⟩
    · exact p.is I y hy
theorem tOf (I : Inv X pins σ H s) (h : DAt H a xs) (r : RpR X.w X.K H M kvs xs) (nd : Nd kvs) (t : (kvs.all fun p => isTupKey p.1) = true) :
    ∃ ys, RT X.w X.K H M kvs ys ∧ s.heap.DictOfH (nestedKind X.prog X.w) a ys ∧ kvs.length ≤ sizeLine ∧ (a == sysModules) = false := by
  obtain ⟨z, l, o, es, ep, ho, hc, hd, pr⟩ := rawAt I h
  obtain ⟨ys, p, e⟩ := toRT (P := X.prog) r pr t
  exact ⟨ys, p, ⟨o, es, ep, ho, hc, hd, e, p.is I, nodup_some (by rw [← p.nd]; exact nd)⟩, by rw [r.length]; exact l, z⟩
theorem lOf (I : Inv X pins σ H s) (h : DAt H a xs) (r : RpR X.w X.K H M kvs xs) (nd : Nd kvs) (t : (kvs.all fun p => isLeafKey p.1) = true) :
    ∃ ys, RL X.w X.K H M kvs ys ∧ s.heap.DictOf (exKind X.prog X.w) a ys ∧ kvs.length ≤ sizeLine ∧ (a == sysModules) = false := by
  obtain ⟨z, l, o, es, ep, ho, hc, hd, pr⟩ := rawAt I h
  obtain ⟨ys, p, e, ko⟩ := toRL (P := X.prog) r pr t
  exact ⟨ys, p, ⟨o, es, ep, ho, hc, hd, fun e he => ko e (by simpa using he), e, p.nodup nd⟩, by rw [r.length]; exact l, z⟩
theorem kinds {k : D} (h : kindOk kvs k = true) : (isTupKey k = true ∧ (kvs.all fun p => isTupKey p.1) = true) ∨ (isLeafKey k = true ∧ (kvs.all fun p => isLeafKey p.1) = true) := by
  unfold kindOk at h
  rw [Bool.or_eq_true, Bool.and_eq_true, Bool.and_eq_true] at h
  exact h
variable {k : D} {x : V} {u : Value}
theorem dIn (hu : X.A.units + 16 < cLine) (I : Inv X pins σ H s) (h : DAt H a xs) (r : RpR X.w X.K H M kvs xs) (nd : Nd kvs) (ko : kindOk kvs k = true) (rk : Rp X.w X.K H M k x) (ru : RelV x u) {Q : VK} (q : Q (.bl (dLook kvs k).isSome) H) :
    wpAny (model X.prog X.w) X.A (compareOp .In u (.ref a)) (EP X pins σ Q) X.xe s := by
  rcases kinds ko with ⟨t, ts⟩ | ⟨t, ts⟩
  · obtain ⟨ys, p, hm, _, hd⟩ := tOf I h r nd ts
    obtain ⟨nk, e1, e2⟩ := isTup_of t
    obtain ⟨ka, rfl⟩ := isTup_ref t rk
    cases ru
    refine wpAny_in_heap (knd := nestedKind X.prog X.w) (k := nk) (by show X.A.units + 1 + 8 < cLine; omega) ⟨rk.nested I rfl e1, e2⟩ hd hm ?_
    rw [← p.out e1]
    exact ⟨.bl _, H, I.tok _, rfl, q⟩
  · obtain ⟨ys, p, hm, _, hd⟩ := lOf I h r nd ts
    obtain ⟨l, e1⟩ := isLeaf_of t
    refine wpAny_in_of (knd := exKind X.prog X.w) (k := l) (rel_leaf e1 rk ru) hd hm.mapOf ?_
    obtain ⟨b1, b2⟩ := p.look e1
    cases e : dLook kvs k with
    | none =>
      rw [e] at q
      rw [b2 e]
      exact ⟨.bl _, H, I.tok _, rfl, q⟩
    | some v =>
      rw [e] at q
      obtain ⟨z, _, e3, _⟩ := b1 v e
      rw [e3]
      exact ⟨.bl _, H, I.tok _, rfl, q⟩
theorem wpAny_notIn_heap {P : Program} {w : World} {knd : HeapKind P w NestedKey} {A : Around} {E : Value → Shared → Prop} {s : Shared} {d a : Addr} {k : NestedKey} {xs : List (NestedKey × Addr × Value)} {Q : Value → Shared → Prop} (hu : knd.room A.in1) (hkey : knd.is s.heap k a) (hd : (d == sysModules) = false) (hm : s.heap.DictOfH knd d xs)
    (h : Q (.bool (!(atKey xs k).isSome)) { s with toks := s.toks + knd.draws k }) : wpAny (model P w) A (compareOp .NotIn (.ref a) (.ref d)) Q E s := by
  refine notIn_keyed hu hkey hd ⟨xs, hm, rfl⟩ ?_
  rw [valueAt_pairsH, Option.isSome_map]
  exact h
theorem dNin (hu : X.A.units + 16 < cLine) (I : Inv X pins σ H s) (h : DAt H a xs) (r : RpR X.w X.K H M kvs xs) (nd : Nd kvs) (ko : kindOk kvs k = true) (rk : Rp X.w X.K H M k x) (ru : RelV x u) {Q : VK} (q : Q (.bl (!(dLook kvs k).isSome)) H) :
    wpAny (model X.prog X.w) X.A (compareOp .NotIn u (.ref a)) (EP X pins σ Q) X.xe s := by
  rcases kinds ko with ⟨t, ts⟩ | ⟨t, ts⟩
  · obtain ⟨ys, p, hm, _, hd⟩ := tOf I h r nd ts
    obtain ⟨nk, e1, e2⟩ := isTup_of t
    obtain ⟨ka, rfl⟩ := isTup_ref t rk
    cases ru
    refine wpAny_notIn_heap (knd := nestedKind X.prog X.w) (k := nk) (by show X.A.units + 1 + 8 < cLine; omega) ⟨rk.nested I rfl e1, e2⟩ hd hm ?_
    rw [← p.out e1]
    exact ⟨.bl _, H, I.tok _, rfl, q⟩
  · obtain ⟨ys, p, hm, _, hd⟩ := lOf I h r nd ts
    obtain ⟨l, e1⟩ := isLeaf_of t
    refine wpAny_notIn_of (knd := exKind X.prog X.w) (k := l) (rel_leaf e1 rk ru) hd hm.mapOf ?_
    obtain ⟨b1, b2⟩ := p.look e1
    cases e : dLook kvs k with
    | none =>
      rw [e] at q
      rw [b2 e]
      exact ⟨.bl _, H, I.tok _, rfl, q⟩
    | some v =>
      rw [e] at q
      obtain ⟨z, _, e3, _⟩ := b1 v e
      rw [e3]
      exact ⟨.bl _, H, I.tok _, rfl, q⟩
theorem dGet (hu : X.A.units + 16 < cLine) (I : Inv X pins σ H s) (h : DAt H a xs) (r : RpR X.w X.K H M kvs xs) (nd : Nd kvs) (ko : kindOk kvs k = true) (rk : Rp X.w X.K H M k x) (ru : RelV x u) {v : D} (e : dLook kvs k = some v) {Q : VK} (q : ∀ y, Rp X.w X.K H M v y → Q y H) :
    wpAny (model X.prog X.w) X.A (getItem (.ref a) u) (EP X pins σ Q) X.xe s := by
  rcases kinds ko with ⟨t, ts⟩ | ⟨t, ts⟩
  · obtain ⟨ys, p, hm, _, hd⟩ := tOf I h r nd ts
    obtain ⟨nk, e1, e2⟩ := isTup_of t
    obtain ⟨ka, rfl⟩ := isTup_ref t rk
    cases ru
    obtain ⟨pp, y, e3, ry, rr⟩ := (p.look e1).1 v e
    exact wpAny_getItem_heap (knd := nestedKind X.prog X.w) (k := nk) (by show X.A.units + 1 + 8 < cLine; omega) ⟨rk.nested I rfl e1, e2⟩ hm e3 ⟨y, H, I.tok _, rr, q y ry⟩
  · obtain ⟨ys, p, hm, _, hd⟩ := lOf I h r nd ts
    obtain ⟨l, e1⟩ := isLeaf_of t
    obtain ⟨z, y, e3, ry, rr⟩ := (p.look e1).1 v e
    exact wpAny_getItem_of (knd := exKind X.prog X.w) (k := l) (rel_leaf e1 rk ru) hm.mapOf e3 ⟨y, H, I.tok _, rr, q y ry⟩
theorem dGetN (hu : X.A.units + 16 < cLine) (I : Inv X pins σ H s) (h : DAt H a xs) (r : RpR X.w X.K H M kvs xs) (nd : Nd kvs) (ko : kindOk kvs k = true) (rk : Rp X.w X.K H M k x) (ru : RelV x u) {Q : VK} (q : ∀ y, Rp X.w X.K H M ((dLook kvs k).getD .none) y → Q y H) :
    wpAny (model X.prog X.w) X.A (call (.builtin "dict.get") [.ref a, u]) (EP X pins σ Q) X.xe s := by
  rcases kinds ko with ⟨t, ts⟩ | ⟨t, ts⟩
  · obtain ⟨ys, p, hm, _, hd⟩ := tOf I h r nd ts
    obtain ⟨nk, e1, e2⟩ := isTup_of t
    obtain ⟨ka, rfl⟩ := isTup_ref t rk
    cases ru
    refine call_meetsIn F.slot_dict_get hm.typeIs F.entry_dict_get (F.args_dict_get_2 _ _) (meetsH_dict_get (nestedKind X.prog X.w) a ka hd) ⟨by show X.A.units + 1 + 8 < cLine; omega, nk, ys, ⟨rk.nested I rfl e1, e2⟩, hm, ?_⟩
    obtain ⟨b1, b2⟩ := p.look e1
    cases e : dLook kvs k with
    | none =>
      rw [e] at q
      rw [b2 e]
      exact ⟨.non, H, I.tok _, rfl, q _ .non⟩
    | some v =>
      rw [e] at q
      obtain ⟨pp, y, e3, ry, rr⟩ := b1 v e
      rw [e3]
      exact ⟨y, H, I.tok _, rr, q y ry⟩
  · obtain ⟨ys, p, hm, _, hd⟩ := lOf I h r nd ts
    obtain ⟨l, e1⟩ := isLeaf_of t
    refine call_meetsIn F.slot_dict_get hm.mapOf.typeIs F.entry_dict_get (F.args_dict_get_2 _ _) (meets_dict_get (exKind X.prog X.w) a (k := l) (rel_leaf e1 rk ru) hd) ⟨_, hm.mapOf, ?_⟩
    obtain ⟨b1, b2⟩ := p.look e1
    cases e : dLook kvs k with
    | none =>
      rw [e] at q
      rw [b2 e]
      exact ⟨.non, H, I.tok _, rfl, q _ .non⟩
    | some v =>
      rw [e] at q
      obtain ⟨z, y, e3, ry, rr⟩ := b1 v e
      rw [e3]
      exact ⟨y, H, I.tok _, rr, q y ry⟩
/-- a changed dict is written -/
theorem dWrite {t' : Nat} {h' : Heap} {xs' : Rw} (I : Inv X pins σ H s) (h : H a = some (dO a xs)) (sb : Heap.SameBut a s.heap h') (r : RawAt a xs' h') : Inv X pins σ (upd H a (dO a xs')) { s with heap := h', toks := t' } := by
  obtain ⟨o, _, _, ho, _⟩ := r.2.2
  exact I.write (e := a) (by rw [h]; trivial) (.inl rfl) (fun b z hb e => (sb.2 b hb).trans e) ⟨o, ho⟩ r.ok
theorem dPut_len (k v : D) : ∀ kvs : List (D × D), (dPut kvs k v).length ≤ kvs.length + 1
  | [] => Nat.le_refl _
  | (a, b) :: r => by
    unfold dPut
    split
    · rw [List.length_cons, List.length_cons]; omega
    · rw [List.length_cons, List.length_cons]; have := dPut_len k v r; omega
theorem dSet (hu : X.A.units + 16 < cLine) (I : Inv X pins σ H s) (h : H a = some (dO a xs)) (r : RpR X.w X.K H M kvs xs) (nd : Nd kvs) (ko : kindOk kvs k = true) (hz : kvs.length < SZ) (rk : Rp X.w X.K H M k x) (ru : RelV x u) {v : D} {y : V} {uy : Value} (rv : Rp X.w X.K H M v y) (ry : RelV y uy)
    {Q : Hp → Prop} (q : ∀ xs', RpR X.w X.K H M (dPut kvs k v) xs' → Nd (dPut kvs k v) → Q (upd H a (dO a xs'))) :
    wpAny (model X.prog X.w) X.A (setItem (.ref a) u uy) (fun _ s' => ∃ H', Inv X pins σ H' s' ∧ Q H') X.xe s := by
  have hl := dPut_len k v kvs
  have hs : SZ ≤ sizeLine := Nat.le_of_eq SZ_line
  rcases kinds ko with ⟨t, ts⟩ | ⟨t, ts⟩
  · obtain ⟨ys, p, hm, hz2, hd⟩ := tOf I (.inl h) r nd ts
    obtain ⟨nk, e1, e2⟩ := isTup_of t
    obtain ⟨ka, rfl⟩ := isTup_ref t rk
    cases ru
    have ndy : (ys.map (·.1)).Nodup := nodup_some (by rw [← p.nd]; exact nd)
    refine wpAny_setItem_heap (knd := nestedKind X.prog X.w) (k := nk) (by show X.A.units + 1 + 8 < cLine; omega) ⟨rk.nested I rfl e1, e2⟩ hm (fun h' hm' sb => ?_) (by rw [← p.length]; exact hz2)
    have p' := p.put e1 e2 rk rv ry ndy
    obtain ⟨xs', r', pr⟩ := ofRT (P := X.prog) p'
    obtain ⟨o, es, ep, ho, hc, hdat, hes, his, hnd⟩ := hm'
    refine ⟨_, dWrite (t' := _) I h sb ⟨hd, by rw [← r'.length]; omega, o, es, ep, ho, hc, hdat, by rw [hes]; exact pr⟩, q xs' r' ?_⟩
    rw [Nd, p'.nd]
    exact some_nodup hnd
  · obtain ⟨ys, p, hm, hz2, hd⟩ := lOf I (.inl h) r nd ts
    obtain ⟨l, e1⟩ := isLeaf_of t
    refine wpAny_setItem_pairs (knd := exKind X.prog X.w) (k := l) (rel_leaf e1 rk ru) hm (fun h' hm' sb => ?_) (by rw [← p.length]; exact hz2)
    have p' := p.put (k := k) (v := v) e1 rv ry (p.nodup nd)
    obtain ⟨o, es, ep, ho, hc, hdat, hko, hpr, hnd⟩ := hm'
    obtain ⟨xs', r', pr⟩ := ofRL p' hpr fun e he => hko e (by simpa using he)
    refine ⟨_, dWrite (t' := _) I h sb ⟨hd, by rw [← r'.length]; omega, o, es, ep, ho, hc, hdat, pr⟩, q xs' r' ?_⟩
    refine (dPut_keys kvs k v l.key (leaf_key e1) (fun z hz => ?_) nd).1
    rw [List.all_eq_true] at ts
    obtain ⟨l', hl'⟩ := isLeaf_of (ts z hz)
    exact ⟨_, leaf_key hl'⟩
end
end Mi
end
section
set_option Elab.async false
set_option linter.all false
set_option maxRecDepth 100000
set_option maxHeartbeats 1000000
/-! S2f: in, items, slices, built-in functions. -/
namespace Mi
open PySem PySem.Spec PyProof.Rows L2
section
variable {X : Cx}
theorem opIn (hu : X.A.units + 70 < cLine) : OpS X (compareOp .In) (cmpD .inn) := by
  intro pins s σ H x y v u Q I rx ry h
  obtain ⟨M, dx, dy, d, mt, px, py, hs, q⟩ := h
  obtain ⟨c, hc, rfl⟩ := Option.map_eq_some_iff.mp (show (inD dx dy).map PyData.bool = some d from hs)
  clear hs
  cases py with
  | lst hl hm hr =>
    obtain ⟨hb, rfl⟩ := gd_of (show gd _ (some _) = some c from hc)
    rw [Bool.and_eq_true] at hb
    obtain ⟨as, r1⟩ := Dp.reads I _ _ _ (px.dp (okD_lay hb.1)) rx
    obtain ⟨bs, r2⟩ := Dp.reads I _ _ _ ((Rp.lst hl hm hr).dp (okD_lay hb.2)) ry
    exact SeqAt.in_list_reads r2 r1 (SeqAt.canLay_of_shaped hb.2) (SeqAt.canLay_of_shaped hb.1) (room_in_shaped hb.1 (by omega)) ⟨.bl _, H, I, rfl, q.here (.bl _)⟩
  | tup hl hr =>
    obtain ⟨hb, rfl⟩ := gd_of (show gd _ (some _) = some c from hc)
    rw [Bool.and_eq_true] at hb
    obtain ⟨as, r1⟩ := Dp.reads I _ _ _ (px.dp (okD_lay hb.1)) rx
    obtain ⟨bs, r2⟩ := Dp.reads I _ _ _ ((Rp.tup hl hr).dp (okD_lay hb.2)) ry
    exact SeqAt.in_tuple_reads r2 r1 (SeqAt.canLay_of_shaped hb.2) (SeqAt.canLay_of_shaped hb.1) (room_in_shaped hb.1 (by omega)) ⟨.bl _, H, I, rfl, q.here (.bl _)⟩
  | dct hl hm hr nd =>
    obtain ⟨hb, rfl⟩ := gd_of (show gd _ (some _) = some c from hc)
    cases ry
    exact dIn (by omega) I (.inr ⟨_, hl⟩) hr nd hb px rx (q.here (.bl _))
  | _ => cases dx <;> cases hc
theorem opNin (hu : X.A.units + 70 < cLine) : OpS X (compareOp .NotIn) (cmpD .nin) := by
  intro pins s σ H x y v u Q I rx ry h
  obtain ⟨M, dx, dy, d, mt, px, py, hs, q⟩ := h
  obtain ⟨c, hc, rfl⟩ := Option.map_eq_some_iff.mp (show (inD dx dy).map (fun c => PyData.bool (!c)) = some d from hs)
  clear hs
  cases py with
  | lst hl hm hr =>
    obtain ⟨hb, rfl⟩ := gd_of (show gd _ (some _) = some c from hc)
    rw [Bool.and_eq_true] at hb
    obtain ⟨as, r1⟩ := Dp.reads I _ _ _ (px.dp (okD_lay hb.1)) rx
    obtain ⟨bs, r2⟩ := Dp.reads I _ _ _ ((Rp.lst hl hm hr).dp (okD_lay hb.2)) ry
    exact SeqAt.notIn_list_reads r2 r1 (SeqAt.canLay_of_shaped hb.2) (SeqAt.canLay_of_shaped hb.1) (room_in_shaped hb.1 (by omega)) ⟨.bl _, H, I, rfl, q.here (.bl _)⟩
  | tup hl hr =>
    obtain ⟨hb, rfl⟩ := gd_of (show gd _ (some _) = some c from hc)
    rw [Bool.and_eq_true] at hb
    obtain ⟨as, r1⟩ := Dp.reads I _ _ _ (px.dp (okD_lay hb.1)) rx
    obtain ⟨bs, r2⟩ := Dp.reads I _ _ _ ((Rp.tup hl hr).dp (okD_lay hb.2)) ry
    exact SeqAt.notIn_tuple_reads r2 r1 (SeqAt.canLay_of_shaped hb.2) (SeqAt.canLay_of_shaped hb.1) (room_in_shaped hb.1 (by omega)) ⟨.bl _, H, I, rfl, q.here (.bl _)⟩
  | dct hl hm hr nd =>
    obtain ⟨hb, rfl⟩ := gd_of (show gd _ (some _) = some c from hc)
    cases ry
    exact dNin (by omega) I (.inr ⟨_, hl⟩) hr nd hb px rx (q.here (.bl _))
  | _ => cases dx <;> cases hc

/-! ### items -/
/-- o[i], by values: the type's own __getitem__ is asked -/
def IxS (X : Cx) (sem : D → D → Option D) : Prop :=
  ∀ (pins : List (Addr × Obj)) (s : Shared) (σ : L2.St) (H : Hp) (M : Addr → Prop) (dx dy d : D) (x y : V) (v u : Value) (Q : VK) (value slice : Expr), Inv X pins σ H s → RelV x v → RelV y u → MT M H → Rp X.w X.K H M dx x → Rp X.w X.K H M dy y → sem dx dy = some d → Wt X.w X.K M H d Q →
    (subscripted slice false v u = operate [v, u] (getItem v u)) → wpAny (model X.prog X.w) X.A (subscriptTail value slice v u) (EP X pins σ Q) X.xe s
theorem bind_some {α β : Type} {x : Option α} {f : α → Option β} {b : β} (h : x.bind f = some b) : ∃ a, x = some a ∧ f a = some b := by
  cases x with
  | none => cases h
  | some a => exact ⟨a, rfl, h⟩
theorem RpL.atI {w : World} {K : PySem.W.Frag} {H : Hp} {M : Addr → Prop} {ds : List D} {xs : List V} (r : RpL w K H M ds xs) {i : Int} {d : D} (h : ((L2.ixN ds.length i).bind fun j => ds[j]?) = some d) : ∃ v, atI xs i = some v ∧ Rp w K H M d v := by
  obtain ⟨j, h1, h2⟩ := bind_some h
  obtain ⟨v, h3, h4⟩ := r.get h2
  refine ⟨v, ?_, h4⟩
  show (L2.ixN xs.length i).bind _ = _
  rw [← r.length, h1]
  exact h3
theorem ixS (hu : X.A.units + 16 < cLine) : IxS X idxD := by
  intro pins s σ H M dx dy d x y v u Q value slice I rx ry mt px py hs q hp
  cases px with
  | lst hl hm hr =>
    cases py with
    | int i =>
      obtain ⟨z, h1, h2⟩ := hr.atI (show ((L2.ixN _ i).bind _) = some d from hs)
      exact ix_list value slice pins s σ H _ _ v u Q I rx ry ⟨_, _, i, z, rfl, rfl, SqL.of hl, h1, q.here h2⟩ hp
    | _ => cases hs
  | tup hl hr =>
    cases py with
    | int i =>
      obtain ⟨z, h1, h2⟩ := hr.atI (show ((L2.ixN _ i).bind _) = some d from hs)
      exact ix_tup value slice pins s σ H _ _ v u Q I rx ry ⟨_, _, i, z, rfl, rfl, hl.sq, h1, q.here h2⟩ hp
    | _ => cases hs
  | dct hl hm hr nd =>
    obtain ⟨hc, hd⟩ := gd_some (show gd _ (dLook _ _) = some d from hs)
    cases rx
    have hraw := (rawAt I (.inr ⟨_, hl⟩)).2.2
    obtain ⟨o, _, _, ho, hcl, _⟩ := hraw
    exact tail_any ⟨o, ho, hcl.1⟩ F.slot_dict_getitem.lookup (dGet hu I (.inr ⟨_, hl⟩) hr nd hc py ry hd fun z rz => q.here rz) hp
  | _ => cases dy <;> cases hs

/-! ### slices -/
def SlS (X : Cx) (sem : D → Option Int → Option Int → Option D) : Prop := SlR X fun x lo hi H Q => ∃ M dx d, MT M H ∧ Rp X.w X.K H M dx x ∧ sem dx lo hi = some d ∧ Wt X.w X.K M H d Q
theorem RpL.cut {w : World} {K : PySem.W.Frag} {H : Hp} {M : Addr → Prop} {ds : List D} {xs : List V} (r : RpL w K H M ds xs) (lo hi : Option Int) : RpL w K H M (cut ds lo hi) (cutV xs lo hi) := by
  unfold Mi.cut cutV
  rw [r.length]
  exact (r.drop _).take _
theorem slS : SlS X slcD := by
  intro pins s σ H x v vl vu lo hi sl Q I rx hs pl pu h
  obtain ⟨M, dx, d, mt, px, e, q⟩ := h
  cases px with
  | lst hl hm hr =>
    cases e
    exact sl_list pins s σ H _ v vl vu lo hi sl Q I rx hs pl pu ⟨_, _, rfl, SqL.of hl, fun p hp => q.lst mt (hr.cut lo hi) hp⟩
  | str z =>
    obtain ⟨hz, rfl⟩ := gd_of (show gd _ (some _) = some d from e)
    exact sl_str pins s σ H _ v vl vu lo hi sl Q I rx hs pl pu ⟨z, rfl, SZ_line ▸ of_decide_eq_true hz, q.here (.str _)⟩
  | tup hl hr =>
    rename_i a xs ds
    cases e
    cases rx
    obtain ⟨its, r, ht, hz⟩ := I.tuple hl.sq
    have hlen : its.toArray.size = xs.length := by rw [List.size_toArray]; exact r.length.symm
    refine ⟨"tuple", _, PyProof.Rows.slot_tuple_getitem.lookup, ht.typeIs, ?_⟩
    by_cases hw : HT.sIx xs.length 0 lo = 0 ∧ HT.sIx xs.length xs.length hi = xs.length
    · refine getItem_tuple_whole ht hs pl pu (by rw [hlen]; exact hw) ⟨.ref a, H, I, rfl, q.here ?_⟩
      have e : cut ds lo hi = ds := by
        unfold Mi.cut
        rw [hr.length, hw.1, hw.2, List.drop_zero, Nat.sub_zero, ← hr.length, List.take_length]
      rw [e]
      exact .tup hl hr
    · refine HT.getItem_tuple_cut ht hs pl pu (by rw [hlen]; exact hw) ?_ (by rw [hlen]; exact hz)
      rw [hlen]
      exact tupEnd (t' := s.toks) I ((r.drop (HT.sIx xs.length 0 lo)).take (HT.sIx xs.length xs.length hi - HT.sIx xs.length 0 lo)) (Nat.le_trans (cutV_length xs lo hi) hz) (hr.cut lo hi) q
  | _ => cases e

theorem vals_at : ∀ {xs : List V} {us : List Value}, xs.length = us.length → (∀ (j : Nat) v u, xs[j]? = some v → us[j]? = some u → RelV v u) → Vals xs us
  | [], [], _, _ => .nil
  | [], _ :: _, e, _ => by cases e
  | _ :: _, [], e, _ => by cases e
  | x :: xs, u :: us, e, h => .cons (h 0 x u rfl rfl) (vals_at (by simpa using e) fun j v w e1 e2 => h (j + 1) v w (by simpa using e1) (by simpa using e2))
theorem RpR.keys {w : World} {K : PySem.W.Frag} {H : Hp} {M : Addr → Prop} : ∀ {kvs : List (D × D)} {xs : Rw}, RpR w K H M kvs xs → RpL w K H M (kvs.map (·.1)) (xs.map (·.1))
  | _, _, .nil => .nil
  | _, _, .cons h1 _ _ r => .cons h1 r.keys
theorem RpR.vals_ {w : World} {K : PySem.W.Frag} {H : Hp} {M : Addr → Prop} : ∀ {kvs : List (D × D)} {xs : Rw}, RpR w K H M kvs xs → RpL w K H M (kvs.map (·.2)) (xs.map (·.2.1))
  | _, _, .nil => .nil
  | _, _, .cons _ h2 _ r => .cons h2 r.vals_
/-! ### built-in functions of one argument -/
def CS (X : Cx) (f : Value) (sem : D → Option D) : Prop := CallR X f fun xs H Q => ∃ x M dx d, xs = [x] ∧ MT M H ∧ Rp X.w X.K H M dx x ∧ sem dx = some d ∧ Wt X.w X.K M H d Q
theorem RpL.ints_ {w : World} {K : PySem.W.Frag} {H : Hp} {M : Addr → Prop} : ∀ {ds : List D} {xs : List V} {is : List Int}, RpL w K H M ds xs → intsL ds = some is → xs = is.map V.int
  | _, _, _, .nil, e => by cases e; rfl
  | _, _, _, .cons h r, e => by
    cases h <;> simp only [intsL] at e <;> first | cases e | skip
    split at e <;> cases e
    rename_i h
    rw [r.ints_ h]
    rfl
theorem RpL.bools_ {w : World} {K : PySem.W.Frag} {H : Hp} {M : Addr → Prop} : ∀ {ds : List D} {xs : List V} {is : List Bool}, RpL w K H M ds xs → bools ds = some is → xs = is.map V.bl
  | _, _, _, .nil, e => by cases e; rfl
  | _, _, _, .cons h r, e => by
    cases h <;> simp only [bools] at e <;> first | cases e | skip
    split at e <;> cases e
    rename_i h
    rw [r.bools_ h]
    rfl
theorem csLen : CS X (.builtin "len") (f1D .len) := by
  intro pins s σ H xs us Q I r h
  obtain ⟨x, M, dx, d, rfl, mt, px, e, q⟩ := h
  cases px with
  | lst hl hm hr =>
    cases e
    exact call_len_seq pins s σ H _ us Q I r ⟨_, _, rfl, .inl (SqL.of hl), by rw [← hr.length]; exact q.here (.int _)⟩
  | tup hl hr =>
    cases e
    exact call_len_seq pins s σ H _ us Q I r ⟨_, _, rfl, .inr hl.sq, by rw [← hr.length]; exact q.here (.int _)⟩
  | _ => cases e
theorem csSum (hc : X.calm = true) : CS X (.builtin "sum") (f1D .sum) := by
  intro pins s σ H xs us Q I r h
  obtain ⟨x, M, dx, d, rfl, mt, px, e, q⟩ := h
  cases px with
  | lst hl hm hr =>
    obtain ⟨is, e1, rfl⟩ := Option.map_eq_some_iff.mp (show (intsL _).map _ = some d from e)
    have := hr.ints_ e1
    subst this
    exact cr_sum hc pins s σ H _ us Q I r ⟨_, is, rfl, SqL.of hl, q.here (.int _)⟩
  | tup hl hr =>
    rename_i a _ _
    obtain ⟨is, e1, rfl⟩ := Option.map_eq_some_iff.mp (show (intsL _).map _ = some d from e)
    have := hr.ints_ e1
    subst this
    obtain ⟨its, rv, ⟨o, ho, hcl, n, hd⟩, _⟩ := I.tuple hl.sq
    obtain ⟨u, rfl, ru⟩ := vals1 r
    cases ru
    have hi := rv.ints
    obtain ⟨zs, ez⟩ := hi.allInts.items
    have hn : numsOf (intItems zs).toList = is := by rw [← ez]; exact hi.numsOf
    rw [nums_intItems] at hn
    have hl2 : s.heap.IsTuple a (intItems zs) := by
      rw [← ez]
      exact ⟨o, ho, hcl, n, hd⟩
    refine PySem.W.ktm_sumG (I.ok.hd hc) hl2 fun h' tk t' hk => ?_
    rw [preSum_eq, List.take_of_length_le (by simp), hn]
    exact ⟨.int _, H, I.kept hk, ⟨_, rfl⟩, q.here (.int _)⟩
  | _ => cases e
theorem csAbs : CS X (.builtin "abs") (f1D .abs) := by
  intro pins s σ H xs us Q I r h
  obtain ⟨x, M, dx, d, rfl, mt, px, e, q⟩ := h
  cases px <;> cases e
  exact call_abs pins s σ H _ us Q I r ⟨_, rfl, q.here (.int _)⟩
theorem csInt : CS X (.type "int") (f1D .int) := by
  intro pins s σ H xs us Q I r h
  obtain ⟨x, M, dx, d, rfl, mt, px, e, q⟩ := h
  cases px <;> cases e
  · exact call_int1 pins s σ H _ us Q I r (.inr ⟨_, rfl, q.here (.int _)⟩)
  · exact call_int1 pins s σ H _ us Q I r (.inl ⟨_, rfl, q.here (.int _)⟩)
theorem csBool : CS X (.type "bool") (f1D .bool) := by
  intro pins s σ H xs us Q I r h
  obtain ⟨x, M, dx, d, rfl, mt, px, e, q⟩ := h
  cases px <;> cases e
  exact call_bool1 pins s σ H _ us Q I r (.inr ⟨_, rfl, q.here (.bl _)⟩)
theorem maxL_mem : ∀ (r : List Int) (m : Int), (maxL r m = m ∨ maxL r m ∈ r) ∧ m ≤ maxL r m ∧ ∀ y ∈ r, y ≤ maxL r m
  | [], m => ⟨.inl rfl, Int.le_refl _, fun y h => by cases h⟩
  | x :: r, m => by
    unfold maxL
    by_cases c : m < x
    · rw [if_pos c]
      obtain ⟨a, b, d⟩ := maxL_mem r x
      refine ⟨.inr ?_, by omega, fun y hy => ?_⟩
      · rcases a with a | a
        · rw [a]; exact List.mem_cons_self
        · exact List.mem_cons_of_mem _ a
      · rcases List.mem_cons.mp hy with rfl | hy
        · exact b
        · exact d y hy
    · rw [if_neg c]
      obtain ⟨a, b, d⟩ := maxL_mem r m
      refine ⟨?_, b, fun y hy => ?_⟩
      · rcases a with a | a
        · exact .inl a
        · exact .inr (List.mem_cons_of_mem _ a)
      · rcases List.mem_cons.mp hy with rfl | hy
        · omega
        · exact d y hy
theorem csMax (hc : X.calm = true) : CS X (.builtin "max") (f1D .max) := by
  intro pins s σ H xs us Q I r h
  obtain ⟨x, M, dx, d, rfl, mt, px, e, q⟩ := h
  cases px with
  | lst hl hm hr =>
    simp only [f1D] at e
    split at e <;> cases e
    rename_i x r' e1
    have := hr.ints_ e1
    subst this
    refine cr_max hc pins s σ H _ us Q I r ⟨_, x :: r', rfl, SqL.of hl, Nat.zero_lt_succ _, fun m h1 h2 => ?_⟩
    obtain ⟨a, b, c⟩ := maxL_mem r' x
    have em : m = maxL r' x := by
      have g1 : maxL r' x ≤ m := by
        rcases a with a | a
        · rw [a]; exact h2 _ List.mem_cons_self
        · exact h2 _ (List.mem_cons_of_mem _ a)
      have g2 : m ≤ maxL r' x := by
        rcases List.mem_cons.mp h1 with rfl | h1
        · exact b
        · exact c m h1
      omega
    rw [em]
    exact q.here (.int _)
  | _ => cases e
theorem csAny (hc : X.calm = true) : CS X (.builtin "any") (f1D .any) := by
  intro pins s σ H xs us Q I r h
  obtain ⟨x, M, dx, d, rfl, mt, px, e, q⟩ := h
  cases px with
  | lst hl hm hr =>
    obtain ⟨is, e1, rfl⟩ := Option.map_eq_some_iff.mp (show (bools _).map _ = some d from e)
    have := hr.bools_ e1
    subst this
    exact cr_any hc pins s σ H _ us Q I r ⟨_, is, rfl, SqL.of hl, q.here (.bl _)⟩
  | _ => cases e
theorem csAll (hc : X.calm = true) : CS X (.builtin "all") (f1D .all) := by
  intro pins s σ H xs us Q I r h
  obtain ⟨x, M, dx, d, rfl, mt, px, e, q⟩ := h
  cases px with
  | lst hl hm hr =>
    obtain ⟨is, e1, rfl⟩ := Option.map_eq_some_iff.mp (show (bools _).map _ = some d from e)
    have := hr.bools_ e1
    subst this
    exact cr_all hc pins s σ H _ us Q I r ⟨_, is, rfl, SqL.of hl, q.here (.bl _)⟩
  | _ => cases e
theorem csTuple : CS X (.type "tuple") (f1D .tuple) := by
  intro pins s σ H xs us Q I r h
  obtain ⟨x, M, dx, d, rfl, mt, px, e, q⟩ := h
  obtain ⟨u, rfl, ru⟩ := vals1 r
  cases px with
  | lst hl hm hr =>
    cases e
    cases ru
    obtain ⟨its, rv, pl, hz⟩ := I.list (SqL.of hl)
    refine call_tuple_list pl.isList (fun h' kp => ?_) (by rw [List.size_toArray, ← rv.length]; exact hz)
    have I1 : Inv X pins σ H { s with heap := h' } := I.kept (t' := s.toks) kp
    exact tupEnd (t' := s.toks) I1 rv hz hr q
  | tup hl hr =>
    cases e
    cases ru
    obtain ⟨its, rv, pl, hz⟩ := I.tuple hl.sq
    exact call_tuple_same pl ⟨.ref _, H, I, rfl, q.here (.tup hl hr)⟩
  | _ => cases e
theorem csList (hc : X.calm = true) : CS X (.type "list") (f1D .list) := by
  intro pins s σ H xs us Q I r h
  obtain ⟨x, M, dx, d, rfl, mt, px, e, q⟩ := h
  cases px with
  | lst hl hm hr =>
    cases e
    exact call_list_of pins s σ H _ us Q I r ⟨_, _, rfl, .inl (SqL.of hl), fun p hp => q.lst mt hr hp⟩
  | tup hl hr =>
    cases e
    exact call_list_of pins s σ H _ us Q I r ⟨_, _, rfl, .inr hl.sq, fun p hp => q.lst mt hr hp⟩
  | dct hl hm hr nd =>
    rename_i a o xs kvs
    cases e
    obtain ⟨u, rfl, ru⟩ := vals1 r
    cases ru
    obtain ⟨hd, hz, o', es, ep, ho, hcl, hdat, pr⟩ := rawAt I (.inr ⟨_, hl⟩)
    have hs : es.size = xs.length := by rw [← Array.length_toList]; exact pr.length.symm
    refine PySem.W.kdl_call (KdlSrc.rawDict (es := es) (ep := ep) hd) (I.ok.hd hc) ⟨o', ho, hcl, hdat⟩ (by rw [hs]; exact hz) fun h' tk acc c hk hD hacc => ?_
    have hk' : RpL X.w X.K H M (kvs.map (·.1)) (xs.map (·.1)) := hr.keys
    have hv : Vals (xs.map (·.1)) acc.toList := by
      have e1 := hacc.1
      have e2 : acc.toList.length = acc.size := by simp
      have e3 : (xs.map (·.1)).length = xs.length := by simp
      refine vals_at (by omega) fun j v u e1 e2 => ?_
      rw [List.getElem?_map, Option.map_eq_some_iff] at e1
      obtain ⟨row, e1, rfl⟩ := e1
      obtain ⟨hj, ej⟩ := hacc.2 j u (by rw [← Array.getElem?_toList]; exact e2)
      obtain ⟨en, e3, e4⟩ := paired_get pr e1
      rw [Array.getElem?_toList, Array.getElem?_eq_getElem hj] at e3
      cases e3
      rw [ej]
      exact e4.1
    refine ⟨.ref s.heap.objs.size, _, I.laid (o := .lst (xs.map (·.1))) (t' := tk) hk (Nat.le_refl _) ⟨by rw [List.length_map]; exact hz, acc.toList, c, hv, by simpa using hD⟩, rfl, q.lst mt hk' (I.hok.fresh (Nat.le_refl _))⟩
  | _ => cases e

/-! ### sorted -/
theorem RpL.each {H : Hp} {M : Addr → Prop} : ∀ {ds : List D} {xs : List V} {us : List Value}, RpL X.w X.K H M ds xs → Vals xs us → PySem.W.EachIs (fun u d => ∃ x, RelV x u ∧ Rp X.w X.K H M d x) us ds
  | _, _, _, .nil, r => by cases r; exact .nil
  | _, _, _, .cons h r, q => by
    cases q with
    | cons q1 q2 => exact .cons ⟨_, q1, h⟩ (r.each q2)
theorem each_rp {H : Hp} {M : Addr → Prop} : ∀ {ds : List D} {us : List Value}, PySem.W.EachIs (fun u d => ∃ x, RelV x u ∧ Rp X.w X.K H M d x) us ds → ∃ xs, RpL X.w X.K H M ds xs ∧ Vals xs us
  | _, _, .nil => ⟨[], .nil, .nil⟩
  | _, _, .cons ⟨x, h1, h2⟩ r => by
    obtain ⟨xs, a, b⟩ := each_rp r
    exact ⟨x :: xs, .cons h2 a, .cons h1 b⟩
theorem each_reads {H : Hp} {M : Addr → Prop} {pins : List (Addr × Obj)} {σ : L2.St} {s : Shared} (I : Inv X pins σ H s) : ∀ {ds : List D} {us : List Value}, PySem.W.EachIs (fun u d => ∃ x, RelV x u ∧ Rp X.w X.K H M d x) us ds → (∀ d ∈ ds, ndD d = true) →
    PySem.W.EachIs (fun u d => ∃ as, Reads s.heap u d as) us ds
  | _, _, .nil, _ => .nil
  | _, _, .cons ⟨x, h1, h2⟩ r, e => .cons (Dp.reads I _ _ _ (h2.dpN (e _ List.mem_cons_self)) h1) (each_reads I r fun d hd => e d (List.mem_cons_of_mem _ hd))
theorem sortable_of {ds : List D} (h : sortable ds = true) : PySem.W.Sortable ds := by
  unfold sortable at h
  rw [Bool.or_eq_true, List.all_eq_true, List.all_eq_true] at h
  rcases h with h | h
  · refine .inl fun d hd => ?_
    have := h d hd
    split at this
    · exact ⟨_, _, rfl⟩
    · cases this
  · refine .inr fun d hd => ?_
    have := h d hd
    split at this
    · cases this
    · cases this
    · exact ⟨by assumption, by assumption⟩
theorem csSorted (hu : X.A.units + 70 < cLine) : CS X (.builtin "sorted") (f1D .sorted) := by
  intro pins s σ H xs us Q I r h
  obtain ⟨x, M, dx, d, rfl, mt, px, e, q⟩ := h
  cases px with
  | lst hl hm hr =>
    rename_i a xs ds
    obtain ⟨ds', e1, rfl⟩ := Option.map_eq_some_iff.mp (show (sorted_ ds).map PyData.list = some d from e)
    obtain ⟨hc, rfl⟩ := gd_of (show gd _ (some _) = some ds' from e1)
    rw [Bool.and_eq_true, Bool.and_eq_true, Bool.and_eq_true] at hc
    obtain ⟨⟨⟨h1, h2⟩, h3⟩, h4⟩ := hc
    obtain ⟨u, rfl, ru⟩ := vals1 r
    cases ru
    obtain ⟨its, rv, pl, hz⟩ := I.list (SqL.of hl)
    have em : ds.map (fun d => d) = ds := List.map_id ds
    have al : PySem.W.AllAlike ds := fun d hd d' hd' => List.all_eq_true.mp (List.all_eq_true.mp h1 d hd) d' hd'
    refine PySem.W.sorted_data (enc := fun d => d) (bs := ds) pl.isList (hr.each rv) ?_ (by rw [em]; exact al) ?_ (by rw [hr.length]; exact hz) (fun b hb => ?_) fun out ho eo => ?_
    · exact each_reads I (hr.each rv) fun d hd => nd_alike (al d hd d hd)
    · rw [em]
      exact sortable_of h2
    · have := of_decide_eq_true (List.all_eq_true.mp h3 b hb)
      show X.A.units + 2 + b.depth < cLine
      omega
    · obtain ⟨xs', r', v'⟩ := each_rp eo
      obtain ⟨c, hc⟩ := PyProof.Rows.sortedAll_at s.heap its out.toArray
      have hlen : xs'.length ≤ sizeLine := by rw [v'.length, ho, hr.length]; exact hz
      refine ⟨.ref (s.heap.objs.size + 1), _, I.laid (o := .lst xs') (t' := s.toks) (fun b o e => PyProof.Rows.sortedAll_old e) (Nat.le_succ _) ⟨hlen, out, c, v', hc⟩, rfl, q.lst mt r' (I.hok.fresh (Nat.le_succ _))⟩
  | _ => cases e
end
end Mi
end
section
set_option Elab.async false
set_option linter.all false
set_option maxRecDepth 100000
set_option maxHeartbeats 1000000
/-! S3: expressions, construct by construct. -/
namespace Mi
open PySem PySem.Spec PyProof.Rows L2

theorem bnd_inv {α β : Type} {x : Option (α × Ev)} {f : α → Ev → Option β} {r : β} (h : bnd x f = some r) : ∃ a e, x = some (a, e) ∧ f a e = some r := by
  cases x with
  | none => cases h
  | some p => exact ⟨p.1, p.2, rfl, h⟩
theorem lft_inv {α : Type} {env e : Ev} {x : Option α} {a : α} (h : lft env x = some (a, e)) : x = some a ∧ env = e := by
  cases x with
  | none => cases h
  | some b => cases h; exact ⟨rfl, rfl⟩

section
variable (w : World) (K : PySem.W.Frag) (cf : CF) (cd : CD)
/-- the reading of an expression: the evaluator comes to a value -/
def tE (e : E) : TE := fun σ H Q => ∃ env M d env', SR w K env M σ H ∧ evE cf cd e env = some (d, env') ∧
  ∀ v H' M', SR w K env' M' σ H' → Evo (OwA env σ) H M (OwA env' σ) H' M' → Rp w K H' M' d v → Q v H'
def tEs (es : List E) : TA := fun σ H Q => ∃ env M ds env', SR w K env M σ H ∧ evEs cf cd es env = some (ds, env') ∧
  ∀ vs H' M', SR w K env' M' σ H' → Evo (OwA env σ) H M (OwA env' σ) H' M' → RpL w K H' M' ds vs → Q vs H'
def tTe (e : E) : TT := fun σ H Q => ∃ env M b env', SR w K env M σ H ∧ evE cf cd e env = some (.bool b, env') ∧
  ∀ H' M', SR w K env' M' σ H' → Evo (OwA env σ) H M (OwA env' σ) H' M' → Q b H'
end
abbrev ES (X : Cx) (cf : CF) (cd : CD) (e : Expr) (i : E) : Prop := PE X e (tE X.w X.K cf cd i)
abbrev EsS (X : Cx) (cf : CF) (cd : CD) (es : List Expr) (is : List E) : Prop := PA X es (tEs X.w X.K cf cd is)
abbrev TS_ (X : Cx) (cf : CF) (cd : CD) (e : Expr) (i : E) : Prop := PT X e (tTe X.w X.K cf cd i)

theorem PE.imp {X : Cx} {e : Expr} {t t' : TE} (h : PE X e t) (f : ∀ σ H Q, t' σ H Q → t σ H Q) : PE X e t' := ⟨fun pins s σ H Q I q => h.run pins s σ H Q I (f σ H Q q)⟩
theorem PT.imp {X : Cx} {e : Expr} {t t' : TT} (h : PT X e t) (f : ∀ σ H Q, t' σ H Q → t σ H Q) : PT X e t' := ⟨fun pins s σ H Q I q => h.run pins s σ H Q I (f σ H Q q)⟩
theorem PW.imp {X : Cx} {e : Expr} {t t' : TT} (h : PW X e t) (f : ∀ σ H Q, t' σ H Q → t σ H Q) : PW X e t' := ⟨fun wh pins s σ H Q I q => h.run wh pins s σ H Q I (f σ H Q q)⟩
theorem PA.imp {X : Cx} {e : List Expr} {t t' : TA} (h : PA X e t) (f : ∀ σ H Q, t' σ H Q → t σ H Q) : PA X e t' := ⟨fun pos pins s σ H Q I q => h.run pos pins s σ H Q I (f σ H Q q)⟩

section
variable {w : World} {K : PySem.W.Frag} {cf : CF} {cd : CD} {env e1 e2 : Ev} {M : Addr → Prop} {σ : L2.St} {H : Hp} {a b : E} {x y d : D}
theorem step1 (sr : SR w K env M σ H) (h1 : evE cf cd a env = some (x, e1)) {R : V → Hp → Prop}
    (k : ∀ v H' M', SR w K e1 M' σ H' → Evo (OwA env σ) H M (OwA e1 σ) H' M' → Rp w K H' M' x v → R v H') : tE w K cf cd a σ H R := ⟨env, M, x, e1, sr, h1, k⟩
theorem step2 (sr : SR w K env M σ H) (h1 : evE cf cd a env = some (x, e1)) (h2 : evE cf cd b e1 = some (y, e2)) {R : V → V → Hp → Prop}
    (k : ∀ v u H' M', SR w K e2 M' σ H' → Evo (OwA env σ) H M (OwA e2 σ) H' M' → Rp w K H' M' x v → Rp w K H' M' y u → R v u H') : tE w K cf cd a σ H fun v H1 => tE w K cf cd b σ H1 fun u H2 => R v u H2 :=
  step1 sr h1 fun v H1 M1 sr1 ev1 r1 => step1 sr1 h2 fun u H2 M2 sr2 ev2 r2 => k v u H2 M2 sr2 (ev1.trans ev2) (r1.evo ev2 sr1.sok) r2
/-- a result by values -/
theorem SR.wt (sr : SR w K e2 M σ H) {Q : VK} (q : ∀ v H', Same H H' → SR w K e2 M σ H' → Rp w K H' M d v → Q v H') : Wt w K M H d Q := fun v H' s r => q v H' s (sr.same s) r
end

section
variable {X : Cx} {cf : CF} {cd : CD} {e a b c : Expr} {ia ib ic : E} {pos : Pos}
theorem es_c {d : D} (h : PE X e (tC (match d with | .none => .non | .bool b => .bl b | .int i => .int i | .str s => .str s | _ => .non))) (hd : match d with | .none => True | .bool _ => True | .int _ => True | .str _ => True | _ => False) : ES X cf cd e (.c d) := by
  refine PE.imp h fun σ H Q ⟨env, M, d', env', sr, ev, k⟩ => ?_
  cases ev
  refine k _ H M sr Evo.rfl' ?_
  cases d <;> first | constructor | exact hd.elim
/-- a value of the module -/
theorem es_g {k : Nat} {v : V} (h : PE X e (tC v)) (hr : ∀ H M, Rp X.w X.K H M (cd k) v) : ES X cf cd e (.g k) := by
  refine PE.imp h fun σ H Q ⟨env, M, d', env', sr, ev, k⟩ => ?_
  cases ev
  exact k _ H M sr Evo.rfl' (hr H M)
theorem es_bin {op : Operator} {o : BO} (ho : OpS X (binaryOp op) (binD o)) (ha : ES X cf cd a ia) (hb : ES X cf cd b ib) : ES X cf cd (.BinOp a op b pos) (.bin o ia ib) := by
  refine PE.imp (pe_op ho ha hb) fun σ H Q ⟨env, M, d, env', sr, ev, k⟩ => ?_
  obtain ⟨x, e1, h1, ev⟩ := bnd_inv ev
  obtain ⟨y, e2, h2, ev⟩ := bnd_inv ev
  obtain ⟨h3, rfl⟩ := lft_inv ev
  exact step2 sr h1 h2 fun v u H2 M2 sr2 ev2 r1 r2 => ⟨M2, x, y, d, sr2.mt, r1, r2, h3, sr2.wt fun z H3 sm sr3 rz => k z H3 M2 sr3 (ev2.trans (Evo.same sm)) rz⟩
theorem es_cmp {op : CmpOp} {o : CO} (ho : OpS X (compareOp op) (cmpD o)) (hm : behindInMarks op b = false) (ha : ES X cf cd a ia) (hb : ES X cf cd b ib) : ES X cf cd (.Compare a [op] [b] pos) (.cmp o ia ib) := by
  refine PE.imp (pe_cmpR ho ha hb hm) fun σ H Q ⟨env, M, d, env', sr, ev, k⟩ => ?_
  obtain ⟨x, e1, h1, ev⟩ := bnd_inv ev
  obtain ⟨y, e2, h2, ev⟩ := bnd_inv ev
  obtain ⟨h3, rfl⟩ := lft_inv ev
  exact step2 sr h1 h2 fun v u H2 M2 sr2 ev2 r1 r2 => ⟨M2, x, y, d, sr2.mt, r1, r2, h3, sr2.wt fun z H3 sm sr3 rz => k z H3 M2 sr3 (ev2.trans (Evo.same sm)) rz⟩
theorem ts_cmp {op : CmpOp} {o : CO} (ho : OpS X (compareOp op) (cmpD o)) (hm : behindInMarks op b = false) (ha : ES X cf cd a ia) (hb : ES X cf cd b ib) : TS_ X cf cd (.Compare a [op] [b] pos) (.cmp o ia ib) := by
  refine PT.imp (pt_cmpR ho ha hb hm) fun σ H Q ⟨env, M, d, env', sr, ev, k⟩ => ?_
  obtain ⟨x, e1, h1, ev⟩ := bnd_inv ev
  obtain ⟨y, e2, h2, ev⟩ := bnd_inv ev
  obtain ⟨h3, rfl⟩ := lft_inv ev
  exact step2 sr h1 h2 fun v u H2 M2 sr2 ev2 r1 r2 => ⟨M2, x, y, .bool d, sr2.mt, r1, r2, h3, sr2.wt fun z H3 sm sr3 rz => by
    cases rz
    exact ⟨d, rfl, k H3 M2 sr3 (ev2.trans (Evo.same sm))⟩⟩
/-- a test by a value -/
theorem ts_val (h : ES X cf cd e ia) (he : ∀ whole, isTrue e X.env whole = (do let v ← whole; standAt e.pos; holding [v] (truthy v))) : TS_ X cf cd e ia := by
  refine PT.imp (pt_val h he) fun σ H Q ⟨env, M, b, env', sr, ev, k⟩ => ?_
  exact step1 sr ev fun v H' M' sr' ev' r => by
    cases r
    exact ⟨b, rfl, k H' M' sr' ev'⟩
theorem es_neg (ha : ES X cf cd a ia) : ES X cf cd (.UnaryOp .USub a pos) (.neg ia) := by
  refine PE.imp (pe_un un_neg ha) fun σ H Q ⟨env, M, d, env', sr, ev, k⟩ => ?_
  obtain ⟨x, e1, h1, ev⟩ := bnd_inv ev
  cases x <;> first | cases ev | skip
  exact step1 sr h1 fun v H' M' sr' ev' r => by
    cases r
    exact ⟨_, rfl, k _ H' M' sr' ev' (.int _)⟩
theorem es_nt (ha : ES X cf cd a ia) : ES X cf cd (.UnaryOp .Not a pos) (.nt ia) := by
  refine PE.imp (pe_not ha) fun σ H Q ⟨env, M, d, env', sr, ev, k⟩ => ?_
  obtain ⟨x, e1, h1, ev⟩ := bnd_inv ev
  cases x <;> first | cases ev | skip
  exact step1 sr h1 fun v H' M' sr' ev' r => by
    cases r
    exact ⟨_, rfl, k _ H' M' sr' ev' (.bl _)⟩
theorem ts_nt (ha : TS_ X cf cd a ia) : TS_ X cf cd (.UnaryOp .Not a pos) (.nt ia) := by
  refine PT.imp (pt_not ha) fun σ H Q ⟨env, M, d, env', sr, ev, k⟩ => ?_
  obtain ⟨x, e1, h1, ev⟩ := bnd_inv ev
  cases x <;> first | cases ev | skip
  exact ⟨env, M, _, _, sr, h1, fun H' M' sr' ev' => k H' M' sr' ev'⟩
/-! and, or: of bools, as values and as tests; the written list from the left -/
variable {rest : List Expr}
theorem es_one {op : BoolOp} (h : ES X cf cd a ia) : ES X cf cd (.BoolOp op [a] pos) ia := pe_one h
theorem es_and (ha : ES X cf cd a ia) (hb : ES X cf cd (.BoolOp .And (b :: rest) pos) ib) : ES X cf cd (.BoolOp .And (a :: b :: rest) pos) (.and ia ib) := by
  refine PE.imp (pe_and ha hb) fun σ H Q ⟨env, M, d, env', sr, ev, k⟩ => ?_
  obtain ⟨x, e1, h1, ev⟩ := bnd_inv ev
  refine step1 sr h1 fun v H1 M1 sr1 ev1 r => ?_
  cases r with
  | bl c =>
    refine ⟨c, rfl, ?_⟩
    cases c with
    | true =>
      rw [if_pos rfl]
      exact step1 sr1 ev fun v H2 M2 sr2 ev2 r2 => k v H2 M2 sr2 (ev1.trans ev2) r2
    | false =>
      cases ev
      rw [if_neg Bool.false_ne_true]
      exact k _ H1 M1 sr1 ev1 (.bl _)
  | _ => cases ev
theorem es_or (ha : ES X cf cd a ia) (hb : ES X cf cd (.BoolOp .Or (b :: rest) pos) ib) : ES X cf cd (.BoolOp .Or (a :: b :: rest) pos) (.or ia ib) := by
  refine PE.imp (pe_or ha hb) fun σ H Q ⟨env, M, d, env', sr, ev, k⟩ => ?_
  obtain ⟨x, e1, h1, ev⟩ := bnd_inv ev
  refine step1 sr h1 fun v H1 M1 sr1 ev1 r => ?_
  cases r with
  | bl c =>
    refine ⟨c, rfl, ?_⟩
    cases c with
    | true =>
      cases ev
      rw [if_pos rfl]
      exact k _ H1 M1 sr1 ev1 (.bl _)
    | false =>
      rw [if_neg Bool.false_ne_true]
      exact step1 sr1 ev fun v H2 M2 sr2 ev2 r2 => k v H2 M2 sr2 (ev1.trans ev2) r2
  | _ => cases ev
abbrev WS_ (X : Cx) (cf : CF) (cd : CD) (e : Expr) (i : E) : Prop := PW X e (tTe X.w X.K cf cd i)
theorem ws_and1 (h : TS_ X cf cd a ia) : WS_ X cf cd (.BoolOp .And [a] pos) ia := pw_and1 h
theorem ws_or1 (h : TS_ X cf cd a ia) : WS_ X cf cd (.BoolOp .Or [a] pos) ia := pw_or1 h
theorem ws_and (ha : TS_ X cf cd a ia) (hb : WS_ X cf cd (.BoolOp .And (b :: rest) pos) ib) : WS_ X cf cd (.BoolOp .And (a :: b :: rest) pos) (.and ia ib) := by
  refine PW.imp (pw_and ha hb) fun σ H Q ⟨env, M, d, env', sr, ev, k⟩ => ?_
  obtain ⟨x, e1, h1, ev⟩ := bnd_inv ev
  cases x <;> first | cases ev | skip
  rename_i c
  refine ⟨env, M, c, e1, sr, h1, fun H1 M1 sr1 ev1 => ?_⟩
  cases c with
  | true =>
    rw [if_pos rfl]
    exact ⟨e1, M1, d, env', sr1, ev, fun H2 M2 sr2 ev2 => k H2 M2 sr2 (ev1.trans ev2)⟩
  | false =>
    cases ev
    rw [if_neg Bool.false_ne_true]
    exact k H1 M1 sr1 ev1
theorem ws_or (ha : TS_ X cf cd a ia) (hb : WS_ X cf cd (.BoolOp .Or (b :: rest) pos) ib) : WS_ X cf cd (.BoolOp .Or (a :: b :: rest) pos) (.or ia ib) := by
  refine PW.imp (pw_or ha hb) fun σ H Q ⟨env, M, d, env', sr, ev, k⟩ => ?_
  obtain ⟨x, e1, h1, ev⟩ := bnd_inv ev
  cases x <;> first | cases ev | skip
  rename_i c
  refine ⟨env, M, c, e1, sr, h1, fun H1 M1 sr1 ev1 => ?_⟩
  cases c with
  | true =>
    cases ev
    rw [if_pos rfl]
    exact k H1 M1 sr1 ev1
  | false =>
    rw [if_neg Bool.false_ne_true]
    exact ⟨e1, M1, d, env', sr1, ev, fun H2 M2 sr2 ev2 => k H2 M2 sr2 (ev1.trans ev2)⟩
theorem es_ife (hc : TS_ X cf cd c ic) (ha : ES X cf cd a ia) (hb : ES X cf cd b ib) : ES X cf cd (.IfExp c a b pos) (.ife ic ia ib) := by
  refine PE.imp (pe_ifExp hc ha hb) fun σ H Q ⟨env, M, d, env', sr, ev, k⟩ => ?_
  obtain ⟨x, e1, h1, ev⟩ := bnd_inv ev
  cases x <;> first | cases ev | skip
  rename_i c
  refine ⟨env, M, c, e1, sr, h1, fun H1 M1 sr1 ev1 => ?_⟩
  cases c with
  | true =>
    rw [if_pos rfl]
    exact step1 sr1 ev fun v H2 M2 sr2 ev2 r2 => k v H2 M2 sr2 (ev1.trans ev2) r2
  | false =>
    rw [if_neg Bool.false_ne_true]
    exact step1 sr1 ev fun v H2 M2 sr2 ev2 r2 => k v H2 M2 sr2 (ev1.trans ev2) r2
theorem es_ch {op op' : CmpOp} {o o' : CO} (ho : OpS X (compareOp op) (cmpD o)) (ho' : OpS X (compareOp op') (cmpD o')) (hm : lastMarks [op, op'] [b, c] = false) (ha : ES X cf cd a ia) (hb : ES X cf cd b ib) (hc : ES X cf cd c ic) :
    ES X cf cd (.Compare a [op, op'] [b, c] pos) (.ch o o' ia ib ic) := by
  refine PE.imp (pe_chain ho ho' ha hb hc hm) fun σ H Q ⟨env, M, d, env', sr, ev, k⟩ => ?_
  obtain ⟨x, e1, h1, ev⟩ := bnd_inv ev
  obtain ⟨y, e2, h2, ev⟩ := bnd_inv ev
  refine step2 sr h1 h2 fun v u H2 M2 sr2 ev2 r1 r2 => ?_
  split at ev
  · rename_i h3
    obtain ⟨z, e3, h4, ev⟩ := bnd_inv ev
    obtain ⟨h5, rfl⟩ := lft_inv ev
    refine ⟨M2, x, y, _, sr2.mt, r1, r2, h3, sr2.wt fun t H3 sm sr3 rt => ?_⟩
    cases rt
    refine ⟨true, rfl, ?_⟩
    rw [if_pos rfl]
    exact step1 sr3 h4 fun t H4 M4 sr4 ev4 r4 => ⟨M4, y, z, d, sr4.mt, (r2.same sm).evo ev4 sr3.sok, r4, h5, sr4.wt fun t' H5 sm5 sr5 r5 => k t' H5 M4 sr5 (ev2.trans ((Evo.same sm).trans (ev4.trans (Evo.same sm5)))) r5⟩
  · rename_i h3
    cases ev
    refine ⟨M2, x, y, _, sr2.mt, r1, r2, h3, sr2.wt fun t H3 sm sr3 rt => ?_⟩
    cases rt
    refine ⟨false, rfl, ?_⟩
    rw [if_neg Bool.false_ne_true]
    exact k _ H3 M2 sr3 (ev2.trans (Evo.same sm)) (.bl _)
  · cases ev
theorem ts_ch {op op' : CmpOp} {o o' : CO} (ho : OpS X (compareOp op) (cmpD o)) (ho' : OpS X (compareOp op') (cmpD o')) (hm : lastMarks [op, op'] [b, c] = false) (ha : ES X cf cd a ia) (hb : ES X cf cd b ib) (hc : ES X cf cd c ic) :
    TS_ X cf cd (.Compare a [op, op'] [b, c] pos) (.ch o o' ia ib ic) := by
  refine PT.imp (pt_chain ho ho' ha hb hc hm) fun σ H Q ⟨env, M, d, env', sr, ev, k⟩ => ?_
  obtain ⟨x, e1, h1, ev⟩ := bnd_inv ev
  obtain ⟨y, e2, h2, ev⟩ := bnd_inv ev
  refine step2 sr h1 h2 fun v u H2 M2 sr2 ev2 r1 r2 => ?_
  split at ev
  · rename_i h3
    obtain ⟨z, e3, h4, ev⟩ := bnd_inv ev
    obtain ⟨h5, rfl⟩ := lft_inv ev
    refine ⟨M2, x, y, _, sr2.mt, r1, r2, h3, sr2.wt fun t H3 sm sr3 rt => ?_⟩
    cases rt
    refine ⟨true, rfl, ?_⟩
    rw [if_pos rfl]
    exact step1 sr3 h4 fun t H4 M4 sr4 ev4 r4 => ⟨M4, y, z, _, sr4.mt, (r2.same sm).evo ev4 sr3.sok, r4, h5, sr4.wt fun t' H5 sm5 sr5 r5 => by
      cases r5
      exact ⟨_, rfl, k H5 M4 sr5 (ev2.trans ((Evo.same sm).trans (ev4.trans (Evo.same sm5))))⟩⟩
  · rename_i h3
    cases ev
    refine ⟨M2, x, y, _, sr2.mt, r1, r2, h3, sr2.wt fun t H3 sm sr3 rt => ?_⟩
    cases rt
    refine ⟨false, rfl, ?_⟩
    rw [if_neg Bool.false_ne_true]
    exact ⟨_, rfl, k H3 M2 sr3 (ev2.trans (Evo.same sm))⟩
  · cases ev

/-! lists of arguments, displays -/
variable {es : List Expr} {is : List E}
theorem ess_nil : EsS X cf cd [] [] := PA.imp pa_nil fun σ H Q ⟨env, M, ds, env', sr, ev, k⟩ => by
  cases ev
  exact k [] H M sr Evo.rfl' .nil
theorem ess_cons (ha : ES X cf cd a ia) (hr : EsS X cf cd es is) (hs : starEach (a :: es) X.env = (false, eval a X.env) :: starEach es X.env) : EsS X cf cd (a :: es) (ia :: is) := by
  refine PA.imp (pa_cons ha hr hs) fun σ H Q ⟨env, M, ds, env', sr, ev, k⟩ => ?_
  obtain ⟨x, e1, h1, ev⟩ := bnd_inv ev
  obtain ⟨xs, e2, h2, ev⟩ := bnd_inv ev
  cases ev
  exact step1 sr h1 fun v H1 M1 sr1 ev1 r1 => ⟨e1, M1, xs, _, sr1, h2, fun vs H2 M2 sr2 ev2 r2 => k _ H2 M2 sr2 (ev1.trans ev2) (.cons (r1.evo ev2 sr1.sok) r2)⟩
theorem es_tup {n : Nat} (h : EsS X cf cd es is) : ES X cf cd (.Tuple es n pos) (.tup is) := by
  refine ⟨fun pins s σ H Q I ⟨env, M, d, env', sr, ev, k⟩ => ?_⟩
  obtain ⟨ds, e1, h1, ev⟩ := bnd_inv ev
  obtain ⟨hz, ev⟩ := gd_of ev
  cases ev
  refine wpAny_Tuple_spliced (thn (h.run pos pins s σ H (fun vs H1 => ∃ M1, SR X.w X.K env' M1 σ H1 ∧ Evo (OwA env σ) H M (OwA env' σ) H1 M1 ∧ RpL X.w X.K H1 M1 ds vs) I ⟨env, M, ds, env', sr, h1, fun vs H1 M1 sr1 ev1 r1 => ⟨M1, sr1, ev1, r1⟩⟩) fun us s1 ⟨xs, H1, I1, rv, M1, sr1, ev1, r1⟩ => ?_)
  have hl : xs.length ≤ sizeLine := by rw [← r1.length]; exact SZ_line ▸ of_decide_eq_true hz
  refine ⟨by rw [← rv.length]; exact hl, ?_⟩
  exact tupEnd (t' := s1.toks) I1 rv hl r1 (sr1.wt fun v H2 sm sr2 r2 => k v H2 M1 sr2 (ev1.trans (Evo.same sm)) r2)
theorem es_lst (h : EsS X cf cd es is) : ES X cf cd (.List es pos) (.lst is) := by
  refine PE.imp (pe_lst h) fun σ H Q ⟨env, M, d, env', sr, ev, k⟩ => ?_
  obtain ⟨ds, e1, h1, ev⟩ := bnd_inv ev
  obtain ⟨hz, ev⟩ := gd_of ev
  cases ev
  refine ⟨env, M, ds, _, sr, h1, fun vs H1 M1 sr1 ev1 r1 => ⟨by rw [← r1.length]; exact SZ_line ▸ of_decide_eq_true hz, fun p hp => ?_⟩⟩
  exact (sr1.wt (d := .list ds) fun v H2 sm sr2 r2 => k v H2 M1 sr2 (ev1.trans (Evo.same sm)) r2).lst sr1.mt r1 hp

/-! items, slices -/
theorem es_idx (hu : X.A.units + 16 < cLine) (ha : ES X cf cd a ia) (hb : ES X cf cd b ib) (hp : PlainIx b) : ES X cf cd (.Subscript a b pos) (.idx ia ib) := by
  refine ⟨fun pins s σ H Q I ⟨env, M, d, env', sr, ev, k⟩ => ?_⟩
  obtain ⟨x, e1, h1, ev⟩ := bnd_inv ev
  obtain ⟨y, e2, h2, ev⟩ := bnd_inv ev
  obtain ⟨h3, rfl⟩ := lft_inv ev
  refine Subscript_ (binT ha hb I (step2 sr h1 h2 (R := fun v u H2 => ∃ M2, SR X.w X.K e2 M2 σ H2 ∧ Evo (OwA env σ) H M (OwA e2 σ) H2 M2 ∧ Rp X.w X.K H2 M2 x v ∧ Rp X.w X.K H2 M2 y u) fun v u H2 M2 sr2 ev2 r1 r2 => ⟨M2, sr2, ev2, r1, r2⟩) fun v u s2 xv yv H2 I2 rx ry ⟨M2, sr2, ev2, r1, r2⟩ => ?_)
  exact ixS hu pins s2 σ H2 M2 x y d xv yv v u Q a b I2 rx ry sr2.mt r1 r2 h3 (sr2.wt fun z H3 sm sr3 rz => k z H3 M2 sr3 (ev2.trans (Evo.same sm)) rz) (hp _ _)
def tO_ (w : World) (K : PySem.W.Frag) (cf : CF) (cd : CD) (o : Option E) : TO := fun σ H Q => ∃ env M l env', SR w K env M σ H ∧ evO cf cd o env = some (l, env') ∧
  ∀ H' M', SR w K env' M' σ H' → Evo (OwA env σ) H M (OwA env' σ) H' M' → Q l H'
theorem PO.imp {X : Cx} {e : Option Expr} {t t' : TO} (h : PO X e t) (f : ∀ σ H Q, t' σ H Q → t σ H Q) : PO X e t' := ⟨fun pins s σ H Q I q => h.run pins s σ H Q I (f σ H Q q)⟩
abbrev OS_ (X : Cx) (cf : CF) (cd : CD) (e : Option Expr) (i : Option E) : Prop := PO X e (tO_ X.w X.K cf cd i)
theorem os_none : OS_ X cf cd none none := PO.imp po_none fun σ H Q ⟨env, M, l, env', sr, ev, k⟩ => by
  cases ev
  exact k H M sr Evo.rfl'
theorem os_some (h : ES X cf cd a ia) : OS_ X cf cd (some a) (some ia) := PO.imp (po_some h) fun σ H Q ⟨env, M, l, env', sr, ev, k⟩ => by
  obtain ⟨x, e1, h1, ev⟩ := bnd_inv ev
  refine step1 sr h1 fun v H1 M1 sr1 ev1 r1 => ?_
  cases r1 <;> first | cases ev | skip
  exact ⟨_, rfl, k H1 M1 sr1 ev1⟩
theorem es_slc {lo hi : Option Expr} {il ih : Option E} {p2 : Pos} (ha : ES X cf cd a ia) (hl : OS_ X cf cd lo il) (hh : OS_ X cf cd hi ih) : ES X cf cd (.Subscript a (.Slice lo hi none p2) pos) (.slc ia il ih) := by
  refine PE.imp (pe_slice slS ha hl hh) fun σ H Q ⟨env, M, d, env', sr, ev, k⟩ => ?_
  obtain ⟨x, e1, h1, ev⟩ := bnd_inv ev
  obtain ⟨l, e2, h2, ev⟩ := bnd_inv ev
  obtain ⟨u, e3, h3, ev⟩ := bnd_inv ev
  obtain ⟨h4, rfl⟩ := lft_inv ev
  exact step1 sr h1 fun v H1 M1 sr1 ev1 r1 => ⟨e1, M1, l, e2, sr1, h2, fun H2 M2 sr2 ev2 => ⟨e2, M2, u, e3, sr2, h3, fun H3 M3 sr3 ev3 =>
    ⟨M3, x, d, sr3.mt, (r1.evo ev2 sr1.sok).evo ev3 sr2.sok, h4, sr3.wt fun z H4 sm sr4 rz => k z H4 M3 sr4 (ev1.trans (ev2.trans (ev3.trans (Evo.same sm)))) rz⟩⟩⟩

/-! built-in functions -/
theorem es_f1B {f : F1} {id : String} {x : Str} {p : Pos} (hf : CS X (.builtin id) (f1D f)) (hg : Gl X x) (hm : X.mg x = none) (hv : bootBuiltins x = some (.builtin id)) (hn : x ≠ "__name__") (hd : (x == ("__debug__" : Str)) = false) (ha : ES X cf cd a ia)
    (hs : starEach [a] X.env = (false, eval a X.env) :: starEach [] X.env) : ES X cf cd (.Call (.Name x p) [a] [] pos) (.f1 f ia) := by
  refine PE.imp (pe_callB hf hg hm hv (pa_cons ha pa_nil hs) hn hd hs rfl) fun σ H Q ⟨env, M, d, env', sr, ev, k⟩ => ?_
  obtain ⟨y, e1, h1, ev⟩ := bnd_inv ev
  obtain ⟨h2, rfl⟩ := lft_inv ev
  exact step1 sr h1 fun v H1 M1 sr1 ev1 r1 => ⟨v, M1, y, d, rfl, sr1.mt, r1, h2, sr1.wt fun z H2 sm sr2 rz => k z H2 M1 sr2 (ev1.trans (Evo.same sm)) rz⟩
theorem es_f1T {f : F1} {id : String} {x : Str} {p : Pos} (hf : CS X (.type id) (f1D f)) (hg : Gl X x) (hm : X.mg x = none) (hv : bootBuiltins x = some (.type id)) (hn : x ≠ "__name__") (hd : (x == ("__debug__" : Str)) = false) (ha : ES X cf cd a ia)
    (hs : starEach [a] X.env = (false, eval a X.env) :: starEach [] X.env) : ES X cf cd (.Call (.Name x p) [a] [] pos) (.f1 f ia) := by
  refine PE.imp (pe_callTy hf hg hm hv (pa_cons ha pa_nil hs) hn hd hs rfl) fun σ H Q ⟨env, M, d, env', sr, ev, k⟩ => ?_
  obtain ⟨y, e1, h1, ev⟩ := bnd_inv ev
  obtain ⟨h2, rfl⟩ := lft_inv ev
  exact step1 sr h1 fun v H1 M1 sr1 ev1 r1 => ⟨v, M1, y, d, rfl, sr1.mt, r1, h2, sr1.wt fun z H2 sm sr2 rz => k z H2 M1 sr2 (ev1.trans (Evo.same sm)) rz⟩
end
end Mi
end
section
set_option Elab.async false
set_option linter.all false
set_option maxRecDepth 100000
set_option maxHeartbeats 1000000
/-! S4: names, objects of the frame's own, calls. -/
namespace Mi
open PySem PySem.Spec PyProof.Rows L2

section
variable {w : World} {K : PySem.W.Frag} {env : Ev} {M : Addr → Prop} {σ : L2.St} {H H' : Hp} {i : Nat} {d : D} {a : Addr}
theorem set_get {α : Type} {l : List α} {i j : Nat} {x y : α} (h : (l.set i x)[j]? = some y) : (j = i ∧ x = y ∧ i < l.length) ∨ (j ≠ i ∧ l[j]? = some y) := by
  by_cases e : i = j
  · subst e
    by_cases hl : i < l.length
    · rw [List.getElem?_set_self hl] at h
      exact .inl ⟨rfl, Option.some.inj h, hl⟩
    · rw [List.getElem?_eq_none (by simpa using hl)] at h
      cases h
  · rw [List.getElem?_set_ne e] at h
    exact .inr ⟨fun z => e z.symm, h⟩
/-- the object at slot i is changed no more -/
theorem freeze_own (sr : SR w K env M σ H) (e : env[i]? = some (.own d)) (es : σ[i]? = some (some (.ref a))) {b : Addr} (h : OwA (env.set i (.val d)) σ b) : OwA env σ b ∧ b ≠ a := by
  obtain ⟨j, d', h1, h2⟩ := h
  rcases set_get h1 with ⟨_, z, _⟩ | ⟨n, h1⟩
  · cases z
  · refine ⟨⟨j, d', h1, h2⟩, fun z => n ?_⟩
    subst z
    exact sr.sep j i d' d b h1 e h2 es
theorem freeze_evo (sr : SR w K env M σ H) (e : env[i]? = some (.own d)) (es : σ[i]? = some (some (.ref a))) (k : ∀ b, b ≠ a → H' b = H b) (ka : H' a ≠ none) :
    Evo (OwA env σ) H M (OwA (env.set i (.val d)) σ) H' (fun b => M b ∧ b ≠ a) where
  keep := fun b o h n => by
    rw [k b fun z => n ⟨i, d, e, z ▸ es⟩]
    exact h
  mk' := fun b _ m n => ⟨m, fun z => n ⟨i, d, e, z ▸ es⟩⟩
  mo := fun b _ m => m.1
  sn := fun b h => .inl (freeze_own sr e es h).1
  al := fun b h => by
    by_cases z : b = a
    · subst z; exact ka
    · rw [k b z]; exact h
theorem freeze_sr (sr : SR w K env M σ H) (e : env[i]? = some (.own d)) (es : σ[i]? = some (some (.ref a))) (k : ∀ b, b ≠ a → H' b = H b) (ka : H' a ≠ none) (r : Rp w K H' (fun b => M b ∧ b ≠ a) d (.ref a)) :
    SR w K (env.set i (.val d)) (fun b => M b ∧ b ≠ a) σ H' where
  len := by rw [List.length_set]; exact sr.len
  val := fun j d' h => by
    rcases set_get h with ⟨rfl, z, _⟩ | ⟨n, h⟩
    · cases z
      exact ⟨_, es, r⟩
    · obtain ⟨v, h1, h2⟩ := sr.val j d' h
      exact ⟨v, h1, h2.evo (freeze_evo sr e es k ka) sr.sok⟩
  own := fun j d' h => by
    rcases set_get h with ⟨_, z, _⟩ | ⟨n, h⟩
    · cases z
    · obtain ⟨b, h1, h2, h3⟩ := sr.own j d' h
      have nb : b ≠ a := fun z => n (sr.sep j i d' d a h e (z ▸ h1) es)
      refine ⟨b, h1, ⟨h2, nb⟩, ?_⟩
      cases h3 with
      | lst g r => exact .lst (by rw [k b nb]; exact g) (r.evo (freeze_evo sr e es k ka) sr.sok)
      | dct g r nd => exact .dct (by rw [k b nb]; exact g) (r.evo (freeze_evo sr e es k ka) sr.sok) nd
  sep := fun j l d' e' b h1 h2 h3 h4 => by
    rcases set_get h1 with ⟨_, z, _⟩ | ⟨_, h1⟩
    · cases z
    · rcases set_get h2 with ⟨_, z, _⟩ | ⟨_, h2⟩
      · cases z
      · exact sr.sep j l d' e' b h1 h2 h3 h4
  mt := fun b m => by rw [k b m.2]; exact sr.mt b m.1
end

section
variable {X : Cx} {cf : CF} {cd : CD} {e a b c : Expr} {ia ib ic : E} {pos : Pos}
theorem es_v {i : Nat} {x : Str} (hN : X.N[i]? = some x) (hv : Vis X.env.scope x) (hd : (x == ("__debug__" : Str)) = false) (hcd : (x == ("__classdict__" : Str)) = false) : ES X cf cd (.Name x pos) (.v i) := by
  refine ⟨fun pins s σ H Q I ⟨env, M, d, env', sr, ev, k⟩ => ?_⟩
  have rdv : ∀ {v : V}, σ[i]? = some (some v) → ∀ {P : VK}, P v H → wpAny (model X.prog X.w) X.A (eval (.Name x pos) X.env) (EP X pins σ P) X.xe s := fun {v} h1 {P} p =>
    (pe_var (pos := pos) hN hv hd hcd).run pins s σ H P I ⟨v, h1, p⟩
  simp only [evE, rd] at ev
  split at ev
  · rename_i d' h
    cases ev
    have h := getD_get h (by simp)
    obtain ⟨v, h1, h2⟩ := sr.val i d h
    exact rdv h1 (k v H M sr Evo.rfl' h2)
  · rename_i d' h
    cases ev
    have h := getD_get h (by simp)
    obtain ⟨a, h1, h2, h3⟩ := sr.own i d h
    cases h3 with
    | @lst a xs ds g r =>
      refine rdv h1 (k _ H _ (freeze_sr sr h h1 (fun _ _ => rfl) (some_ne g) ?_) (freeze_evo sr h h1 (fun _ _ => rfl) (some_ne g)) ?_) <;>
        exact .lst g (fun z => z.2 rfl) (r.less fun _ _ z => z.1)
    | @dct a xs kvs g r nd =>
      refine thn (rdv h1 (P := fun v H' => v = .ref a ∧ H' = H) ⟨rfl, rfl⟩) fun u s1 ⟨v, H1, I1, rv, ev, eH⟩ => ?_
      subst ev eH
      obtain ⟨od, I2⟩ := I1.lock g trivial
      have ku : ∀ b, b ≠ a → upd H1 a (.frz od (dO a xs)) b = H1 b := fun b nb => upd_ne nb
      have rr : Rp X.w X.K (upd H1 a (.frz od (dO a xs))) (fun b => M b ∧ b ≠ a) (.dict kvs) (.ref a) :=
        .dct upd_same (fun z => z.2 rfl) (r.evo (freeze_evo sr h h1 ku (some_ne upd_same)) sr.sok) nd
      exact ⟨.ref a, _, I2, rv, k _ _ _ (freeze_sr sr h h1 ku (some_ne upd_same) rr) (freeze_evo sr h h1 ku (some_ne upd_same)) rr⟩
  · cases ev

theorem es_f2B {f : F2} {id : String} {x : Str} {p : Pos} (hf : CallR X (.builtin id) fun xs H Q => ∃ i j d, xs = [.int i, .int j] ∧ f2D f (.int i) (.int j) = some (.int d) ∧ Q (.int d) H) (hg : Gl X x) (hm : X.mg x = none) (hv : bootBuiltins x = some (.builtin id)) (hn : x ≠ "__name__") (hd : (x == ("__debug__" : Str)) = false)
    (ha : ES X cf cd a ia) (hb : ES X cf cd b ib) (hs : starEach [a, b] X.env = (false, eval a X.env) :: starEach [b] X.env) (hs2 : starEach [b] X.env = (false, eval b X.env) :: starEach [] X.env) : ES X cf cd (.Call (.Name x p) [a, b] [] pos) (.f2 f ia ib) := by
  refine PE.imp (pe_callB hf hg hm hv (pa_cons ha (pa_cons hb pa_nil hs2) hs) hn hd hs (by rw [hs2]; rfl)) fun σ H Q ⟨env, M, d, env', sr, ev, k⟩ => ?_
  obtain ⟨x1, e1, h1, ev⟩ := bnd_inv ev
  obtain ⟨x2, e2, h2, ev⟩ := bnd_inv ev
  obtain ⟨h3, rfl⟩ := lft_inv ev
  refine step2 sr h1 h2 fun v u H2 M2 sr2 ev2 r1 r2 => ?_
  cases r1 <;> cases r2 <;> cases f <;> cases h3
  all_goals exact ⟨_, _, _, rfl, rfl, k _ H2 M2 sr2 ev2 (.int _)⟩
theorem max2S (hc : X.calm = true) : CallR X (.builtin "max") fun xs H Q => ∃ i j d, xs = [.int i, .int j] ∧ f2D .max (.int i) (.int j) = some (.int d) ∧ Q (.int d) H := by
  intro pins s σ H xs us Q I r ⟨i, j, d, e, h, q⟩
  cases h
  exact call_max2 hc pins s σ H xs us Q I r ⟨i, j, e, q⟩
theorem min2S (hc : X.calm = true) : CallR X (.builtin "min") fun xs H Q => ∃ i j d, xs = [.int i, .int j] ∧ f2D .min (.int i) (.int j) = some (.int d) ∧ Q (.int d) H := by
  intro pins s σ H xs us Q I r ⟨i, j, d, e, h, q⟩
  cases h
  exact call_min2 hc pins s σ H xs us Q I r ⟨i, j, e, q⟩

/-! ### isinstance -/
def tyName : Ty → String
  | .int => "int"
  | .bool => "bool"
  | .str => "str"
  | .tup => "tuple"
  | .lst => "list"
def tyOf : D → String
  | .none => "NoneType"
  | .bool _ => "bool"
  | .int _ => "int"
  | .str _ => "str"
  | .list _ => "list"
  | .tuple _ => "tuple"
  | .dict _ => "dict"
theorem kit_is (K : PySem.W.Frag) : ∀ (d : D) (t : Ty), noDict d = true → PySem.W.kitOne K (.type (tyOf d)) (.type (tyName t)) = some (isTy d t) := by
  intro d t h
  cases d <;> cases t <;> first | (cases h; done) | (exact PySem.W.kit_ty (by decide +kernel)) | rfl
theorem rp_ty {H : Hp} {M : Addr → Prop} {d : D} {v : V} (r : Rp X.w X.K H M d v) (h : noDict d = true) : TyX X.K H v (.type (tyOf d)) := by
  cases r with
  | non => exact .base .non
  | bl b => exact .base (.bl b)
  | int i => exact .base (.int i)
  | str x => exact .base (.str x)
  | lst g _ _ => exact .base (.lst g)
  | tup g _ =>
    rcases g with ⟨o, g, _⟩ | ⟨o, its, n, g1, g2, _⟩
    · exact .fTuple g
    · exact .kTuple g1 g2
  | dct _ _ _ _ => cases h
theorem es_isi1 {x : Str} {p p2 : Pos} {t : Ty} (hx : x = "isinstance") (hg : Gl X x) (hm : X.mg x = none) (hg2 : Gl X (Str.ofString (tyName t))) (hm2 : X.mg (Str.ofString (tyName t)) = none) (ha : ES X cf cd a ia)
    (hs : starEach [a, .Name (Str.ofString (tyName t)) p2] X.env = (false, eval a X.env) :: starEach [.Name (Str.ofString (tyName t)) p2] X.env) :
    ES X cf cd (.Call (.Name x p) [a, .Name (Str.ofString (tyName t)) p2] [] pos) (.isi ia [t]) := by
  subst hx
  have hb : PE X (.Name (Str.ofString (tyName t)) p2) (tC (.ty (tyName t))) := by
    refine pe_bltn (u := .type (tyName t)) hg2 hm2 ?_ rfl ?_ ?_ <;> cases t <;> decide +kernel
  refine PE.imp (pe_callB call_isi hg hm (by decide +kernel) (pa_cons ha (pa_cons hb pa_nil rfl) hs) (by decide) (by decide) hs rfl) fun σ H Q ⟨env, M, d, env', sr, ev, k⟩ => ?_
  obtain ⟨y, e1, h1, ev⟩ := bnd_inv ev
  obtain ⟨hn, ev⟩ := gd_of ev
  cases ev
  refine step1 sr h1 fun v H1 M1 sr1 ev1 r1 => ⟨v, .ty (tyName t), _, .type (tyName t), _, rfl, .ty _, rp_ty r1 hn, kit_is _ y t hn, ?_⟩
  have e : ([t].any (isTy y)) = isTy y t := by simp
  rw [e] at k
  exact k _ H1 M1 sr1 ev1 (.bl _)
theorem kit_any (K : PySem.W.Frag) (d : D) (h : noDict d = true) : ∀ ts : List Ty, PySem.W.kitAny K (.type (tyOf d)) (ts.map fun t => Value.type (tyName t)) = some (ts.any (isTy d))
  | [] => rfl
  | t :: ts => by
    refine kitAny_cons (kit_is K d t h) (fun e => ?_) (fun e => ?_)
    · rw [List.any_cons, e, Bool.false_or]
      exact kit_any K d h ts
    · rw [List.any_cons, e, Bool.true_or]
theorem es_isi3 {x : Str} {p p1 p2 p3 tp : Pos} {n : Nat} {t1 t2 t3 : Ty} (hx : x = "isinstance") (hg : Gl X x) (hm : X.mg x = none) (hg2 : ∀ t ∈ [t1, t2, t3], Gl X (Str.ofString (tyName t))) (hm2 : ∀ t ∈ [t1, t2, t3], X.mg (Str.ofString (tyName t)) = none) (ha : ES X cf cd a ia)
    (hs : starEach [a, .Tuple [.Name (Str.ofString (tyName t1)) p1, .Name (Str.ofString (tyName t2)) p2, .Name (Str.ofString (tyName t3)) p3] n tp] X.env = (false, eval a X.env) :: starEach [.Tuple [.Name (Str.ofString (tyName t1)) p1, .Name (Str.ofString (tyName t2)) p2, .Name (Str.ofString (tyName t3)) p3] n tp] X.env) :
    ES X cf cd (.Call (.Name x p) [a, .Tuple [.Name (Str.ofString (tyName t1)) p1, .Name (Str.ofString (tyName t2)) p2, .Name (Str.ofString (tyName t3)) p3] n tp] [] pos) (.isi ia [t1, t2, t3]) := by
  subst hx
  have hb : ∀ t ∈ [t1, t2, t3], ∀ p2, PE X (.Name (Str.ofString (tyName t)) p2) (tC (.ty (tyName t))) := fun t ht p2 => by
    refine pe_bltn (u := .type (tyName t)) (hg2 t ht) (hm2 t ht) ?_ rfl ?_ ?_ <;> cases t <;> decide +kernel
  have htup := pe_tup (X := X) (x1 := n) (pos := tp) (pa_cons (hb t1 (by simp) p1) (pa_cons (hb t2 (by simp) p2) (pa_cons (hb t3 (by simp) p3) pa_nil rfl) rfl) rfl)
  refine PE.imp (pe_callB call_isiT hg hm (by decide +kernel) (pa_cons ha (pa_cons htup pa_nil rfl) hs) (by decide) (by decide) hs rfl) fun σ H Q ⟨env, M, d, env', sr, ev, k⟩ => ?_
  obtain ⟨y, e1, h1, ev⟩ := bnd_inv ev
  obtain ⟨hn, ev⟩ := gd_of ev
  cases ev
  refine step1 sr h1 fun v H1 M1 sr1 ev1 r1 => ⟨by show 3 ≤ sizeLine; decide, fun q hq => ?_⟩
  have sm : Same H1 (upd H1 q (.tup [.ty (tyName t1), .ty (tyName t2), .ty (tyName t3)])) := same_upd hq
  refine ⟨v, q, _, _, _, _, rfl, upd_same, .cons (.ty _) (.cons (.ty _) (.cons (.ty _) .nil)), rp_ty (r1.same sm) hn, kit_any _ y hn [t1, t2, t3], ?_⟩
  exact k _ _ M1 (sr1.same sm) (ev1.trans (Evo.same sm)) (.bl _)

/-! ### objects of the frame's own, read -/
theorem pk_own {env : Ev} {i : Nat} {d : D} (h : pk env i = some d) : env[i]? = some (.own d) := by
  unfold pk at h
  split at h
  · cases h
  · rename_i d' g
    cases h
    exact getD_get g (by simp)
  · cases h
theorem es_lenO {i : Nat} {x y : Str} {p p2 : Pos} (hx : x = "len") (hg : Gl X x) (hm : X.mg x = none) (hN : X.N[i]? = some y) (hv : Vis X.env.scope y) (hd : (y == ("__debug__" : Str)) = false) (hcd : (y == ("__classdict__" : Str)) = false) : ES X cf cd (.Call (.Name x p) [.Name y p2] [] pos) (.lenO i) := by
  subst hx
  refine PE.imp (pe_callB call_len_seq hg hm (by decide +kernel) (pa_cons (pe_var hN hv hd hcd) pa_nil rfl) (by decide) (by decide) rfl rfl) fun σ H Q ⟨env, M, d, env', sr, ev, k⟩ => ?_
  simp only [evE] at ev
  split at ev
  · rename_i xs h
    cases ev
    obtain ⟨a, h1, h2, h3⟩ := sr.own i _ (pk_own h)
    cases h3 with
    | lst g r => exact ⟨_, h1, _, _, rfl, .inl (SqL.of g), by rw [← r.length]; exact k _ H M sr Evo.rfl' (.int _)⟩
  · cases ev
/-- the object at slot i, whatever has happened since -/
theorem own_at {w : World} {K : PySem.W.Frag} {env : Ev} {M : Addr → Prop} {σ : L2.St} {H : Hp} (sr : SR w K env M σ H) {i : Nat} {d : D} {a : Addr} (h : env[i]? = some (.own d)) (es : σ[i]? = some (some (.ref a))) : M a ∧ Ow w K H M d a := by
  obtain ⟨b, h1, h2, h3⟩ := sr.own i d h
  rw [es] at h1
  cases h1
  exact ⟨h2, h3⟩
theorem es_idxO (hu : X.A.units + 16 < cLine) {i : Nat} {y : Str} {p2 : Pos} (hN : X.N[i]? = some y) (hv : Vis X.env.scope y) (hd : (y == ("__debug__" : Str)) = false) (hcd : (y == ("__classdict__" : Str)) = false) (hb : ES X cf cd b ib) (hp : PlainIx b) :
    ES X cf cd (.Subscript (.Name y p2) b pos) (.idxO i ib) := by
  refine ⟨fun pins s σ H Q I ⟨env, M, d, env', sr, ev, k⟩ => ?_⟩
  simp only [evE] at ev
  split at ev
  · rename_i o0 h0
    obtain ⟨a, hs, _, _⟩ := sr.own i o0 (pk_own h0)
    obtain ⟨x, e1, h1, ev⟩ := bnd_inv ev
    split at ev
    · rename_i o h
      obtain ⟨h3, rfl⟩ := lft_inv ev
      have ho := pk_own h
      refine Subscript_ (binT (pe_var (pos := p2) hN hv hd hcd) hb I (R := fun v u H2 => v = .ref a ∧ ∃ M2, SR X.w X.K e1 M2 σ H2 ∧ Evo (OwA env σ) H M (OwA e1 σ) H2 M2 ∧ Rp X.w X.K H2 M2 x u) ⟨_, hs, step1 sr h1 fun v H1 M1 sr1 ev1 r1 => ⟨rfl, M1, sr1, ev1, r1⟩⟩ fun v u s2 xv yv H2 I2 rx ry ⟨ex, M2, sr2, ev2, r2⟩ => ?_)
      subst ex
      obtain ⟨ma, ow⟩ := own_at sr2 ho hs
      cases ow with
      | lst g r =>
        cases r2 with
        | int j =>
          obtain ⟨z, g1, g2⟩ := r.atI (show ((L2.ixN _ j).bind _) = some d from h3)
          exact ix_list _ b pins s2 σ H2 _ _ v u Q I2 rx ry ⟨_, _, j, z, rfl, rfl, SqL.of g, g1, k z H2 M2 sr2 ev2 g2⟩ (hp _ _)
        | _ => cases h3
      | dct g r nd =>
        obtain ⟨hc, hl⟩ := gd_some (show gd _ (dLook _ _) = some d from h3)
        cases rx
        obtain ⟨_, _, o', _, _, ho', hcl, _⟩ := rawAt I2 (.inl g)
        exact tail_any ⟨o', ho', hcl.1⟩ F.slot_dict_getitem.lookup (dGet hu I2 (.inl g) r nd hc r2 ry hl fun z rz => k z H2 M2 sr2 ev2 rz) (hp _ _)
    · cases ev
  · cases ev
theorem es_inO (hu : X.A.units + 70 < cLine) {i : Nat} {y : Str} {p2 : Pos} {neg : Bool} (hN : X.N[i]? = some y) (hv : Vis X.env.scope y) (hd : (y == ("__debug__" : Str)) = false) (hcd : (y == ("__classdict__" : Str)) = false) (ha : ES X cf cd a ia) :
    ES X cf cd (.Compare a [if neg then .NotIn else .In] [.Name y p2] pos) (.inO ia i neg) := by
  refine ⟨fun pins s σ H Q I ⟨env, M, d, env', sr, ev, k⟩ => ?_⟩
  obtain ⟨x, e1, h1, ev⟩ := bnd_inv ev
  split at ev
  · rename_i o h
    split at ev
    · rename_i c hc
      cases ev
      have ho := pk_own h
      have hm : behindInMarks (if neg then CmpOp.NotIn else .In) (.Name y p2) = false := by cases neg <;> rfl
      refine wpAny_Compare1 (thn (ha.run pins s σ H _ I (step1 sr h1 (R := fun v H1 => ∃ M1, SR X.w X.K env' M1 σ H1 ∧ Evo (OwA env σ) H M (OwA env' σ) H1 M1 ∧ Rp X.w X.K H1 M1 x v) fun v H1 M1 sr1 ev1 r1 => ⟨M1, sr1, ev1, r1⟩)) fun u s1 ⟨v, H1, I1, rv, M1, sr1, ev1, r1⟩ => ?_) hm
      obtain ⟨a', hs, ma, ow⟩ := sr1.own i o ho
      refine thn ((pe_var (pos := p2) hN hv hd hcd).run pins s1 σ H1 (fun v2 H2 => v2 = .ref a' ∧ H2 = H1) I1 ⟨_, hs, rfl, rfl⟩) fun u2 s2 ⟨v2, H2, I2, rv2, e2, eH⟩ => ?_
      subst e2 eH
      cases ow with
      | lst g r =>
        obtain ⟨hb, rfl⟩ := gd_of (show gd _ (some _) = some c from hc)
        rw [Bool.and_eq_true] at hb
        obtain ⟨as, q1⟩ := Dp.reads I2 _ _ _ (r1.dp (okD_lay hb.1)) rv
        obtain ⟨bs, q2⟩ := Dp.reads I2 _ (.ref a') _ (.lst (SqL.of g) (r.dpN (show ndL _ = true from nd_lay (okD_lay hb.2)))) rv2
        cases neg
        · exact SeqAt.in_list_reads q2 q1 (SeqAt.canLay_of_shaped hb.2) (SeqAt.canLay_of_shaped hb.1) (room_in_shaped hb.1 (by omega)) ⟨.bl _, H2, I2, rfl, by simpa using k _ H2 M1 sr1 ev1 (.bl _)⟩
        · exact SeqAt.notIn_list_reads q2 q1 (SeqAt.canLay_of_shaped hb.2) (SeqAt.canLay_of_shaped hb.1) (room_in_shaped hb.1 (by omega)) ⟨.bl _, H2, I2, rfl, by simpa using k _ H2 M1 sr1 ev1 (.bl _)⟩
      | dct g r nd =>
        obtain ⟨hb, rfl⟩ := gd_of (show gd _ (some _) = some c from hc)
        cases rv2
        cases neg
        · exact dIn (by omega) I2 (.inl g) r nd hb r1 rv (by simpa using k _ H2 M1 sr1 ev1 (.bl _))
        · exact dNin (by omega) I2 (.inl g) r nd hb r1 rv (by simpa using k _ H2 M1 sr1 ev1 (.bl _))
    · cases ev
  · cases ev
theorem es_nilO (hu : X.A.units + 70 < cLine) {i : Nat} {y : Str} {p2 p3 : Pos} {neg : Bool} (hN : X.N[i]? = some y) (hv : Vis X.env.scope y) (hd : (y == ("__debug__" : Str)) = false) (hcd : (y == ("__classdict__" : Str)) = false) :
    ES X cf cd (.Compare (.Name y p2) [if neg then .NotEq else .Eq] [.List [] p3] pos) (.nilO i neg) := by
  refine ⟨fun pins s σ H Q I ⟨env, M, d, env', sr, ev, k⟩ => ?_⟩
  simp only [evE] at ev
  split at ev
  · rename_i xs h
    obtain ⟨hz, ev⟩ := gd_of ev
    cases ev
    obtain ⟨a, hs, ma, ow⟩ := sr.own i _ (pk_own h)
    cases ow with
    | lst g r =>
      have dp : ∀ {H' : Hp}, Same H H' → Dp X.K H' (.ref a) (.list xs) := fun sm => .lst (SqL.of (sm _ _ g)) ((r.same sm).dpN (show ndL _ = true from nd_lay (okD_lay hz)))
      have e0 : okD (.list []) = true := by decide +kernel
      have eq0 : PyData.eqv (.list xs) (.list []) = xs.isEmpty := by cases xs <;> simp [PyData.eqv, PyData.eqvAll]
      have lst0 : PE X (.List [] p3) (tLst tNil) := pe_lst pa_nil
      cases neg
      · refine (pe_cmpR (op_eqD (by omega)) (pe_var hN hv hd hcd) lst0 (nomark _)).run pins s σ H Q I ⟨_, hs, Nat.zero_le _, fun p hp => ⟨.list xs, .list [], dp (same_upd hp), .lst (SqL.of upd_same) .nil, hz, e0, ?_⟩⟩
        rw [eq0]
        simpa using k _ _ M (sr.same (same_upd hp)) (Evo.same (same_upd hp)) (.bl _)
      · refine (pe_cmpR (op_neD (by omega)) (pe_var hN hv hd hcd) lst0 (nomark _)).run pins s σ H Q I ⟨_, hs, Nat.zero_le _, fun p hp => ⟨.list xs, .list [], dp (same_upd hp), .lst (SqL.of upd_same) .nil, hz, e0, ?_⟩⟩
        rw [eq0]
        simpa using k _ _ M (sr.same (same_upd hp)) (Evo.same (same_upd hp)) (.bl _)
  · cases ev

/-! ### methods that read -/
def notCall0 : Expr → Bool
  | .Call (.Name _ _) [] [] _ => false
  | _ => true
theorem base_plain {o : Expr} {name : Str} {env : Env} (h : notCall0 o = true) : attributeBase o name env (eval o env) = eval o env := by
  unfold attributeBase
  split
  · cases h
  · rfl
theorem es_get (hu : X.A.units + 16 < cLine) {apos : Pos} {m : Str} (hm : m = "get") (ha : ES X cf cd a ia) (hb : ES X cf cd b ib) (h0 : notCall0 a = true) (hl : (apos.endLine == pos.line) = true)
    (hs : starEach [b] X.env = (false, eval b X.env) :: starEach [] X.env) : ES X cf cd (.Call (.Attribute a m apos) [b] [] pos) (.get ia ib) := by
  subst hm
  refine ⟨fun pins s σ H Q I ⟨env, M, d, env', sr, ev, k⟩ => ?_⟩
  obtain ⟨x, e1, h1, ev⟩ := bnd_inv ev
  obtain ⟨y, e2, h2, ev⟩ := bnd_inv ev
  obtain ⟨h3, rfl⟩ := lft_inv ev
  refine wpAny_Call_method (base_plain h0) (by rw [hs]; rfl) hl PySem.F.plainAttrs_dict PySem.F.slot_dict_get PySem.F.type_dict_get (thn (ha.run pins s σ H _ I (step1 sr h1 (R := fun v H1 => ∃ M1, SR X.w X.K e1 M1 σ H1 ∧ Evo (OwA env σ) H M (OwA e1 σ) H1 M1 ∧ Rp X.w X.K H1 M1 x v) fun v H1 M1 sr1 ev1 r1 => ⟨M1, sr1, ev1, r1⟩)) fun u s1 ⟨v, H1, I1, rv, M1, sr1, ev1, r1⟩ => ?_)
  cases r1 with
  | dct g gm r nd =>
    rename_i aa o xs kvs
    obtain ⟨hc, hd⟩ := gd_of (show gd _ (some _) = some d from h3)
    subst hd
    cases rv
    obtain ⟨_, _, o', _, _, ho', hcl, _⟩ := rawAt I1 (.inr ⟨_, g⟩)
    refine ⟨⟨o', ho', hcl.1⟩, fun b' q => by cases q; exact ⟨o', ho', hcl.2.1⟩, ?_⟩
    rw [hs]
    refine Calls.callWith_builtin rfl (Calls.evalArgs_plain (Calls.spliced_cons (thn (hb.run pins s1 σ H1 _ I1 (step1 sr1 h2 (R := fun v H2 => ∃ M2, SR X.w X.K e2 M2 σ H2 ∧ Evo (OwA e1 σ) H1 M1 (OwA e2 σ) H2 M2 ∧ Rp X.w X.K H2 M2 y v) fun v H2 M2 sr2 ev2 r2 => ⟨M2, sr2, ev2, r2⟩)) fun uk s2 ⟨vk, H2, I2, rk, M2, sr2, ev2, r2⟩ => Calls.spliced_nil ?_)))
    have rd := Rp.evo ev2 sr1.sok (Rp.dct g gm r nd)
    cases rd with
    | dct g2 gm2 r2' nd2 => exact dGetN hu I2 (.inr ⟨_, g2⟩) r2' nd2 hc r2 rk fun z rz => k z H2 M2 sr2 (ev1.trans ev2) rz
  | _ => cases h3

/-! ### calls of the program's own functions -/
/-- what a function promises: the evaluator's value of it -/
def spF (w : World) (K : PySem.W.Frag) (cf : CF) (f : Nat) (bor : Bool) : Sp := fun vs H Q _ => ∃ M ds d, MT M H ∧ match bor with
  | false => RpL w K H M ds vs ∧ cf f ds = some (d, none) ∧ ∀ v H', Same H H' → Rp w K H' M d v → Q v H'
  | true => ∃ a b b' ds' vs', ds = b :: ds' ∧ vs = .ref a :: vs' ∧ M a ∧ Ow w K H M b a ∧ RpL w K H M ds' vs' ∧ cf f ds = some (d, some b') ∧
      ∀ v H', (∀ x o, H x = some o → x ≠ a → H' x = some o) → Ow w K H' M b' a → Rp w K H' M d v → Q v H'
/-- a function of the program, ready to be called -/
structure Fr_ (X : Cx) (cf : CF) (f : Nat) (x : Str) (bor : Bool) : Prop where
  ex : ∃ (k : Nat) (fa : Addr) (fd : FuncData) (ps : List Str), FnOk X.prog X.w X.K X.mg X.base CX0 k fa fd ps (spF X.w X.K cf f bor) ∧ Room k X.A ∧ X.mg x = some (.ref fa) ∧ PySem.W.keepIn X.K (.ref fa) = true ∧ Binds X.K fd ps []
variable {es : List Expr} {is : List E}
theorem es_call0 {f : Nat} {x : Str} {p : Pos} (F : Fr_ X cf f x false) (hg : Gl X x) (hd : (x == ("__debug__" : Str)) = false) : ES X cf cd (.Call (.Name x p) [] [] pos) (.call f []) := by
  obtain ⟨n, fa, fd, ps, G, hr, hm, kp, hb⟩ := F.ex
  refine PE.imp (pe_call0 G hr hg hm kp hb .nil pass0 hd) fun σ H Q ⟨env, M, d, env', sr, ev, k⟩ => ?_
  obtain ⟨ds, e1, h1, ev⟩ := bnd_inv ev
  cases h1
  split at ev
  · rename_i d' h
    cases ev
    exact ⟨M, [], d, sr.mt, .nil, h, fun v H' sm r => k v H' M (sr.same sm) (Evo.same sm) r⟩
  · cases ev
theorem es_call {f : Nat} {x : Str} {p : Pos} (F : Fr_ X cf f x false) (hg : Gl X x) (hd : (x == ("__debug__" : Str)) = false) (ha : EsS X cf cd (a :: es) is) (he : starEach (a :: es) X.env = (false, eval a X.env) :: starEach es X.env) (hpl : (backTo pos (starEach es X.env)).any (·.1) = false) :
    ES X cf cd (.Call (.Name x p) (a :: es) [] pos) (.call f is) := by
  obtain ⟨n, fa, fd, ps, G, hr, hm, kp, hb⟩ := F.ex
  refine PE.imp (pe_call G hr hg hm kp hb .nil pass0 ha hd he hpl) fun σ H Q ⟨env, M, d, env', sr, ev, k⟩ => ?_
  obtain ⟨ds, e1, h1, ev⟩ := bnd_inv ev
  split at ev
  · rename_i d' h
    cases ev
    refine ⟨env, M, ds, env', sr, h1, fun vs H1 M1 sr1 ev1 r1 => ?_⟩
    show spF X.w X.K cf f false (vs ++ []) H1 Q E0
    rw [List.append_nil]
    exact ⟨M1, ds, d, sr1.mt, r1, h, fun v H' sm r => k v H' M1 (sr1.same sm) (ev1.trans (Evo.same sm)) r⟩
  · cases ev
/-- an object of the frame's own, changed in place -/
theorem set_sr {w : World} {K : PySem.W.Frag} {env : Ev} {M : Addr → Prop} {σ : L2.St} {H H' : Hp} {i : Nat} {d d' : D} {a : Addr} (sr : SR w K env M σ H) (e : env[i]? = some (.own d)) (es : σ[i]? = some (some (.ref a)))
    (k : ∀ b o, H b = some o → b ≠ a → H' b = some o) (ow : Ow w K H' M d' a) : SR w K (env.set i (.own d')) M σ H' ∧ Evo (OwA env σ) H M (OwA (env.set i (.own d')) σ) H' M := by
  have hi : i < env.length := (List.getElem?_eq_some_iff.mp e).1
  have ev0 : Evo (OwA env σ) H M (OwA env σ) H' M := by
    refine ⟨fun b o h n => k b o h fun z => n ⟨i, d, e, z ▸ es⟩, fun _ _ m _ => m, fun _ _ m => m, fun _ z => .inl z, fun b h => ?_⟩
    by_cases z : b = a
    · subst z
      obtain ⟨o, h, _⟩ := ow.isOw
      exact some_ne h
    · cases q : H b with
      | none => exact absurd q h
      | some o => exact some_ne (k b o q z)
  have own : ∀ b, OwA (env.set i (.own d')) σ b → OwA env σ b := fun b ⟨j, x, h1, h2⟩ => by
    rcases set_get h1 with ⟨rfl, _, _⟩ | ⟨_, h1⟩
    · exact ⟨j, d, e, h2⟩
    · exact ⟨j, x, h1, h2⟩
  refine ⟨⟨by rw [List.length_set]; exact sr.len, fun j x h => ?_, fun j x h => ?_, fun j l x y b h1 h2 h3 h4 => ?_, fun b m => ev0.al b (sr.mt b m)⟩, ⟨ev0.keep, ev0.mk', ev0.mo, fun b h => .inl (own b h), ev0.al⟩⟩
  · rcases set_get h with ⟨_, z, _⟩ | ⟨_, h⟩
    · cases z
    · obtain ⟨v, h1, h2⟩ := sr.val j x h
      exact ⟨v, h1, h2.evo ev0 sr.sok⟩
  · rcases set_get h with ⟨rfl, z, _⟩ | ⟨n, h⟩
    · cases z
      exact ⟨a, es, (own_at sr e es).1, ow⟩
    · obtain ⟨b, h1, h2, h3⟩ := sr.own j x h
      have nb : b ≠ a := fun z => n (sr.sep j i x d a h e (z ▸ h1) es)
      refine ⟨b, h1, h2, ?_⟩
      cases h3 with
      | lst g r => exact .lst (k _ _ g nb) (r.evo ev0 sr.sok)
      | dct g r nd => exact .dct (k _ _ g nb) (r.evo ev0 sr.sok) nd
  · have f : ∀ {m z}, (env.set i (.own d'))[m]? = some (Sl.own z) → ∃ z', env[m]? = some (Sl.own z') := fun {m z} h => by
      rcases set_get h with ⟨rfl, _, _⟩ | ⟨_, h⟩
      · exact ⟨d, e⟩
      · exact ⟨z, h⟩
    obtain ⟨x', h1⟩ := f h1
    obtain ⟨y', h2⟩ := f h2
    exact sr.sep j l x' y' b h1 h2 h3 h4
theorem es_callB {f i : Nat} {x y : Str} {p p2 : Pos} (F : Fr_ X cf f x true) (hg : Gl X x) (hdx : (x == ("__debug__" : Str)) = false) (hN : X.N[i]? = some y) (hv : Vis X.env.scope y) (hd : (y == ("__debug__" : Str)) = false) (hcd : (y == ("__classdict__" : Str)) = false)
    (ha : EsS X cf cd es is) (hpl : (backTo pos (starEach es X.env)).any (·.1) = false) :
    ES X cf cd (.Call (.Name x p) (.Name y p2 :: es) [] pos) (.callB f i is) := by
  obtain ⟨n, fa, fd, ps, G, hr, hm, kp, hb⟩ := F.ex
  refine PE.imp (pe_call G hr hg hm kp hb .nil pass0 (pa_cons (pe_var hN hv hd hcd) ha rfl) hdx rfl hpl) fun σ H Q ⟨env, M, d, env', sr, ev, k⟩ => ?_
  simp only [evE] at ev
  split at ev
  · rename_i o0 h0
    have h0 := getD_get h0 (by simp)
    obtain ⟨a, hs, _, _⟩ := sr.own i o0 h0
    obtain ⟨ds, e1, h1, ev⟩ := bnd_inv ev
    split at ev
    · rename_i o h
      have h := getD_get h (by simp)
      split at ev
      · rename_i d1 b' hc
        cases ev
        refine ⟨_, hs, env, M, ds, e1, sr, h1, fun vs H1 M1 sr1 ev1 r1 => ?_⟩
        obtain ⟨ma, ow⟩ := own_at sr1 h hs
        show spF X.w X.K cf f true ((V.ref a :: vs) ++ []) H1 Q E0
        rw [List.append_nil]
        refine ⟨M1, o :: ds, d, sr1.mt, a, o, b', ds, vs, rfl, rfl, ma, ow, r1, hc, fun v H' kk ow' r => ?_⟩
        obtain ⟨s2, e2⟩ := set_sr sr1 h hs kk ow'
        exact k v H' M1 s2 (ev1.trans e2) r
      · cases ev
    · cases ev
  · cases ev
end
end Mi
end
section
set_option Elab.async false
set_option linter.all false
set_option maxRecDepth 100000
set_option maxHeartbeats 1000000
/-! S5a: iterators of the hand layer that were lacking: a raw dict's keys, values, pairs; enumerate of a tuple. -/
namespace Mi
open PySem PySem.Spec PyProof.Rows L2

/-- a locked raw dict, as it stands -/
theorem frzAt {X : Cx} {pins : List (Addr × Obj)} {σ : L2.St} {H : Hp} {s : Shared} {d : Addr} {o : Obj} {xs : Rw} (I : Inv X pins σ H s) (h : H d = some (.frz o (dO d xs))) :
    (d == sysModules) = false ∧ s.heap.get? d = some o ∧ o.ExactDict ∧ ∃ es ep, o.data = .dict es ep ∧ es.size = xs.length ∧ Paired RowOk xs es.toList := by
  obtain ⟨ho, q⟩ := I.hok d _ h
  obtain ⟨z, l, o', es, ep, ho', hc, hd, p⟩ := q.1
  rw [ho] at ho'
  cases ho'
  refine ⟨z, ho, hc, es, ep, hd, ?_, p⟩
  have l1 : es.toList.length = es.size := Array.length_toList
  have l2 : xs.length = es.toList.length := Paired.length p
  omega
theorem row_at {xs : Rw} {es : Array DictEntry} (p : Paired RowOk xs es.toList) {i : Nat} {x : V × V × Int} (h : xs[i]? = some x) : ∃ (hi : i < es.size), RowOk x es[i] := by
  obtain ⟨e, h1, h2⟩ := paired_get p h
  rw [Array.getElem?_toList] at h1
  obtain ⟨hi, e1⟩ := Array.getElem?_eq_some_iff.mp h1
  exact ⟨hi, e1 ▸ h2⟩
/-- a locked dict's rows, each told by f -/
def Jd (d : Addr) (o : Obj) (xs : Rw) (f : V × V × Int → V) : L2.It where
  go := fun i H => H d = some (.frz o (dO d xs)) ∧ i < xs.length
  yld := fun i H x H' => H' = H ∧ ∃ r, xs[i]? = some r ∧ x = f r
  stop := fun i H => H d = some (.frz o (dO d xs)) ∧ xs.length ≤ i
def Jp (d : Addr) (o : Obj) (xs : Rw) : L2.It where
  go := fun i H => H d = some (.frz o (dO d xs)) ∧ i < xs.length
  yld := fun i H x H' => ∃ T r, xs[i]? = some r ∧ x = .ref T ∧ H T = none ∧ H' = upd H T (.tup [r.1, r.2.1])
  stop := fun i H => H d = some (.frz o (dO d xs)) ∧ xs.length ≤ i
section
variable {P : Program} {w : World} {K : PySem.W.Frag} {tg : Expr} {d : Addr} {o : Obj} {es : Array DictEntry} {ep : Nat} {xs : Rw}
theorem one_fp {it : Addr} {h : Heap} {o : Obj} {n : String} {vs : Array Value} (e : h.get? it = some o) (hd : o.data = .fields vs) : ∀ b ∈ [it], ∃ o, h.get? b = some o ∧ ∀ v, o.data ≠ .cell v := fun b hb => by
  have z : b = it := by simpa using hb
  exact ⟨o, z ▸ e, fun v q => by rw [hd] at q; cases q⟩
theorem turnK (it : Addr) (hod : o.data = .dict es ep) : Turn P w K tg (Jd d o xs (·.1)) [it] it (fun i h => h.IsKeyIter it d i es.size ep) := by
  refine ⟨by simp, fun i h st => ?_, fun i h h' st k => st.at fun oi e => k it (by simp) oi e, ?_, ?_, fun A i s Q E st h => wpAny_pyIter_keyiter st h⟩
  · obtain ⟨oi, e, c, dd⟩ := st
    exact one_fp (n := "") e dd
  · intro X hP hw hK hc i pins s σ H E I hf st ⟨hd, hi⟩
    subst hP; subst hw; subst hK
    obtain ⟨f0, f1, f2, f3, f4, f5⟩ := hf it (by simp)
    obtain ⟨z, ho, hx, es', ep', hdt, hsz, p⟩ := frzAt I hd
    obtain ⟨rfl, rfl⟩ := dict_ep hod hdt
    obtain ⟨hi', r⟩ := row_at p (List.getElem?_eq_getElem hi)
    refine wpAny_pyNext_keys_item_raw st ⟨o, ho, hx, hdt⟩ hi' fun h' st' sb => ?_
    have I1 := I.turned (t' := s.toks) (h' := h') (fun b ob hb e => (sb.2 b hb).trans e) f0 f1 f3 f4 f5
    obtain ⟨oi, e, c, dd⟩ := id st'
    exact ⟨_, rfl, go_of (s := { s with heap := h' }) e c dd (by decide) ⟨_, H, I1, r.1, ⟨rfl, _, List.getElem?_eq_getElem hi, rfl⟩, st', fun b hb => (hf b hb).1⟩⟩
  · intro X hP hw hK hc i pins s σ H E I hf st ⟨hd, hi⟩
    subst hP; subst hw; subst hK
    obtain ⟨f0, f1, f2, f3, f4, f5⟩ := hf it (by simp)
    obtain ⟨z, ho, hx, es', ep', hdt, hsz, p⟩ := frzAt I hd
    obtain ⟨rfl, rfl⟩ := dict_ep hod hdt
    exact wpAny_pyNext_keys_end_raw (I.ok.hd hc) st ⟨o, ho, hx, hdt⟩ (by omega) fun h' eb => ⟨rfl, I.turned (t' := s.toks) (fun b ob hb e => eb b ob hb e) f0 f1 f3 f4 f5⟩
theorem turnV (it : Addr) (hod : o.data = .dict es ep) : Turn P w K tg (Jd d o xs (·.2.1)) [it] it (fun i h => h.IsValIter it d i es.size ep) := by
  refine ⟨by simp, fun i h st => ?_, fun i h h' st k => st.at fun oi e => k it (by simp) oi e, ?_, ?_, fun A i s Q E st h => wpAny_pyIter_valiter st h⟩
  · obtain ⟨oi, e, c, dd⟩ := st
    exact one_fp (n := "") e dd
  · intro X hP hw hK hc i pins s σ H E I hf st ⟨hd, hi⟩
    subst hP; subst hw; subst hK
    obtain ⟨f0, f1, f2, f3, f4, f5⟩ := hf it (by simp)
    obtain ⟨z, ho, hx, es', ep', hdt, hsz, p⟩ := frzAt I hd
    obtain ⟨rfl, rfl⟩ := dict_ep hod hdt
    obtain ⟨hi', r⟩ := row_at p (List.getElem?_eq_getElem hi)
    refine wpAny_pyNext_values_item_raw st ⟨o, ho, hx, hdt⟩ hi' fun h' st' sb => ?_
    have I1 := I.turned (t' := s.toks) (h' := h') (fun b ob hb e => (sb.2 b hb).trans e) f0 f1 f3 f4 f5
    obtain ⟨oi, e, c, dd⟩ := id st'
    exact ⟨_, rfl, go_of (s := { s with heap := h' }) e c dd (by decide) ⟨_, H, I1, r.2.1, ⟨rfl, _, List.getElem?_eq_getElem hi, rfl⟩, st', fun b hb => (hf b hb).1⟩⟩
  · intro X hP hw hK hc i pins s σ H E I hf st ⟨hd, hi⟩
    subst hP; subst hw; subst hK
    obtain ⟨f0, f1, f2, f3, f4, f5⟩ := hf it (by simp)
    obtain ⟨z, ho, hx, es', ep', hdt, hsz, p⟩ := frzAt I hd
    obtain ⟨rfl, rfl⟩ := dict_ep hod hdt
    exact wpAny_pyNext_values_end_raw (I.ok.hd hc) st ⟨o, ho, hx, hdt⟩ (by omega) fun h' eb => ⟨rfl, I.turned (t' := s.toks) (fun b ob hb e => eb b ob hb e) f0 f1 f3 f4 f5⟩
/-- a new pair laid by an iterator's turn -/
theorem new_pair {P : Program} {w : World} {H : Hp} {h : Heap} {T : Addr} {x y : V} {u v : Value} (rx : RelV x u) (ry : RelV y v) (e : h.get? T = some { cls := .type "tuple", data := .seq #[u, v] }) : ObjOk P w (upd H T (.tup [x, y])) h T (.tup [x, y]) :=
  ⟨by show 2 ≤ sizeLine; decide, [u, v], .cons rx (.cons ry .nil), ⟨_, e, rfl, _, rfl⟩⟩
theorem turnP {elts : List Expr} {kk : Nat} {tpos : Pos} (it : Addr) (hod : o.data = .dict es ep) : Turn P w K (.Tuple elts kk tpos) (Jp d o xs) [it] it (fun i h => ∃ ok ov, IsItemIter h it d i es.size ep ok ov) := by
  refine ⟨by simp, fun i h st => ?_, fun i h h' st k => ?_, ?_, ?_, fun A i s Q E st h => ?_⟩
  · obtain ⟨ok, ov, e⟩ := st
    exact one_fp (n := "") e rfl
  · obtain ⟨ok, ov, e⟩ := st
    exact ⟨ok, ov, k it (by simp) _ e⟩
  · intro X hP hw hK hc i pins s σ H E I hf st ⟨hd, hi⟩
    subst hP; subst hw; subst hK
    obtain ⟨ok, ov, he⟩ := st
    obtain ⟨z, ho, hx, es', ep', hdt, hsz, p⟩ := frzAt I hd
    obtain ⟨rfl, rfl⟩ := dict_ep hod hdt
    obtain ⟨hi', r⟩ := row_at p (List.getElem?_eq_getElem hi)
    have hlt : it < s.heap.objs.size := Heap.lt_size he
    refine wpAny_pyNext_items_item_raw he ⟨o, ho, hx, hdt⟩ hi' fun h1 hout hT hz hk => ⟨_, rfl, wpAny_letOwnedTupleGo_items (s := { s with heap := h1 }) hout fun h2 he2 sb => ?_⟩
    have new := new_pair (P := X.prog) (w := X.w) (H := H) r.1 r.2.1 ((sb.2 _ (Nat.ne_of_gt hlt)).trans hT)
    have I1 := I.turnedNew (t' := s.toks) (ch := [it]) (fun b ob hb e => (sb.2 b (by simpa using hb)).trans (hk b ob (by simpa using hb) e)) hf (Nat.le_refl _) new
    refine ⟨.ref s.heap.objs.size, _, I1, rfl, ⟨_, _, List.getElem?_eq_getElem hi, rfl, I.hok.fresh (Nat.le_refl _), rfl⟩, ⟨_, _, he2⟩, fun b hb => ?_⟩
    have e : b = it := by simpa using hb
    rw [e, upd_ne (Nat.ne_of_lt hlt)]
    exact (hf it (by simp)).1
  · intro X hP hw hK hc i pins s σ H E I hf st ⟨hd, hi⟩
    subst hP; subst hw; subst hK
    obtain ⟨f0, f1, f2, f3, f4, f5⟩ := hf it (by simp)
    obtain ⟨ok, ov, he⟩ := st
    obtain ⟨z, ho, hx, es', ep', hdt, hsz, p⟩ := frzAt I hd
    obtain ⟨rfl, rfl⟩ := dict_ep hod hdt
    exact wpAny_pyNext_items_end_raw (I.ok.hd hc) he ⟨o, ho, hx, hdt⟩ (by omega) fun h' eb => ⟨rfl, I.turned (t' := s.toks) (fun b ob hb e => eb b ob hb e) f0 f1 f3 f4 f5⟩
  · obtain ⟨_, _, e⟩ := st
    exact PySem.W.kcp_self e h
end

/-! ### enumerate of a tuple -/
set_option maxHeartbeats 4000000 in
theorem meetsE {v : Value} {o : Obj} {H : Heap → Prop} (B : Begins v o H) :
    Meets (Builtin.«enumerate.__new__» ⟨[.type "enumerate", v], []⟩) (fun _ R s => H s.heap ∧
      R (.ok (.ret (.ref (s.heap.push o).objs.size))) { s with heap := (s.heap.push o).push { cls := .type "enumerate", data := .fields #[.none, .bool false, .ref s.heap.objs.size, rawInt 0, .none, .none] } }) :=
  .of_wp fun prog w A R s h => by
    obtain ⟨hp, g, d, tk, os⟩ := s
    obtain ⟨h1, h⟩ := h
    have hsub := sub_enumerate
    have q1 : ∀ {A' : Around} {E : Value → Shared → Prop} {Q : Value → Shared → Prop}, Q (.ref hp.objs.size) ⟨hp.push o, g, d, tk, os⟩ → wpAny (model prog w) A' (pyIter v) Q E ⟨hp, g, d, tk, os⟩ := fun q => B.iter prog w _ _ ⟨hp, g, d, tk, os⟩ _ h1 q
    wp_walk using q1
    refine wpAny_stack_any fun st => wpAny_pure ?_
    split
    · rename_i c _ _ _ _ _
      cases (c == Value.type "enumerate") <;> (wp_walk using q1; exact ⟨_, rfl, h⟩)
    · wp_walk using q1
      exact ⟨_, rfl, h⟩
theorem callE {prog : Program} {w : World} {A : Around} {E : Value → Shared → Prop} {s : Shared} {v : Value} {o : Obj} {H : Heap → Prop} {Q : Value → Shared → Prop} (B : Begins v o H) (h1 : H s.heap)
    (h : ∀ h', IsEnum h' (s.heap.objs.size + 1) s.heap.objs.size 0 .none → h'.get? s.heap.objs.size = some o → (∀ b o, s.heap.get? b = some o → h'.get? b = some o) → Q (.ref (s.heap.objs.size + 1)) { s with heap := h' }) :
    wpAny (model prog w) A (call (.type "enumerate") [v]) Q E s := by
  refine callType_new F.called_enumerate (by decide) (F.typeCall_enumerate_1 _) (F.newCall_enumerate_1 _) (fun obj => F.args_object_init_2 obj _) F.entry_enumerate_new (meetsE B) ⟨h1, ?_⟩
  have hz : (s.heap.push o).objs.size = s.heap.objs.size + 1 := Heap.size_push ..
  have he := Heap.get?_push_size (s.heap.push o) (o := { cls := .type "enumerate", data := .fields #[.none, .bool false, .ref s.heap.objs.size, rawInt 0, .none, .none] }) rfl
  show _ ∧ _
  rw [hz] at he ⊢
  exact ⟨⟨_, he, rfl⟩, h _ he (Heap.get?_push_of_some _ (Heap.get?_push_size _ B.free)) fun b o x => Heap.get?_push_of_some _ (Heap.get?_push_of_some _ x)⟩
def Jet (K : PySem.W.Frag) (a : Addr) : L2.It where
  go := fun i H => ∃ (xs : List V) (x : V), SqT K H a xs ∧ xs[i]? = some x
  yld := fun i H v H' => ∃ T x, v = .ref T ∧ H T = none ∧ H' = upd H T (.tup [.int (i : Nat), x]) ∧ ∀ xs, SqT K H a xs → xs[i]? = some x
  stop := fun i H => ∃ xs : List V, SqT K H a xs ∧ xs.length = i
theorem turnE {P : Program} {w : World} {K : PySem.W.Frag} {elts : List Expr} {kk : Nat} {tpos : Pos} (a e it : Addr) (h1 : e ≠ it) (h2 : e ≠ a) (h3 : a ≠ it) :
    Turn P w K (.Tuple elts kk tpos) (Jet K a) [e, it] e (fun i h => (∃ old, IsEnum h e it ((i : Nat) : Int) old) ∧ h.IsTupleIter it a i) := by
  have mem2 : ∀ {b : Addr}, b ∈ [e, it] → b = e ∨ b = it := fun hb => by simpa using hb
  refine ⟨by simp, fun i h st b hb => ?_, fun i h h' st k => ?_, ?_, ?_, fun A i s Q E st h => ?_⟩
  · obtain ⟨⟨old, he⟩, o, ho, hc, hd⟩ := st
    rcases mem2 hb with z | z
    · exact ⟨_, z ▸ he, fun v q => by cases q⟩
    · exact ⟨o, z ▸ ho, fun v q => by rw [hd] at q; cases q⟩
  · obtain ⟨⟨old, he⟩, hi⟩ := st
    exact ⟨⟨old, k e (by simp) _ he⟩, hi.at fun o q => k it (by simp) o q⟩
  · intro X hP hw hK hc i pins s σ H E I hf st ⟨xs, x, hq, hx⟩
    subst hP; subst hw; subst hK
    obtain ⟨⟨old, he⟩, hit⟩ := st
    obtain ⟨its, rv, p, hz⟩ := I.tuple hq
    obtain ⟨u, hu, ru⟩ := rv.get hx
    have hel : e < s.heap.objs.size := Heap.lt_size he
    have hil : it < s.heap.objs.size := by obtain ⟨_, q, _⟩ := hit; exact Heap.lt_size q
    have hid : X.A.in1.handled = none := by
      show X.A.handled = none
      exact I.ok.hd hc
    have hlt : i < its.toArray.size := by
      have := (List.getElem?_eq_some_iff.mp hu).1
      simpa using this
    refine wpAny_pyNext_enum_itemD (Draws.tuple hid it a h3 its.toArray) he ⟨hit, p⟩ hlt h1 (by simp [h1, h2]) fun y h' tk hy ho ⟨hit', _⟩ hT hsz hk => ?_
    have ey : y = u := by
      rw [List.getElem?_toArray, hu] at hy
      exact (Option.some.inj hy).symm
    subst ey
    refine ⟨_, rfl, wpAny_letOwnedTupleGo_enum (s := { s with heap := h', toks := tk + 1 }) ho fun h'' he' sb => ?_⟩
    have new := new_pair (P := X.prog) (w := X.w) (H := H) (x := .int (i : Nat)) (y := x) ⟨_, rfl⟩ ru ((sb.2 _ (Nat.ne_of_gt hel)).trans hT)
    have I1 := I.turnedNew (t' := tk + 1) (ch := [e, it]) (fun b ob hb q => (sb.2 b (fun z => hb (by simp [z]))).trans (hk b ob (fun z => hb (by simp [z])) (fun z => hb (by simp [z])) q)) hf (Nat.le_refl _) new
    refine ⟨.ref s.heap.objs.size, _, I1, rfl, ⟨_, x, rfl, I.hok.fresh (Nat.le_refl _), rfl, fun ys hy => by rw [I.tuple_inj hy hq]; exact hx⟩, ⟨⟨y, ?_⟩, hit'.at fun o q => (sb.2 it (Ne.symm h1)).trans q⟩, fun b hb => ?_⟩
    · have e1 : ((i + 1 : Nat) : Int) = (i : Int) + 1 := by omega
      rw [e1]
      exact he'
    · have hb' : b < s.heap.objs.size := by
        rcases mem2 hb with z | z <;> (rw [z]; assumption)
      rw [upd_ne (Nat.ne_of_lt hb')]
      exact (hf b hb).1
  · intro X hP hw hK hc i pins s σ H E I hf st ⟨xs, hq, hx⟩
    subst hP; subst hw; subst hK
    obtain ⟨⟨old, he⟩, hit⟩ := st
    obtain ⟨its, rv, p, hz⟩ := I.tuple hq
    obtain ⟨f0, f1, f2, f3, f4, f5⟩ := hf it (by simp)
    have hl := rv.length
    have hid : X.A.in1.handled = none := by
      show X.A.handled = none
      exact I.ok.hd hc
    have e1 : its.toArray.size = i := by simp; omega
    subst e1
    exact wpAny_pyNext_enum_endD (Draws.tuple hid it a h3 its.toArray) he ⟨hit, p⟩ fun h' eb => ⟨rfl, I.turned (t' := s.toks) (fun b o hb q => eb b o hb q) f0 f1 f3 f4 f5⟩
  · obtain ⟨⟨_, he⟩, _⟩ := st
    exact wpAny_pyIter_enum he h
end Mi
end
section
set_option Elab.async false
set_option linter.all false
set_option maxRecDepth 100000
set_option maxHeartbeats 1000000
/-! S5b: what the evaluator's iterations are in the heap. -/
namespace Mi
open PySem PySem.Spec PyProof.Rows L2

/-- what an iterator hands out: a value; or, for a target that is taken apart, a new tuple of values -/
inductive RpW (w : World) (K : PySem.W.Frag) : Bool → Hp → (Addr → Prop) → D → V → Prop where
  | full {b : Bool} {H : Hp} {M : Addr → Prop} {d : D} {v : V} : Rp w K H M d v → RpW w K b H M d v
  | pair {H : Hp} {M : Addr → Prop} {ds : List D} {a : Addr} {xs : List V} : SqT K H a xs → RpL w K H M ds xs → RpW w K false H M (.tuple ds) (.ref a)
/-- the iterator J hands out xs, whatever has happened since -/
def ItOk (w : World) (K : PySem.W.Frag) (b : Bool) (J : L2.It) (H : Hp) (M : Addr → Prop) (xs : List D) : Prop :=
  ∀ S, SOk S H M → ∀ S2 H2 M2, Evo S H M S2 H2 M2 → ∀ i, (xs.length ≤ i → i = xs.length → J.stop i H2) ∧ ∀ x, xs[i]? = some x → J.go i H2 ∧ ∀ v H3, J.yld i H2 v H3 → Same H2 H3 ∧ RpW w K b H3 M2 x v
section
variable (w : World) (K : PySem.W.Frag) (cf : CF) (cd : CD)
def tI (b : Bool) (it : It) : TI := fun σ H R => ∃ env M xs env', SR w K env M σ H ∧ evI cf cd it env = some (xs, env') ∧
  ∀ J H' M', SR w K env' M' σ H' → Evo (OwA env σ) H M (OwA env' σ) H' M' → ItOk w K b J H' M' xs → R J H'
end
abbrev IS (X : Cx) (cf : CF) (cd : CD) (b : Bool) (tg e : Expr) (it : It) : Prop := PI X tg e (tI X.w X.K cf cd b it)

section
variable {w : World} {K : PySem.W.Frag} {S M : Addr → Prop} {H : Hp} {a c : Addr} {b : Bool} {xs ys : List V} {ds es : List D} {o : Obj} {kvs : List (D × D)} {rs : Rw}
theorem RpL.at' (r : RpL w K H M ds xs) {i : Nat} {d : D} (h : ds[i]? = some d) : ∃ v, xs[i]? = some v ∧ Rp w K H M d v := r.get h
theorem ok_list (h : H a = some (.lst xs)) (n : ¬ M a) (r : RpL w K H M ds xs) : ItOk w K b (Itl K a) H M ds := by
  intro S sok S2 H2 M2 ev i
  have hl := r.length
  have h2 : SqL K H2 a xs := SqL.of (ev.keep _ _ h fun q => n (sok _ q).1)
  refine ⟨fun e _ => ⟨xs, h2, by omega⟩, fun x hx => ?_⟩
  obtain ⟨v, hv, rv⟩ := r.get hx
  refine ⟨⟨xs, v, h2, hv⟩, fun u H3 y => ?_⟩
  obtain ⟨rfl, e⟩ := y
  have e := e xs h2
  rw [hv] at e
  cases e
  exact ⟨fun _ _ z => z, .full (rv.evo ev sok)⟩
theorem tup_keep {S2 M2 : Addr → Prop} {H2 : Hp} (sok : SOk S H M) (ev : Evo S H M S2 H2 M2) (h : TupE K H a xs) : TupE K H2 a xs := by
  rcases h with ⟨o, h, hd⟩ | h
  · refine .inl ⟨o, ev.keep _ _ h fun q => ?_, hd⟩
    obtain ⟨_, o', eo, io⟩ := sok _ q
    rw [h] at eo
    cases eo
    exact io.elim
  · exact .inr h
theorem ok_tup (h : TupE K H a xs) (r : RpL w K H M ds xs) : ItOk w K b (Itt K a) H M ds := by
  intro S sok S2 H2 M2 ev i
  have hl := r.length
  have h2 : SqT K H2 a xs := (tup_keep sok ev h).sq
  refine ⟨fun e _ => ⟨xs, h2, by omega⟩, fun x hx => ?_⟩
  obtain ⟨v, hv, rv⟩ := r.get hx
  refine ⟨⟨xs, v, h2, hv⟩, fun u H3 y => ?_⟩
  obtain ⟨rfl, e⟩ := y
  have e := e xs h2
  rw [hv] at e
  cases e
  exact ⟨fun _ _ z => z, .full (rv.evo ev sok)⟩
theorem rngL_len : ∀ (n : Nat) (lo : Int), (rngL lo n).length = n
  | 0, _ => rfl
  | n + 1, lo => by show (rngL (lo + 1) n).length + 1 = n + 1; rw [rngL_len n]
theorem rngL_get : ∀ (n : Nat) (lo : Int) (i : Nat), i < n → (rngL lo n)[i]? = some (.int (lo + i))
  | n + 1, lo, 0, _ => by simp [rngL]
  | n + 1, lo, i + 1, h => by
    show (rngL (lo + 1) n)[i]? = _
    rw [rngL_get n (lo + 1) i (by omega)]
    congr 2
    omega
theorem ok_rng {lo : Int} {n : Nat} : ItOk w K b (Itr lo n) H M (rngL lo n) := by
  intro S sok S2 H2 M2 ev i
  rw [rngL_len]
  refine ⟨fun e _ => e, fun x hx => ?_⟩
  have hi : i < n := by
    have := (List.getElem?_eq_some_iff.mp hx).1
    rwa [rngL_len] at this
  rw [rngL_get n lo i hi] at hx
  cases hx
  refine ⟨hi, fun u H3 y => ?_⟩
  obtain ⟨rfl, rfl⟩ := y
  exact ⟨fun _ _ z => z, .full (.int _)⟩
theorem RpR.get (r : RpR w K H M kvs rs) : ∀ {i : Nat} {p : D × D}, kvs[i]? = some p → ∃ q, rs[i]? = some q ∧ Rp w K H M p.1 q.1 ∧ Rp w K H M p.2 q.2.1 := by
  intro i
  induction i generalizing kvs rs with
  | zero =>
    intro p h
    cases r with
    | nil => simp at h
    | cons h1 h2 h3 r =>
      simp at h
      subst h
      exact ⟨_, rfl, h1, h2⟩
  | succ i ih =>
    intro p h
    cases r with
    | nil => simp at h
    | cons h1 h2 h3 r =>
      obtain ⟨q, e, z⟩ := ih r (by simpa using h)
      exact ⟨q, by simpa using e, z⟩
theorem frz_keep {S2 M2 : Addr → Prop} {H2 : Hp} (sok : SOk S H M) (n : ¬ M a) (ev : Evo S H M S2 H2 M2) {x : HO} (h : H a = some x) : H2 a = some x := ev.keep _ _ h fun q => n (sok _ q).1
theorem ok_dict (f : D × D → D) (g : V × V × Int → V) (hf : ∀ {H M} {p : D × D} {q : V × V × Int}, Rp w K H M p.1 q.1 → Rp w K H M p.2 q.2.1 → Rp w K H M (f p) (g q)) (h : H a = some (.frz o (dO a rs))) (n : ¬ M a) (r : RpR w K H M kvs rs) :
    ItOk w K b (Jd a o rs g) H M (kvs.map f) := by
  intro S sok S2 H2 M2 ev i
  have hl := r.length
  have h2 := frz_keep sok n ev h
  rw [List.length_map]
  refine ⟨fun e _ => ⟨h2, by omega⟩, fun x hx => ?_⟩
  rw [List.getElem?_map] at hx
  cases e : kvs[i]? with
  | none => rw [e] at hx; cases hx
  | some p =>
    rw [e] at hx
    cases hx
    obtain ⟨q, hq, r1, r2⟩ := r.get e
    refine ⟨⟨h2, (List.getElem?_eq_some_iff.mp hq).1⟩, fun u H3 y => ?_⟩
    obtain ⟨rfl, q', e1, rfl⟩ := y
    rw [hq] at e1
    cases e1
    exact ⟨fun _ _ z => z, .full ((hf r1 r2).evo ev sok)⟩
/-- a new tuple handed out -/
theorem pair_w {H2 : Hp} {M2 : Addr → Prop} {T : Addr} {d e : D} {x y : V} (hT : H2 T = none) (r1 : Rp w K H2 M2 d x) (r2 : Rp w K H2 M2 e y) : Same H2 (upd H2 T (.tup [x, y])) ∧ RpW w K false (upd H2 T (.tup [x, y])) M2 (.tuple [d, e]) (.ref T) :=
  ⟨same_upd hT, .pair (.inl (.inl upd_same)) (.cons (r1.same (same_upd hT)) (.cons (r2.same (same_upd hT)) .nil))⟩
theorem ok_items (h : H a = some (.frz o (dO a rs))) (n : ¬ M a) (r : RpR w K H M kvs rs) : ItOk w K false (Jp a o rs) H M (kvs.map fun p => .tuple [p.1, p.2]) := by
  intro S sok S2 H2 M2 ev i
  have hl := r.length
  have h2 := frz_keep sok n ev h
  rw [List.length_map]
  refine ⟨fun e _ => ⟨h2, by omega⟩, fun x hx => ?_⟩
  rw [List.getElem?_map] at hx
  cases e : kvs[i]? with
  | none => rw [e] at hx; cases hx
  | some p =>
    rw [e] at hx
    cases hx
    obtain ⟨q, hq, r1, r2⟩ := r.get e
    refine ⟨⟨h2, (List.getElem?_eq_some_iff.mp hq).1⟩, fun u H3 y => ?_⟩
    obtain ⟨T, q', e1, rfl, hT, rfl⟩ := y
    rw [hq] at e1
    cases e1
    exact pair_w hT (r1.evo ev sok) (r2.evo ev sok)
theorem enumL_len : ∀ (ds : List D) (k : Nat), (enumL k ds).length = ds.length
  | [], _ => rfl
  | _ :: r, k => by show (enumL (k + 1) r).length + 1 = r.length + 1; rw [enumL_len r]
theorem enumL_get : ∀ (ds : List D) (k i : Nat) (d : D), ds[i]? = some d → (enumL k ds)[i]? = some (.tuple [.int (k + i : Nat), d])
  | _ :: _, k, 0, d, h => by
    simp at h
    subst h
    simp [enumL]
  | _ :: r, k, i + 1, d, h => by
    show (enumL (k + 1) r)[i]? = _
    rw [enumL_get r (k + 1) i d (by simpa using h)]
    congr 4
    simp
    omega
theorem enumL_some {ds : List D} {i : Nat} {x : D} (h : (enumL 0 ds)[i]? = some x) : ∃ d, ds[i]? = some d ∧ x = .tuple [.int (i : Nat), d] := by
  have hi := (List.getElem?_eq_some_iff.mp h).1
  rw [enumL_len] at hi
  refine ⟨ds[i], List.getElem?_eq_getElem hi, ?_⟩
  rw [enumL_get ds 0 i ds[i] (List.getElem?_eq_getElem hi)] at h
  cases h
  simp
theorem ok_enumL (h : H a = some (.lst xs)) (n : ¬ M a) (r : RpL w K H M ds xs) : ItOk w K false (Ite K a) H M (enumL 0 ds) := by
  intro S sok S2 H2 M2 ev i
  have hl := r.length
  have h2 : SqL K H2 a xs := SqL.of (ev.keep _ _ h fun q => n (sok _ q).1)
  rw [enumL_len]
  refine ⟨fun e _ => ⟨xs, h2, by omega⟩, fun x hx => ?_⟩
  obtain ⟨d, hd, rfl⟩ := enumL_some hx
  obtain ⟨v, hv, rv⟩ := r.get hd
  refine ⟨⟨xs, v, h2, hv⟩, fun u H3 y => ?_⟩
  obtain ⟨T, x, rfl, hT, rfl, e⟩ := y
  have e := e xs h2
  rw [hv] at e
  cases e
  exact pair_w hT (.int _) (rv.evo ev sok)
theorem ok_enumT (h : TupE K H a xs) (r : RpL w K H M ds xs) : ItOk w K false (Jet K a) H M (enumL 0 ds) := by
  intro S sok S2 H2 M2 ev i
  have hl := r.length
  have h2 : SqT K H2 a xs := (tup_keep sok ev h).sq
  rw [enumL_len]
  refine ⟨fun _ e => ⟨xs, h2, by omega⟩, fun x hx => ?_⟩
  obtain ⟨d, hd, rfl⟩ := enumL_some hx
  obtain ⟨v, hv, rv⟩ := r.get hd
  refine ⟨⟨xs, v, h2, hv⟩, fun u H3 y => ?_⟩
  obtain ⟨T, x, rfl, hT, rfl, e⟩ := y
  have e := e xs h2
  rw [hv] at e
  cases e
  exact pair_w hT (.int _) (rv.evo ev sok)
theorem zip_some {ds es : List D} {i : Nat} {x : D} (h : ((ds.zip es).map fun p => PyData.tuple [p.1, p.2])[i]? = some x) : ∃ d e, ds[i]? = some d ∧ es[i]? = some e ∧ x = .tuple [d, e] := by
  rw [List.getElem?_map] at h
  cases q : (ds.zip es)[i]? with
  | none => rw [q] at h; cases h
  | some p =>
    rw [q] at h
    cases h
    rw [List.getElem?_zip_eq_some] at q
    exact ⟨p.1, p.2, q.1, q.2, rfl⟩
theorem ok_zipL (h : H a = some (.lst xs)) (n : ¬ M a) (r : RpL w K H M ds xs) (h' : H c = some (.lst ys)) (n' : ¬ M c) (r' : RpL w K H M es ys) : ItOk w K false (Itz K a c) H M ((ds.zip es).map fun p => .tuple [p.1, p.2]) := by
  intro S sok S2 H2 M2 ev i
  have hl := r.length
  have hl' := r'.length
  have h2 : SqL K H2 a xs := SqL.of (ev.keep _ _ h fun q => n (sok _ q).1)
  have h2' : SqL K H2 c ys := SqL.of (ev.keep _ _ h' fun q => n' (sok _ q).1)
  rw [List.length_map, List.length_zip]
  refine ⟨fun e _ => ⟨xs, ys, h2, h2', by omega⟩, fun x hx => ?_⟩
  obtain ⟨d, d', hd, hd', rfl⟩ := zip_some hx
  obtain ⟨v, hv, rv⟩ := r.get hd
  obtain ⟨v', hv', rv'⟩ := r'.get hd'
  refine ⟨⟨xs, ys, v, v', h2, h2', hv, hv'⟩, fun u H3 y => ?_⟩
  obtain ⟨T, x, y, rfl, hT, rfl, e, e'⟩ := y
  have e := e xs h2
  rw [hv] at e
  cases e
  have e' := e' ys h2'
  rw [hv'] at e'
  cases e'
  exact pair_w hT (rv.evo ev sok) (rv'.evo ev sok)
theorem ok_zipT (h : TupE K H a xs) (r : RpL w K H M ds xs) (h' : TupE K H c ys) (r' : RpL w K H M es ys) : ItOk w K false (RZ.ItzT K a c) H M ((ds.zip es).map fun p => .tuple [p.1, p.2]) := by
  intro S sok S2 H2 M2 ev i
  have hl := r.length
  have hl' := r'.length
  have h2 : SqT K H2 a xs := (tup_keep sok ev h).sq
  have h2' : SqT K H2 c ys := (tup_keep sok ev h').sq
  rw [List.length_map, List.length_zip]
  refine ⟨fun e _ => ⟨xs, ys, h2, h2', by omega⟩, fun x hx => ?_⟩
  obtain ⟨d, d', hd, hd', rfl⟩ := zip_some hx
  obtain ⟨v, hv, rv⟩ := r.get hd
  obtain ⟨v', hv', rv'⟩ := r'.get hd'
  refine ⟨⟨xs, ys, v, v', h2, h2', hv, hv'⟩, fun u H3 y => ?_⟩
  obtain ⟨T, x, y, rfl, hT, rfl, e, e'⟩ := y
  have e := e xs h2
  rw [hv] at e
  cases e
  have e' := e' ys h2'
  rw [hv'] at e'
  cases e'
  exact pair_w hT (rv.evo ev sok) (rv'.evo ev sok)
end

section
variable {X : Cx} {cf : CF} {cd : CD} {tg a b : Expr} {ia ib : E} {pos : Pos} {bo : Bool}
/-- for x in a value -/
theorem is_val (ha : ES X cf cd a ia) : IS X cf cd bo tg a (.val ia) := by
  refine ⟨fun pins s σ H R I ⟨env, M, xs, env', sr, ev, k⟩ => ?_⟩
  obtain ⟨x, e1, h1, ev⟩ := bnd_inv ev
  refine thn (ha.run pins s σ H _ I (step1 sr h1 (R := fun v H1 => ∃ M1, SR X.w X.K e1 M1 σ H1 ∧ Evo (OwA env σ) H M (OwA e1 σ) H1 M1 ∧ Rp X.w X.K H1 M1 x v) fun v H1 M1 sr1 ev1 r1 => ⟨M1, sr1, ev1, r1⟩)) fun u s1 ⟨v, H1, I1, rv, M1, sr1, ev1, r1⟩ => ?_
  cases r1 with
  | lst g n r =>
    cases ev
    cases rv
    obtain ⟨its, rv', p, hz⟩ := I1.list (SqL.of g)
    exact wpAny_pyIter_list p.isList (pi_one (tk := s1.toks) I1 _ (turn_list _ _) ⟨_, Heap.get?_push_size _ rfl, rfl, rfl⟩ (k _ H1 M1 sr1 ev1 (ok_list g n r)))
  | tup g r =>
    cases ev
    cases rv
    obtain ⟨its, rv', p, hz⟩ := I1.tuple g.sq
    exact wpAny_pyIter_tuple p (pi_one (tk := s1.toks) I1 _ (turn_tuple _ _) ⟨_, Heap.get?_push_size _ rfl, rfl, rfl⟩ (k _ H1 M1 sr1 ev1 (ok_tup g r)))
  | dct g n r nd =>
    cases ev
    cases rv
    obtain ⟨z, ho, hx, es, ep, hdt, hsz, p⟩ := frzAt I1 g
    exact wpAny_pyIter_dict_raw z ⟨_, ho, hx, hdt⟩ (pi_one (tk := s1.toks) I1 _ (turnK _ hdt) ⟨_, Heap.get?_push_size _ rfl, rfl, rfl⟩ (k _ H1 M1 sr1 ev1 (ok_dict (·.1) (·.1) (fun r1 _ => r1) g n r)))
  | _ => cases ev
theorem is_rng {x : Str} {p : Pos} (hx : x = "range") (hg : Gl X x) (hm : X.mg x = none) (ha : ES X cf cd a ia) (hs : starEach [a] X.env = (false, eval a X.env) :: starEach [] X.env) : IS X cf cd bo tg (.Call (.Name x p) [a] [] pos) (.rng ia) := by
  subst hx
  refine ⟨fun pins s σ H R I ⟨env, M, xs, env', sr, ev, k⟩ => ?_⟩
  obtain ⟨x, e1, h1, ev⟩ := bnd_inv ev
  refine (pi_range1 hg hm (pa_cons ha pa_nil hs) hs).run pins s σ H R I (step1 sr h1 fun v H1 M1 sr1 ev1 r1 => ?_)
  cases r1 <;> first | cases ev | skip
  obtain ⟨sm, ev⟩ := gd_of ev
  cases ev
  simp only [small, Bool.and_eq_true, decide_eq_true_eq] at sm
  exact ⟨_, rfl, by omega, by omega, k _ H1 M1 sr1 ev1 ok_rng⟩
theorem is_rng2 {x : Str} {p : Pos} (hx : x = "range") (hg : Gl X x) (hm : X.mg x = none) (ha : ES X cf cd a ia) (hb : ES X cf cd b ib) (hs : starEach [a, b] X.env = (false, eval a X.env) :: starEach [b] X.env) (hs2 : starEach [b] X.env = (false, eval b X.env) :: starEach [] X.env) :
    IS X cf cd bo tg (.Call (.Name x p) [a, b] [] pos) (.rng2 ia ib) := by
  subst hx
  refine ⟨fun pins s σ H R I ⟨env, M, xs, env', sr, ev, k⟩ => ?_⟩
  obtain ⟨x, e1, h1, ev⟩ := bnd_inv ev
  obtain ⟨y, e2, h2, ev⟩ := bnd_inv ev
  refine (pi_range2 hg hm (pa_cons ha (pa_cons hb pa_nil hs2) hs) (by rw [hs, hs2]; rfl) hs2).run pins s σ H R I (step2 sr h1 h2 fun v u H2 M2 sr2 ev2 r1 r2 => ?_)
  split at ev
  · obtain ⟨sm, ev⟩ := gd_of ev
    cases ev
    cases r1
    cases r2
    simp only [small, Bool.and_eq_true, decide_eq_true_eq] at sm
    exact ⟨_, _, rfl, ⟨by omega, by omega, by omega, by omega⟩, k _ H2 M2 sr2 ev2 ok_rng⟩
  · cases ev
variable {elts : List Expr} {kk : Nat} {tpos : Pos}
theorem is_enum {x : Str} {p : Pos} (hx : x = "enumerate") (hg : Gl X x) (hm : X.mg x = none) (ha : ES X cf cd a ia) (hs : starEach [a] X.env = (false, eval a X.env) :: starEach [] X.env) : IS X cf cd false (.Tuple elts kk tpos) (.Call (.Name x p) [a] [] pos) (.enum ia) := by
  subst hx
  refine ⟨fun pins s σ H R I ⟨env, M, xs, env', sr, ev, k⟩ => ?_⟩
  obtain ⟨x, e1, h1, ev⟩ := bnd_inv ev
  refine Call_ (ld_blt I hg hm boot_enumerate (PyProof.Rows.callWith_type1 (thn ((pa_cons ha pa_nil hs).run pos pins s σ H (fun vs H1 => ∃ v M1, vs = [v] ∧ SR X.w X.K e1 M1 σ H1 ∧ Evo (OwA env σ) H M (OwA e1 σ) H1 M1 ∧ Rp X.w X.K H1 M1 x v) I
    (step1 sr h1 fun v H1 M1 sr1 ev1 r1 => ⟨v, M1, rfl, sr1, ev1, r1⟩)) fun us s1 ⟨vs, H1, I1, rv, v, M1, e, sr1, ev1, r1⟩ => ?_) hs rfl))
  subst e
  obtain ⟨u, rfl, ru⟩ := vals1 rv
  have fresh2 : ∀ c, c ∈ [s1.heap.objs.size + 1, s1.heap.objs.size] → FpOk X pins H1 c := fun c hc => by
    have hle : s1.heap.objs.size ≤ c := by
      simp at hc
      omega
    exact I1.fpOk hle (I1.hok.fresh hle)
  cases r1 with
  | lst g n r =>
    cases ev
    cases ru
    obtain ⟨its, rv', p, hz⟩ := I1.list (SqL.of g)
    refine call_enumerate_list p.isList fun h' he hit hsz hk => wpAny_pyIter_enum he ?_
    exact ⟨s1.heap.objs.size + 1, [s1.heap.objs.size + 1, s1.heap.objs.size], _, _, H1, rfl, I1.kept (t' := s1.toks) hk, turn_enum _ _ _, ⟨⟨.none, he⟩, hit, Nat.succ_ne_self _⟩, fresh2, k _ H1 M1 sr1 ev1 (ok_enumL g n r)⟩
  | @tup a xs ds g r =>
    cases ev
    cases ru
    obtain ⟨its, rv', p, hz⟩ := I1.tuple g.sq
    obtain ⟨o1, ho1, _⟩ := id p
    have hlt := Heap.lt_size ho1
    refine callE (begins_tuple a its.toArray) p fun h' he hit hk => wpAny_pyIter_enum he ?_
    exact ⟨s1.heap.objs.size + 1, [s1.heap.objs.size + 1, s1.heap.objs.size], _, _, H1, rfl, I1.kept (t' := s1.toks) hk, turnE a _ _ (Nat.succ_ne_self _) (Nat.ne_of_gt (Nat.lt_succ_of_lt hlt)) (Nat.ne_of_lt hlt), ⟨⟨.none, he⟩, ⟨_, hit, rfl, rfl⟩⟩, fresh2, k _ H1 M1 sr1 ev1 (ok_enumT g r)⟩
  | _ => cases ev
theorem is_zip {x : Str} {p : Pos} (hx : x = "zip") (hg : Gl X x) (hm : X.mg x = none) (ha : ES X cf cd a ia) (hb : ES X cf cd b ib) (hs : starEach [a, b] X.env = (false, eval a X.env) :: starEach [b] X.env) (hs2 : starEach [b] X.env = (false, eval b X.env) :: starEach [] X.env) :
    IS X cf cd false (.Tuple elts kk tpos) (.Call (.Name x p) [a, b] [] pos) (.zip ia ib) := by
  subst hx
  refine ⟨fun pins s σ H R I ⟨env, M, xs, env', sr, ev, k⟩ => ?_⟩
  obtain ⟨x, e1, h1, ev⟩ := bnd_inv ev
  obtain ⟨y, e2, h2, ev⟩ := bnd_inv ev
  refine (RZ.pi_zipA hg hm (pa_cons ha (pa_cons hb pa_nil hs2) hs) hs (by rw [hs2]; rfl)).run pins s σ H R I (step2 sr h1 h2 fun v u H2 M2 sr2 ev2 r1 r2 => ?_)
  cases r1 with
  | lst g n r =>
    cases r2 with
    | lst g' n' r' =>
      cases ev
      exact ⟨_, _, _, _, rfl, .inl ⟨SqL.of g, SqL.of g', k _ H2 M2 sr2 ev2 (ok_zipL g n r g' n' r')⟩⟩
    | _ => cases ev
  | tup g r =>
    cases r2 with
    | tup g' r' =>
      cases ev
      exact ⟨_, _, _, _, rfl, .inr ⟨g.sq, g'.sq, k _ H2 M2 sr2 ev2 (ok_zipT g r g' r')⟩⟩
    | _ => cases ev
  | _ => cases ev
theorem is_vals {m : Str} {apos : Pos} (hm : m = "values") (ha : ES X cf cd a ia) (h0 : notCall0 a = true) (hl : (apos.endLine == pos.line) = true) : IS X cf cd bo tg (.Call (.Attribute a m apos) [] [] pos) (.vals ia) := by
  subst hm
  refine ⟨fun pins s σ H R I ⟨env, M, xs, env', sr, ev, k⟩ => ?_⟩
  obtain ⟨x, e1, h1, ev⟩ := bnd_inv ev
  refine wpAny_Call_method (T := "dict") (id := "dict.values") (base_plain h0) rfl hl F.plainAttrs_dict F.slot_dict_values F.type_dict_values (thn (ha.run pins s σ H _ I (step1 sr h1 (R := fun v H1 => ∃ M1, SR X.w X.K e1 M1 σ H1 ∧ Evo (OwA env σ) H M (OwA e1 σ) H1 M1 ∧ Rp X.w X.K H1 M1 x v) fun v H1 M1 sr1 ev1 r1 => ⟨M1, sr1, ev1, r1⟩)) fun u s1 ⟨v, H1, I1, rv, M1, sr1, ev1, r1⟩ => ?_)
  cases r1 with
  | @dct d o rs kvs g n r nd =>
    cases ev
    cases rv
    obtain ⟨z, ho, hx, es, ep, hdt, hsz, p⟩ := frzAt I1 g
    have hr : s1.heap.DictRaw d es ep := ⟨o, ho, hx, hdt⟩
    refine ⟨hr.typeIs, fun b q => by cases q; exact ⟨o, ho, hx.2.1⟩, ?_⟩
    have I2 : Inv X pins σ H1 { s1 with heap := s1.heap.push { cls := .type "dict_values", data := .fields #[.ref d] } } := I1.kept (t' := s1.toks) fun b ob q => Heap.get?_push_of_some _ q
    show wpAny _ _ (callWith pos (.builtin "dict.values") [.ref d] [] []) _ X.xe s1
    refine method_meetsIn F.slot_dict_values F.entry_dict_values rfl (PySem.evalArgs_none ⟨rfl, hr.typeIs, F.args_dict_values_1 _, _, meets_dict_values_raw d z, ⟨es, ep, hr⟩, ?_⟩)
    exact wpAny_pyIter_values_raw (d := d) ⟨_, Heap.get?_push_size _ rfl, rfl, rfl⟩ (hr.at fun o q => Heap.get?_push_of_some _ q) (pi_one (tk := s1.toks) I2 _ (turnV _ hdt) ⟨_, Heap.get?_push_size _ rfl, rfl, rfl⟩ (k _ H1 M1 sr1 ev1 (ok_dict (·.2) (·.2.1) (fun _ r2 => r2) g n r)))
  | _ => cases ev
theorem is_items {m : Str} {apos : Pos} (hm : m = "items") (ha : ES X cf cd a ia) (h0 : notCall0 a = true) (hl : (apos.endLine == pos.line) = true) : IS X cf cd false (.Tuple elts kk tpos) (.Call (.Attribute a m apos) [] [] pos) (.items ia) := by
  subst hm
  refine ⟨fun pins s σ H R I ⟨env, M, xs, env', sr, ev, k⟩ => ?_⟩
  obtain ⟨x, e1, h1, ev⟩ := bnd_inv ev
  refine wpAny_Call_method (T := "dict") (id := "dict.items") (base_plain h0) rfl hl F.plainAttrs_dict F.slot_dict_items F.type_dict_items (thn (ha.run pins s σ H _ I (step1 sr h1 (R := fun v H1 => ∃ M1, SR X.w X.K e1 M1 σ H1 ∧ Evo (OwA env σ) H M (OwA e1 σ) H1 M1 ∧ Rp X.w X.K H1 M1 x v) fun v H1 M1 sr1 ev1 r1 => ⟨M1, sr1, ev1, r1⟩)) fun u s1 ⟨v, H1, I1, rv, M1, sr1, ev1, r1⟩ => ?_)
  cases r1 with
  | @dct d o rs kvs g n r nd =>
    cases ev
    cases rv
    obtain ⟨z, ho, hx, es, ep, hdt, hsz, p⟩ := frzAt I1 g
    have hr : s1.heap.DictRaw d es ep := ⟨o, ho, hx, hdt⟩
    refine ⟨hr.typeIs, fun b q => by cases q; exact ⟨o, ho, hx.2.1⟩, ?_⟩
    have I2 : Inv X pins σ H1 { s1 with heap := s1.heap.push { cls := .type "dict_items", data := .fields #[.ref d] } } := I1.kept (t' := s1.toks) fun b ob q => Heap.get?_push_of_some _ q
    show wpAny _ _ (callWith pos (.builtin "dict.items") [.ref d] [] []) _ X.xe s1
    refine method_meetsIn F.slot_dict_items F.entry_dict_items rfl (PySem.evalArgs_none ⟨rfl, hr.typeIs, F.args_dict_items_1 _, _, meets_dict_items_raw d z, ⟨es, ep, hr⟩, ?_⟩)
    exact wpAny_pyIter_items_raw (d := d) ⟨_, Heap.get?_push_size _ rfl, rfl, rfl⟩ (hr.at fun o q => Heap.get?_push_of_some _ q) (pi_one (tk := s1.toks) I2 _ (turnP _ hdt) ⟨.none, .none, Heap.get?_push_size _ rfl⟩ (k _ H1 M1 sr1 ev1 (ok_items g n r)))
  | _ => cases ev
end
end Mi
end
section
set_option Elab.async false
set_option linter.all false
set_option maxRecDepth 100000
set_option maxHeartbeats 1000000
/-! S5c: targets. -/
namespace Mi
open PySem PySem.Spec PyProof.Rows L2

mutual
def T.js : T → List Nat
  | .nm i => [i]
  | .tp ts => T.jss ts
def T.jss : List T → List Nat
  | [] => []
  | t :: ts => t.js ++ T.jss ts
end
/-- only the slots js have changed, no object of the frame's own has come or gone -/
structure Fx (js : List Nat) (env env' : Ev) (σ σ' : L2.St) : Prop where
  le : env'.length = env.length
  ls : σ'.length = σ.length
  eo : ∀ j, j ∉ js → env'[j]? = env[j]?
  so : ∀ j, j ∉ js → σ'[j]? = σ[j]?
  ow : ∀ a, OwA env' σ' a ↔ OwA env σ a
theorem Fx.rfl' {js : List Nat} {env : Ev} {σ : L2.St} : Fx js env env σ σ := ⟨rfl, rfl, fun _ _ => rfl, fun _ _ => rfl, fun _ => Iff.rfl⟩
theorem Fx.trans {js ks : List Nat} {env e1 e2 : Ev} {σ s1 s2 : L2.St} (a : Fx js env e1 σ s1) (b : Fx ks e1 e2 s1 s2) : Fx (js ++ ks) env e2 σ s2 :=
  ⟨b.le.trans a.le, b.ls.trans a.ls, fun j h => (b.eo j fun z => h (List.mem_append_right _ z)).trans (a.eo j fun z => h (List.mem_append_left _ z)), fun j h => (b.so j fun z => h (List.mem_append_right _ z)).trans (a.so j fun z => h (List.mem_append_left _ z)), fun x => (b.ow x).trans (a.ow x)⟩
section
variable {w : World} {K : PySem.W.Frag} {env env' : Ev} {M M' : Addr → Prop} {σ σ' : L2.St} {H H' : Hp} {d : D} {v : V} {i : Nat}
/-- a slot that holds no object of the frame's own gets a value, or is forgotten -/
theorem set_ow (no : ∀ x, env[i]? ≠ some (.own x)) {s : Sl} (ns : ∀ x, s ≠ .own x) {o : Option V} (a : Addr) : OwA (env.set i s) (σ.set i o) a ↔ OwA env σ a := by
  constructor
  · rintro ⟨j, x, h1, h2⟩
    rcases set_get h1 with ⟨_, z, _⟩ | ⟨n, h1⟩
    · exact (ns _ z).elim
    · rw [List.getElem?_set_ne (Ne.symm n)] at h2
      exact ⟨j, x, h1, h2⟩
  · rintro ⟨j, x, h1, h2⟩
    have n : i ≠ j := fun z => no x (z ▸ h1)
    exact ⟨j, x, by rw [List.getElem?_set_ne n]; exact h1, by rw [List.getElem?_set_ne n]; exact h2⟩
theorem set_fx (no : ∀ x, env[i]? ≠ some (.own x)) {s : Sl} (ns : ∀ x, s ≠ .own x) {o : Option V} : Fx [i] env (env.set i s) σ (σ.set i o) :=
  ⟨List.length_set, List.length_set, fun j h => List.getElem?_set_ne fun z => h (by simp [z]), fun j h => List.getElem?_set_ne fun z => h (by simp [z]), set_ow no ns⟩
theorem set_val (sr : SR w K env M σ H) (no : ∀ x, env[i]? ≠ some (.own x)) (r : Rp w K H M d v) : SR w K (env.set i (.val d)) M (σ.set i (some v)) H := by
  refine ⟨by rw [List.length_set, List.length_set]; exact sr.len, fun j x h => ?_, fun j x h => ?_, fun j l x y a h1 h2 h3 h4 => ?_, sr.mt⟩
  · rcases set_get h with ⟨rfl, z, hl⟩ | ⟨n, h⟩
    · cases z
      exact ⟨v, List.getElem?_set_self (by rw [← sr.len]; exact hl), r⟩
    · rw [List.getElem?_set_ne (Ne.symm n)]
      exact sr.val j x h
  · rcases set_get h with ⟨_, z, _⟩ | ⟨n, h⟩
    · cases z
    · rw [List.getElem?_set_ne (Ne.symm n)]
      exact sr.own j x h
  · rcases set_get h1 with ⟨_, z, _⟩ | ⟨n, h1⟩
    · cases z
    · rcases set_get h2 with ⟨_, z, _⟩ | ⟨n2, h2⟩
      · cases z
      · rw [List.getElem?_set_ne (Ne.symm n)] at h3
        rw [List.getElem?_set_ne (Ne.symm n2)] at h4
        exact sr.sep j l x y a h1 h2 h3 h4
theorem set_no (sr : SR w K env M σ H) : SR w K (env.set i .no) M (σ.set i none) H := by
  refine ⟨by rw [List.length_set, List.length_set]; exact sr.len, fun j x h => ?_, fun j x h => ?_, fun j l x y a h1 h2 h3 h4 => ?_, sr.mt⟩
  · rcases set_get h with ⟨_, z, _⟩ | ⟨n, h⟩
    · cases z
    · rw [List.getElem?_set_ne (Ne.symm n)]
      exact sr.val j x h
  · rcases set_get h with ⟨_, z, _⟩ | ⟨n, h⟩
    · cases z
    · rw [List.getElem?_set_ne (Ne.symm n)]
      exact sr.own j x h
  · rcases set_get h1 with ⟨_, z, _⟩ | ⟨n, h1⟩
    · cases z
    · rcases set_get h2 with ⟨_, z, _⟩ | ⟨n2, h2⟩
      · cases z
      · rw [List.getElem?_set_ne (Ne.symm n)] at h3
        rw [List.getElem?_set_ne (Ne.symm n2)] at h4
        exact sr.sep j l x y a h1 h2 h3 h4
theorem notOwn {env : Ev} {i : Nat} (h : (match env.getD i (.own .none) with | .own _ => false | _ => true) = true) : ∀ x, env[i]? ≠ some (.own x) := by
  intro x z
  rw [List.getD_eq_getElem?_getD, z] at h
  cases h
end

section
variable (w : World) (K : PySem.W.Frag)
def gT (b : Bool) (t : T) : TG := fun v σ H Q => ∃ env M d env', SR w K env M σ H ∧ RpW w K b H M d v ∧ bindT t d env = some env' ∧ ∀ σ', SR w K env' M σ' H → Fx t.js env env' σ σ' → Q σ' H
def gTs (ts : List T) : TGs := fun vs σ H Q => ∃ env M ds env', SR w K env M σ H ∧ RpL w K H M ds vs ∧ bindTs ts ds env = some env' ∧ ∀ σ', SR w K env' M σ' H → Fx (T.jss ts) env env' σ σ' → Q σ' H
end
section
variable {X : Cx} {pos : Pos} {b : Bool}
theorem PG.imp {e : Expr} {t t' : TG} (h : PG X e t) (f : ∀ v σ H Q, t' v σ H Q → t v σ H Q) : PG X e t' := ⟨fun pins s σ H v u Q I r q => h.run pins s σ H v u Q I r (f v σ H Q q)⟩
theorem PGs.imp {e : List Expr} {t t' : TGs} (h : PGs X e t) (f : ∀ v σ H Q, t' v σ H Q → t v σ H Q) : PGs X e t' := ⟨fun pins s σ H v u Q I r q => h.run pins s σ H v u Q I r (f v σ H Q q)⟩
theorem gt_nm {i : Nat} {x : Str} (hN : X.N.Nodup) (hi : X.N[i]? = some x) (hx : Loc X.env.scope x) (hf : X.fn x = true ∨ X.env.scope.names.lookup x = some .local) : PG X (.Name x pos) (gT X.w X.K true (.nm i)) := by
  refine PG.imp (pg_name hN hi hx hf) fun v σ H Q ⟨env, M, d, env', sr, r, ev, k⟩ => ?_
  have no : ∀ x, env[i]? ≠ some (.own x) := by
    intro x z
    unfold bindT at ev
    rw [List.getD_eq_getElem?_getD, z] at ev
    cases ev
  have e : env' = env.set i (.val d) := by
    unfold bindT at ev
    split at ev
    · cases ev
    · cases ev; rfl
  subst e
  cases r with
  | full r => exact k _ (set_val sr no r) (set_fx no (fun x z => by cases z))
theorem gts_nil : PGs X [] (gTs X.w X.K []) := PGs.imp pgs_nil fun vs σ H Q ⟨env, M, ds, env', sr, r, ev, k⟩ => by
  cases ds with
  | nil =>
    cases ev
    cases r
    exact ⟨rfl, k σ sr Fx.rfl'⟩
  | cons => cases ev
theorem gts_cons {e : Expr} {es : List Expr} {t : T} {ts : List T} (h1 : PG X e (gT X.w X.K true t)) (h2 : PGs X es (gTs X.w X.K ts)) (hs : (assignEach (e :: es) X.env).map (·.2) = assign e X.env :: (assignEach es X.env).map (·.2)) : PGs X (e :: es) (gTs X.w X.K (t :: ts)) :=
  PGs.imp (pgs_cons h1 h2 hs) fun vs σ H Q ⟨env, M, ds, env', sr, r, ev, k⟩ => by
    cases r with
    | nil => cases ev
    | @cons d ds v vs r rr =>
      unfold bindTs at ev
      split at ev
      · rename_i e1 h
        exact ⟨v, vs, rfl, env, M, d, e1, sr, .full r, h, fun σ1 sr1 f1 => ⟨e1, M, ds, env', sr1, rr, ev, fun σ2 sr2 f2 => k σ2 sr2 (f1.trans f2)⟩⟩
      · cases ev
theorem bindTs_len : ∀ {ts : List T} {ds : List D} {env env' : Ev}, bindTs ts ds env = some env' → ds.length = ts.length
  | [], [], _, _, _ => rfl
  | [], _ :: _, _, _, h => by cases h
  | _ :: _, [], _, _, h => by cases h
  | t :: ts, d :: ds, env, env', h => by
    unfold bindTs at h
    split at h
    · rw [List.length_cons, List.length_cons, bindTs_len h]
    · cases h
theorem gt_tp {es : List Expr} {k : Nat} {ts : List T} (hc : X.calm = true) (h : PGs X es (gTs X.w X.K ts)) (hn : (assignEach es X.env).length = ts.length) (hst : (assignEach es X.env).findIdx? (·.1) = none) : PG X (.Tuple es k pos) (gT X.w X.K b (.tp ts)) :=
  PG.imp (pg_tup hc h hn hst) fun v σ H Q ⟨env, M, d, env', sr, r, ev, k⟩ => by
    cases r with
    | full r =>
      cases r with
      | tup g r =>
        unfold bindT at ev
        exact ⟨_, _, rfl, g.sq, by rw [← r.length]; exact bindTs_len ev, env, M, _, env', sr, r, ev, k⟩
      | _ => unfold bindT at ev; cases ev
    | pair g r =>
      unfold bindT at ev
      exact ⟨_, _, rfl, g, by rw [← r.length]; exact bindTs_len ev, env, M, _, env', sr, r, ev, k⟩
end
end Mi
end
section
set_option Elab.async false
set_option linter.all false
set_option maxRecDepth 100000
set_option maxHeartbeats 1000000
/-! S5d: comprehensions. -/
namespace Mi
open PySem PySem.Spec PyProof.Rows L2

theorem wipe_get {env : Ev} {j : Nat} {s : Sl} : ∀ {own : List Nat}, (wipeE env own)[j]? = some s → (s = .no ∧ j ∈ own) ∨ (j ∉ own ∧ env[j]? = some s)
  | [], h => .inr ⟨by simp, h⟩
  | i :: r, h => by
    unfold wipeE at h
    rcases set_get h with ⟨rfl, z, _⟩ | ⟨n, h⟩
    · exact .inl ⟨z.symm, by simp⟩
    · rcases wipe_get h with ⟨z, m⟩ | ⟨m, h⟩
      · exact .inl ⟨z, by simp [m]⟩
      · exact .inr ⟨by simp [m, n], h⟩
theorem wipeE_len {env : Ev} : ∀ own : List Nat, (wipeE env own).length = env.length
  | [] => rfl
  | i :: r => by unfold wipeE; rw [List.length_set, wipeE_len r]
theorem wipeE_out {env : Ev} {j : Nat} : ∀ {own : List Nat}, j ∉ own → (wipeE env own)[j]? = env[j]?
  | [], _ => rfl
  | i :: r, h => by
    unfold wipeE
    rw [List.getElem?_set_ne fun z => h (by simp [z])]
    exact wipeE_out fun z => h (by simp [z])
theorem back_get {e0 env : Ev} {j : Nat} {s : Sl} : ∀ {own : List Nat}, (back e0 env own)[j]? = some s → (s = e0.getD j .no ∧ j ∈ own) ∨ (j ∉ own ∧ env[j]? = some s)
  | [], h => .inr ⟨by simp, h⟩
  | i :: r, h => by
    unfold back at h
    rcases set_get h with ⟨rfl, z, _⟩ | ⟨n, h⟩
    · exact .inl ⟨z.symm, by simp⟩
    · rcases back_get h with ⟨z, m⟩ | ⟨m, h⟩
      · exact .inl ⟨z, by simp [m]⟩
      · exact .inr ⟨by simp [m, n], h⟩
theorem back_len {e0 env : Ev} : ∀ own : List Nat, (back e0 env own).length = env.length
  | [] => rfl
  | i :: r => by unfold back; rw [List.length_set, back_len r]
theorem back_out {e0 env : Ev} {j : Nat} : ∀ {own : List Nat}, j ∉ own → (back e0 env own)[j]? = env[j]?
  | [], _ => rfl
  | i :: r, h => by
    unfold back
    rw [List.getElem?_set_ne fun z => h (by simp [z])]
    exact back_out fun z => h (by simp [z])
theorem noOwn_get {env : Ev} {own : List Nat} (h : noOwn env own = true) {j : Nat} (m : j ∈ own) : ∀ x, env[j]? ≠ some (.own x) := notOwn (List.all_eq_true.mp h j m)
theorem wipe_some' {σ : L2.St} {i : Nat} {o : Option V} : ∀ {vs : List Nat}, i ∉ vs → (wipe σ vs)[i]? = σ[i]? := fun h => wipe_out h
section
variable {w : World} {K : PySem.W.Frag} {env env' e0 : Ev} {M M' : Addr → Prop} {σ σ' : L2.St} {H H' : Hp} {own : List Nat}
theorem wipe_ow (no : noOwn env own = true) (a : Addr) : OwA (wipeE env own) (wipe σ own) a ↔ OwA env σ a := by
  constructor
  · rintro ⟨j, x, h1, h2⟩
    rcases wipe_get h1 with ⟨z, _⟩ | ⟨m, h1⟩
    · cases z
    · exact ⟨j, x, h1, (wipe_some h2).1⟩
  · rintro ⟨j, x, h1, h2⟩
    have m : j ∉ own := fun m => noOwn_get no m x h1
    exact ⟨j, x, by rw [wipeE_out m]; exact h1, by rw [wipe_out m]; exact h2⟩
theorem wipe_sr (sr : SR w K env M σ H) : SR w K (wipeE env own) M (wipe σ own) H := by
  refine ⟨by rw [wipeE_len, wipe_length]; exact sr.len, fun j x h => ?_, fun j x h => ?_, fun j l x y a h1 h2 h3 h4 => ?_, sr.mt⟩
  · rcases wipe_get h with ⟨z, _⟩ | ⟨m, h⟩
    · cases z
    · rw [wipe_out m]; exact sr.val j x h
  · rcases wipe_get h with ⟨z, _⟩ | ⟨m, h⟩
    · cases z
    · rw [wipe_out m]; exact sr.own j x h
  · rcases wipe_get h1 with ⟨z, _⟩ | ⟨m, h1⟩
    · cases z
    · rcases wipe_get h2 with ⟨z, _⟩ | ⟨m2, h2⟩
      · cases z
      · exact sr.sep j l x y a h1 h2 (wipe_some h3).1 (wipe_some h4).1
/-- the same slots wiped once more -/
theorem wipe_again (sr : SR w K (wipeE env own) M σ' H) (hw : wipe σ' own = wipe σ own) : SR w K (wipeE env own) M (wipe σ own) H := by
  have s2 := wipe_sr (own := own) sr
  rw [hw] at s2
  have e : wipeE (wipeE env own) own = wipeE env own := by
    apply List.ext_getElem?
    intro j
    by_cases m : j ∈ own
    · cases h1 : (wipeE env own)[j]? with
      | none =>
        rw [List.getElem?_eq_none_iff] at h1 ⊢
        rw [wipeE_len]; exact h1
      | some s =>
        cases h2 : (wipeE (wipeE env own) own)[j]? with
        | none =>
          rw [List.getElem?_eq_none_iff, wipeE_len] at h2
          rw [List.getElem?_eq_none h2] at h1
          cases h1
        | some s2 =>
          rcases wipe_get h1 with ⟨rfl, _⟩ | ⟨z, _⟩
          · rcases wipe_get h2 with ⟨rfl, _⟩ | ⟨z, _⟩
            · rfl
            · exact (z m).elim
          · exact (z m).elim
    · rw [wipeE_out m]
  rw [e] at s2
  exact s2
/-- a list being made at D, in no slot: what is known stays known -/
theorem upd_at {D : Addr} {o o0 : HO} (io : IsOw o0) (sr : SR w K env M σ H) (hD : H D = some o0) (mD : M D) (nD : ¬ OwA env σ D) :
    SR w K env M σ (upd H D o) ∧ Evo (fun a => OwA env σ a ∨ a = D) H M (fun a => OwA env σ a ∨ a = D) (upd H D o) M ∧ SOk (fun a => OwA env σ a ∨ a = D) H M := by
  have ev : Evo (fun a => OwA env σ a ∨ a = D) H M (fun a => OwA env σ a ∨ a = D) (upd H D o) M := by
    refine ⟨fun a x h n => by rw [upd_ne fun z => n (.inr z)]; exact h, fun _ _ m _ => m, fun _ _ m => m, fun _ z => .inl z, fun a h => ?_⟩
    by_cases z : a = D
    · rw [z, upd_same]; exact fun q => by cases q
    · rw [upd_ne z]; exact h
  have sok : SOk (fun a => OwA env σ a ∨ a = D) H M := fun a h => h.elim (sr.sok a) fun z => z ▸ ⟨mD, _, hD, io⟩
  refine ⟨⟨sr.len, fun i d e => ?_, fun i d e => ?_, sr.sep, fun a m => ev.al a (sr.mt a m)⟩, ev, sok⟩
  · obtain ⟨v, h1, h2⟩ := sr.val i d e
    exact ⟨v, h1, h2.evo ev sok⟩
  · obtain ⟨a, h1, h2, h3⟩ := sr.own i d e
    have n : a ≠ D := fun z => nD ⟨i, d, e, z ▸ h1⟩
    refine ⟨a, h1, h2, ?_⟩
    cases h3 with
    | lst g r => exact .lst (by rw [upd_ne n]; exact g) (r.evo ev sok)
    | dct g r nd => exact .dct (by rw [upd_ne n]; exact g) (r.evo ev sok) nd
/-- the list at D made: it is changed no more -/
theorem done_at {D : Addr} {l : List V} {ds : List PyData} (sr : SR w K env M σ H) (hD : H D = some (.lst l)) (nD : ¬ OwA env σ D) (r : RpL w K H M ds l) :
    SR w K env (fun b => M b ∧ b ≠ D) σ H ∧ Rp w K H (fun b => M b ∧ b ≠ D) (.list ds) (.ref D) := by
  have le : ∀ a, H a ≠ none → M a ∧ a ≠ D → M a := fun _ _ z => z.1
  refine ⟨⟨sr.len, fun i d e => ?_, fun i d e => ?_, sr.sep, fun a m => sr.mt a m.1⟩, .lst hD (fun z => z.2 rfl) (r.less le)⟩
  · obtain ⟨v, h1, h2⟩ := sr.val i d e
    exact ⟨v, h1, h2.less le⟩
  · obtain ⟨a, h1, h2, h3⟩ := sr.own i d e
    have n : a ≠ D := fun z => nD ⟨i, d, e, z ▸ h1⟩
    refine ⟨a, h1, ⟨h2, n⟩, ?_⟩
    cases h3 with
    | lst g r => exact .lst g (r.less le)
    | dct g r nd => exact .dct g (r.less le) nd
/-- out of the block -/
theorem back_sr (s0 : SR w K e0 M σ H) (no : noOwn e0 own = true) (ev : Evo (OwA e0 σ) H M (OwA (wipeE env own) (wipe σ own)) H' M') (sr : SR w K (wipeE env own) M' (wipe σ own) H') :
    SR w K (back e0 env own) M' σ H' ∧ ∀ a, OwA (back e0 env own) σ a → OwA (wipeE env own) (wipe σ own) a := by
  have ge : ∀ {j : Nat} {s : Sl}, env[j]? = some s → j ∉ own → (wipeE env own)[j]? = some s := fun h m => by rw [wipeE_out m]; exact h
  have nx : ∀ {j : Nat} {x : D}, j ∈ own → Sl.own x ≠ e0.getD j .no := fun m z => noOwn_get no m _ (getD_get z.symm (by simp))
  refine ⟨⟨?_, fun j x h => ?_, fun j x h => ?_, fun j l x y a h1 h2 h3 h4 => ?_, sr.mt⟩, ?_⟩
  · have := sr.len
    rw [wipeE_len, wipe_length] at this
    rw [back_len]; exact this
  · rcases back_get h with ⟨z, m⟩ | ⟨m, h⟩
    · obtain ⟨v, h1, h2⟩ := s0.val j x (getD_get z.symm (by simp))
      exact ⟨v, h1, h2.evo ev s0.sok⟩
    · obtain ⟨v, h1, h2⟩ := sr.val j x (ge h m)
      exact ⟨v, (wipe_some h1).1, h2⟩
  · rcases back_get h with ⟨z, m⟩ | ⟨m, h⟩
    · exact (nx m z).elim
    · obtain ⟨a, h1, h2⟩ := sr.own j x (ge h m)
      exact ⟨a, (wipe_some h1).1, h2⟩
  · rcases back_get h1 with ⟨z, m⟩ | ⟨m, h1⟩
    · exact (nx m z).elim
    · rcases back_get h2 with ⟨z, m2⟩ | ⟨m2, h2⟩
      · exact (nx m2 z).elim
      · exact sr.sep j l x y a (ge h1 m) (ge h2 m2) (by rw [wipe_out m]; exact h3) (by rw [wipe_out m2]; exact h4)
  · rintro a ⟨j, x, h1, h2⟩
    rcases back_get h1 with ⟨z, m⟩ | ⟨m, h1⟩
    · exact (nx m z).elim
    · exact ⟨j, x, ge h1 m, by rw [wipe_out m]; exact h2⟩
theorem Fx.wipe {js : List Nat} (f : Fx js env env' σ σ') (h : ∀ j ∈ js, j ∈ own) : L2.wipe σ' own = L2.wipe σ own := by
  apply List.ext_getElem?
  intro j
  by_cases m : j ∈ own
  · have g : ∀ (σ : L2.St), j < σ.length → (L2.wipe σ own)[j]? = some none := fun σ hl => by
      have hl2 : j < (L2.wipe σ own).length := by rw [wipe_length]; exact hl
      cases e : (L2.wipe σ own)[j] with
      | none => rw [List.getElem?_eq_getElem hl2, e]
      | some v => exact ((wipe_some (vs := own) (by rw [List.getElem?_eq_getElem hl2, e] : (L2.wipe σ own)[j]? = some (some v))).2 m).elim
    by_cases hl : j < σ.length
    · rw [g σ hl, g σ' (by rw [f.ls]; exact hl)]
    · rw [List.getElem?_eq_none (by rw [wipe_length, f.ls]; omega), List.getElem?_eq_none (by rw [wipe_length]; omega)]
  · rw [wipe_out m, wipe_out m]
    exact f.so j fun z => m (h j z)
theorem Evo.iff {S S' S2 : Addr → Prop} (e : Evo S H M S' H' M') (h : ∀ a, S2 a → S' a) : Evo S H M S2 H' M' := ⟨e.keep, e.mk', e.mo, fun a z => e.sn a (h a z), e.al⟩
theorem Evo.pre {S S0 S' : Addr → Prop} (e : Evo S H M S' H' M') (h : ∀ a, S a ↔ S0 a) : Evo S0 H M S' H' M' := ⟨fun a o x n => e.keep a o x fun z => n ((h a).mp z), fun a x m n => e.mk' a x m fun z => n ((h a).mp z), e.mo, fun a z => (e.sn a z).imp (h a).mp id, e.al⟩
end

/-- a list being made at Da, ys still to come to be YS -/
structure CK (w : World) (K : PySem.W.Frag) (S1 : Addr → Prop) (H1 : Hp) (M1 : Addr → Prop) (Da : Addr) (YS : List D) (env : Ev) (σ : L2.St) (ys : List D) (M : Addr → Prop) (H : Hp) : Prop where
  sr : SR w K env M σ H
  ev : Evo S1 H1 M1 (OwA env σ) H M
  md : M Da
  nd : ¬ OwA env σ Da
  ex : ∃ ds acc, H Da = some (.lst acc) ∧ RpL w K H M ds acc ∧ ds ++ ys = YS
section
variable {w : World} {K : PySem.W.Frag} {S1 M1 : Addr → Prop} {H1 : Hp} {Da : Addr} {YS ys : List D} {env env' : Ev} {M M' : Addr → Prop} {σ σ' : L2.St} {H H' : Hp}
theorem CK.same (c : CK w K S1 H1 M1 Da YS env σ ys M H) (s : Same H H') : CK w K S1 H1 M1 Da YS env σ ys M H' :=
  ⟨c.sr.same s, c.ev.trans (Evo.same s), c.md, c.nd, let ⟨ds, acc, h1, h2, h3⟩ := c.ex; ⟨ds, acc, s _ _ h1, h2.same s, h3⟩⟩
theorem CK.fx {js : List Nat} (c : CK w K S1 H1 M1 Da YS env σ ys M H) (sr : SR w K env' M σ' H) (f : Fx js env env' σ σ') : CK w K S1 H1 M1 Da YS env' σ' ys M H :=
  ⟨sr, c.ev.iff fun a z => (f.ow a).mp z, c.md, fun z => c.nd ((f.ow Da).mp z), c.ex⟩
theorem CK.evo (c : CK w K S1 H1 M1 Da YS env σ ys M H) (sr : SR w K env' M' σ H') (e : Evo (OwA env σ) H M (OwA env' σ) H' M') : CK w K S1 H1 M1 Da YS env' σ ys M' H' := by
  obtain ⟨ds, acc, h1, h2, h3⟩ := c.ex
  exact ⟨sr, c.ev.trans e, e.mk' _ (some_ne h1) c.md c.nd, fun z => (e.sn _ z).elim c.nd fun q => absurd q (some_ne h1), ds, acc, e.keep _ _ h1 c.nd, h2.evo e c.sr.sok, h3⟩
theorem CK.wipe (c : CK w K S1 H1 M1 Da YS env σ ys M H) (vs : List Nat) : CK w K S1 H1 M1 Da YS (wipeE env vs) (L2.wipe σ vs) ys M H := by
  have o : ∀ a, OwA (wipeE env vs) (L2.wipe σ vs) a → OwA env σ a := by
    rintro a ⟨j, x, h1, h2⟩
    rcases wipe_get h1 with ⟨z, _⟩ | ⟨m, h1⟩
    · cases z
    · exact ⟨j, x, h1, (wipe_some h2).1⟩
  exact ⟨wipe_sr c.sr, c.ev.iff o, c.md, fun z => c.nd (o _ z), c.ex⟩
theorem CK.app {y : D} {v : V} (c : CK w K S1 H1 M1 Da YS env σ (y :: ys) M H) (r : Rp w K H M y v) (hb : H1 Da = none ∨ S1 Da) (hz : YS.length ≤ sizeLine) :
    ∃ acc, H Da = some (.lst acc) ∧ acc.length < sizeLine ∧ CK w K S1 H1 M1 Da YS env σ ys M (upd H Da (.lst (acc ++ [v]))) := by
  obtain ⟨ds, acc, h1, h2, h3⟩ := c.ex
  obtain ⟨s2, e2, k2⟩ := upd_at (o := .lst (acc ++ [v])) (o0 := .lst acc) trivial c.sr h1 c.md c.nd
  refine ⟨acc, h1, ?_, s2, ⟨fun a o e n => ?_, c.ev.mk', c.ev.mo, c.ev.sn, fun a h => e2.al a (c.ev.al a h)⟩, c.md, c.nd, ds ++ [y], acc ++ [v], upd_same, (h2.evo e2 k2).append (.cons (r.evo e2 k2) .nil), by rw [← h3, List.append_assoc]; rfl⟩
  · have l1 := h2.length
    have l2 := congrArg List.length h3
    rw [List.length_append, List.length_cons] at l2
    omega
  · have z : a ≠ Da := fun z => by
      subst z
      rcases hb with q | q
      · rw [e] at q; cases q
      · exact n q
    rw [upd_ne z]
    exact c.ev.keep a o e n
theorem wipe_wipe {σ : L2.St} {vs us : List Nat} (h : ∀ j ∈ us, j ∈ vs) : L2.wipe (L2.wipe σ us) vs = L2.wipe σ vs := by
  apply List.ext_getElem?
  intro j
  by_cases m : j ∈ vs
  · have g : ∀ (σ : L2.St), j < σ.length → (L2.wipe σ vs)[j]? = some none := fun σ hl => by
      have hl2 : j < (L2.wipe σ vs).length := by rw [wipe_length]; exact hl
      cases e : (L2.wipe σ vs)[j] with
      | none => rw [List.getElem?_eq_getElem hl2, e]
      | some v => exact ((wipe_some (vs := vs) (by rw [List.getElem?_eq_getElem hl2, e] : (L2.wipe σ vs)[j]? = some (some v))).2 m).elim
    by_cases hl : j < σ.length
    · rw [g _ hl, g _ (by rw [wipe_length]; exact hl)]
    · rw [List.getElem?_eq_none (by rw [wipe_length, wipe_length]; omega), List.getElem?_eq_none (by rw [wipe_length]; omega)]
  · rw [wipe_out m, wipe_out m, wipe_out fun z => m (h j z)]
theorem wipeE_wipe {env : Ev} {vs us : List Nat} (h : ∀ j ∈ us, j ∈ vs) : wipeE (wipeE env us) vs = wipeE env vs := by
  apply List.ext_getElem?
  intro j
  by_cases m : j ∈ vs
  · have g : ∀ (σ : Ev), j < σ.length → (wipeE σ vs)[j]? = some .no := fun σ hl => by
      have hl2 : j < (wipeE σ vs).length := by rw [wipeE_len]; exact hl
      have e : (wipeE σ vs)[j]? = some (wipeE σ vs)[j] := List.getElem?_eq_getElem hl2
      rcases wipe_get e with ⟨z, _⟩ | ⟨z, _⟩
      · rw [e, z]
      · exact (z m).elim
    by_cases hl : j < env.length
    · rw [g _ hl, g _ (by rw [wipeE_len]; exact hl)]
    · rw [List.getElem?_eq_none (by rw [wipeE_len, wipeE_len]; omega), List.getElem?_eq_none (by rw [wipeE_len]; omega)]
  · rw [wipeE_out m, wipeE_out m, wipeE_out fun z => m (h j z)]
/-- the new list, empty -/
theorem CK.start {vs : List Nat} (sr : SR w K env M σ H) (hD : H Da = none) : CK w K (OwA env σ) H M Da YS (wipeE env vs) (L2.wipe σ vs) YS (fun a => M a ∨ a = Da) (upd H Da (.lst [])) := by
  have sm := same_upd (o := HO.lst []) hD
  have e2 : Evo (OwA env σ) H M (OwA env σ) (upd H Da (.lst [])) (fun a => M a ∨ a = Da) := ⟨fun a o e _ => sm a o e, fun _ _ m _ => .inl m, fun a h m => m.elim id fun z => absurd (z ▸ hD) h, fun _ z => .inl z, fun a h => Mi.al_same sm h⟩
  have e3 : Evo (fun _ => False) H M (fun _ => False) (upd H Da (.lst [])) (fun a => M a ∨ a = Da) := ⟨fun a o e _ => sm a o e, fun _ _ m _ => .inl m, fun a h m => m.elim id fun z => absurd (z ▸ hD) h, fun _ z => z.elim, fun a h => Mi.al_same sm h⟩
  refine CK.wipe ⟨⟨sr.len, fun i d e => ?_, fun i d e => ?_, sr.sep, fun a m => ?_⟩, e2, .inr rfl, fun z => ?_, [], [], upd_same, .nil, rfl⟩ vs
  · obtain ⟨v, q1, q2⟩ := sr.val i d e
    exact ⟨v, q1, q2.evo e3 SOk.none⟩
  · obtain ⟨a, q1, q2, q3⟩ := sr.own i d e
    exact ⟨a, q1, .inl q2, q3.evo e3 SOk.none id⟩
  · rcases m with m | rfl
    · exact Mi.al_same sm (sr.mt a m)
    · rw [upd_same]; exact fun z => by cases z
  · obtain ⟨_, o, e, _⟩ := sr.sok Da z
    rw [hD] at e
    cases e
/-- the new list, made -/
theorem CK.fin {vs : List Nat} {e0 : Ev} (s0 : SR w K e0 M1 σ H1) (no : noOwn e0 vs = true) (hD : H1 Da = none) (c : CK w K (OwA e0 σ) H1 M1 Da YS (wipeE env vs) (L2.wipe σ vs) [] M H) :
    ∃ M', SR w K (back e0 env vs) M' σ H ∧ Evo (OwA e0 σ) H1 M1 (OwA (back e0 env vs) σ) H M' ∧ Rp w K H M' (.list YS) (.ref Da) := by
  obtain ⟨ds, acc, h1, h2, h3⟩ := c.ex
  rw [List.append_nil] at h3
  subst h3
  obtain ⟨s3, o3⟩ := back_sr s0 no c.ev c.sr
  obtain ⟨s4, r4⟩ := done_at s3 h1 (fun z => c.nd (o3 _ z)) h2
  exact ⟨_, s4, ⟨c.ev.keep, fun a h m n => ⟨c.ev.mk' a h m n, fun z => h (z ▸ hD)⟩, fun a h m => c.ev.mo a h m.1, fun a z => c.ev.sn a (o3 a z), c.ev.al⟩, r4⟩
end

section
variable {X : Cx} {cf : CF} {cd : CD}
def tCs (w : World) (K : PySem.W.Frag) (cf : CF) (cd : CD) (cs : List E) : TT := fun σ H Q => ∃ env M b env', SR w K env M σ H ∧ evCs cf cd cs env = some (b, env') ∧
  ∀ H' M', SR w K env' M' σ H' → Evo (OwA env σ) H M (OwA env' σ) H' M' → Q b H'
abbrev QS (X : Cx) (cf : CF) (cd : CD) (es : List Expr) (is : List E) : Prop := PTs X es (tCs X.w X.K cf cd is)
theorem cs_nil : QS X cf cd [] [] := by
  refine ⟨fun pins s σ H Q I ⟨env, M, b, env', sr, ev, k⟩ => ?_⟩
  cases ev
  exact pts_nil.run pins s σ H Q I (k H M sr Evo.rfl')
theorem cs_one {c : Expr} {ic : E} (h : TS_ X cf cd c ic) : QS X cf cd [c] [ic] := by
  refine ⟨fun pins s σ H Q I ⟨env, M, b, env', sr, ev, k⟩ => ?_⟩
  obtain ⟨x, e1, h1, ev⟩ := bnd_inv ev
  cases x <;> first | cases ev | skip
  exact (pts_one h).run pins s σ H Q I ⟨env, M, _, _, sr, h1, k⟩
/-- what a comprehension's reading asks, answered by the evaluator -/
theorem lc_reads {σ : L2.St} {H : Hp} {Q : VK} {own : List Nat} {ie : E} {t : T} {it : It} {cs : List E} {b : Bool} (hj : ∀ j ∈ t.js, j ∈ own) (q : tE X.w X.K cf cd (.comp own ie t it cs) σ H Q) :
    tLc (tI X.w X.K cf cd b it) (gT X.w X.K b t) (tCs X.w X.K cf cd cs) (tE X.w X.K cf cd ie) own σ H Q := by
  obtain ⟨env, M, d, envQ, sr, ev, k⟩ := q
  obtain ⟨xs, env1, h1, ev⟩ := bnd_inv ev
  obtain ⟨no, ev⟩ := gd_some ev
  obtain ⟨YS, ENV, hl, ev⟩ := bnd_inv ev
  obtain ⟨hz, ev⟩ := gd_of ev
  have hz : YS.length ≤ sizeLine := SZ_line ▸ of_decide_eq_true hz
  cases ev
  refine ⟨env, M, xs, env1, sr, h1, fun J H1 M1 sr1 ev1 io Da hD => ?_⟩
  refine ⟨fun i m H2 => m = xs.length - i ∧ i ≤ xs.length ∧ ∃ ei ys Mi, CK X.w X.K (OwA env1 σ) H1 M1 Da YS (wipeE ei own) (wipe σ own) ys Mi H2 ∧ compL own (bindT t) (evCs cf cd cs) (evE cf cd ie) (xs.drop i) ei = some (ys, ENV),
    ⟨xs.length, rfl, Nat.zero_le _, env1, YS, _, CK.start sr1 hD, hl⟩, ?_⟩
  rintro i m H2 ⟨rfl, hi, ei, ys, Mi, ck, hl2⟩
  obtain ⟨io1, io2⟩ := io _ sr1.sok _ H2 Mi ck.ev i
  by_cases hlt : i < xs.length
  · have hx : xs[i]? = some xs[i] := List.getElem?_eq_getElem hlt
    obtain ⟨go, yl⟩ := io2 _ hx
    rw [List.drop_eq_getElem_cons hlt] at hl2
    unfold compL at hl2
    split at hl2
    · cases hl2
    · rename_i eb hb
      obtain ⟨c, ec, hcs, hl2⟩ := bnd_inv hl2
      refine .inr ⟨go, fun H' => ∃ ei ys Mi, CK X.w X.K (OwA env1 σ) H1 M1 Da YS (wipeE ei own) (wipe σ own) ys Mi H' ∧ compL own (bindT t) (evCs cf cd cs) (evE cf cd ie) (xs.drop (i + 1)) ei = some (ys, ENV),
        fun H' z => ⟨xs.length - (i + 1), by omega, rfl, hlt, z⟩, fun v H3 yv => ?_⟩
      obtain ⟨sm3, rw3⟩ := yl v H3 yv
      have c3 := ck.same sm3
      refine ⟨_, Mi, _, eb, c3.sr, rw3, hb, fun σ2 s4 fx => ?_⟩
      have ww : wipe σ2 own = wipe σ own := (fx.wipe hj).trans (wipe_wipe fun j h => h)
      have c4 := c3.fx s4 fx
      refine ⟨ww, eb, Mi, c, ec, s4, hcs, fun H5 M5 s5 e5 => ?_⟩
      have c5 := c4.evo s5 e5
      cases c with
      | false =>
        show (if _ = true then _ else _)
        rw [if_neg Bool.false_ne_true]
        exact ⟨ec, ys, M5, ww ▸ c5.wipe own, hl2⟩
      | true =>
        show (if _ = true then _ else _)
        rw [if_pos rfl]
        obtain ⟨y, ee, he, hl2⟩ := bnd_inv hl2
        obtain ⟨zs, ef, hl2, e⟩ := bnd_inv hl2
        cases e
        refine ⟨ec, M5, y, ee, s5, he, fun u H6 M6 s6 e6 r6 => ?_⟩
        obtain ⟨acc, a1, a2, c7⟩ := (c5.evo s6 e6).app r6 (.inl hD) hz
        exact ⟨acc, a1, a2, ee, zs, M6, ww ▸ c7.wipe own, hl2⟩
  · have e : i = xs.length := by omega
    subst e
    rw [List.drop_length] at hl2
    cases hl2
    refine .inl ⟨io1 (Nat.le_refl _) rfl, ?_⟩
    obtain ⟨M', s4, e4, r4⟩ := CK.fin sr1 no hD ck
    exact k _ H2 _ s4 (ev1.trans e4) r4
/-- [e for t in it if ..] -/
theorem es_comp {elt tg iter : Expr} {ifs : List Expr} {scope : Scope} {own : List (Str × Nat)} {pos : Pos} {ie : E} {t : T} {it : It} {cs : List E} {b : Bool} (hc : X.calm = true) (hN : X.N.Nodup) (hi : IS X cf cd b tg iter it) (ok : BlkOk X.N X.env.scope scope own)
    (hg : ∀ (s : Shared) (H : Hp) (C : Addr) (cl : List (Str × Addr)) (fp : List Addr), PG (X.blk s H scope (compEnvC scope cl C X.env) fp) tg (gT X.w X.K b t)) (ht : ∀ (s : Shared) (H : Hp) (C : Addr) (cl : List (Str × Addr)) (fp : List Addr), QS (X.blk s H scope (compEnvC scope cl C X.env) fp) cf cd ifs cs)
    (he : ∀ (s : Shared) (H : Hp) (C : Addr) (cl : List (Str × Addr)) (fp : List Addr), ES (X.blk s H scope (compEnvC scope cl C X.env) fp) cf cd elt ie) (hs : ∀ x, foldedSetIterable iter X.env x = pure x)
    (hj : ∀ j ∈ t.js, j ∈ own.map (·.2)) : ES X cf cd (.ListComp elt [⟨tg, iter, ifs, 0⟩] scope pos) (.comp (own.map (·.2)) ie t it cs) :=
  PE.imp (pe_lc hc hN hi ok hg ht he hs) fun σ H Q q => lc_reads hj q
/-- two clauses -/
theorem lc2_reads {σ : L2.St} {H : Hp} {Q : VK} {own own2 : List Nat} {ie : E} {t t2 : T} {it it2 : It} {b b2 : Bool} (hj : ∀ j ∈ t.js, j ∈ own) (hj2 : ∀ j ∈ t2.js, j ∈ own2) (hv : ∀ j ∈ own2, j ∈ own) (q : tE X.w X.K cf cd (.comp2 own own2 ie t it t2 it2) σ H Q) :
    tLc2 (tI X.w X.K cf cd b it) (gT X.w X.K b t) tYes (tI X.w X.K cf cd b2 it2) (gT X.w X.K b2 t2) tYes (tE X.w X.K cf cd ie) own own2 σ H Q := by
  obtain ⟨env, M, d, envQ, sr, ev, k⟩ := q
  obtain ⟨xs, env1, h1, ev⟩ := bnd_inv ev
  obtain ⟨no, ev⟩ := gd_some ev
  obtain ⟨YS, ENV, hl, ev⟩ := bnd_inv ev
  obtain ⟨hz, ev⟩ := gd_of ev
  have hz : YS.length ≤ sizeLine := SZ_line ▸ of_decide_eq_true hz
  cases ev
  refine ⟨env, M, xs, env1, sr, h1, fun J H1 M1 sr1 ev1 io Da hD => ?_⟩
  refine ⟨fun i m H2 => m = xs.length - i ∧ i ≤ xs.length ∧ ∃ ei ys Mi, CK X.w X.K (OwA env1 σ) H1 M1 Da YS (wipeE ei own) (wipe σ own) ys Mi H2 ∧ comp2L own own2 (bindT t) (evI cf cd it2) (bindT t2) (evE cf cd ie) (xs.drop i) ei = some (ys, ENV),
    ⟨xs.length, rfl, Nat.zero_le _, env1, YS, _, CK.start sr1 hD, hl⟩, ?_⟩
  rintro i m H2 ⟨rfl, hi, ei, ys, Mi, ck, hl2⟩
  obtain ⟨io1, io2⟩ := io _ sr1.sok _ H2 Mi ck.ev i
  by_cases hlt : i < xs.length
  · have hx : xs[i]? = some xs[i] := List.getElem?_eq_getElem hlt
    obtain ⟨go, yl⟩ := io2 _ hx
    rw [List.drop_eq_getElem_cons hlt] at hl2
    unfold comp2L at hl2
    split at hl2
    · cases hl2
    · rename_i eb hb
      obtain ⟨us, ec, hcs, hl2⟩ := bnd_inv hl2
      obtain ⟨zs, ed, hzs, hl2⟩ := bnd_inv hl2
      obtain ⟨ws, ef, hws, hl2⟩ := bnd_inv hl2
      cases hl2
      refine .inr ⟨go, fun H' => ∃ ei ys Mi, CK X.w X.K (OwA env1 σ) H1 M1 Da YS (wipeE ei own) (wipe σ own) ys Mi H' ∧ comp2L own own2 (bindT t) (evI cf cd it2) (bindT t2) (evE cf cd ie) (xs.drop (i + 1)) ei = some (ys, ENV),
        fun H' z => ⟨xs.length - (i + 1), by omega, rfl, hlt, z⟩, fun v H3 yv => ?_⟩
      obtain ⟨sm3, rw3⟩ := yl v H3 yv
      have c3 := ck.same sm3
      refine ⟨_, Mi, _, eb, c3.sr, rw3, hb, fun σ2 s4 fx => ?_⟩
      have ww : wipe σ2 own = wipe σ own := (fx.wipe hj).trans (wipe_wipe fun j h => h)
      have c4 := c3.fx s4 fx
      refine ⟨ww, ?_⟩
      simp only [tYes, if_true]
      refine ⟨eb, Mi, us, ec, s4, hcs, fun J2 H5 M5 s5 e5 jo => ?_⟩
      have c5 := c4.evo s5 e5
      obtain ⟨ds5, acc5, a5, r5, q5⟩ := c5.ex
      have sok5 : SOk (fun a => OwA ec σ2 a ∨ a = Da) H5 M5 := fun a h => h.elim (s5.sok a) fun z => z ▸ ⟨c5.md, _, a5, trivial⟩
      -- the same list, told from the inner loop's start
      have base : CK X.w X.K (fun a => OwA ec σ2 a ∨ a = Da) H5 M5 Da YS ec σ2 (zs ++ ws) M5 H5 := ⟨s5, ⟨fun _ _ h _ => h, fun _ _ h _ => h, fun _ _ h => h, fun _ h => .inl (.inl h), fun _ h => h⟩, c5.md, c5.nd, c5.ex⟩
      refine ⟨fun j m H6 => m = us.length - j ∧ j ≤ us.length ∧ ∃ ei rs Mi, CK X.w X.K (OwA env1 σ) H1 M1 Da YS (wipeE ei own2) (wipe σ2 own2) (rs ++ ws) Mi H6 ∧ CK X.w X.K (fun a => OwA ec σ2 a ∨ a = Da) H5 M5 Da YS (wipeE ei own2) (wipe σ2 own2) (rs ++ ws) Mi H6 ∧
        compL own2 (bindT t2) (fun e => some (true, e)) (evE cf cd ie) (us.drop j) ei = some (rs, ed), ⟨us.length, rfl, Nat.zero_le _, ec, zs, M5, c5.wipe own2, base.wipe own2, hzs⟩, ?_⟩
      rintro j m H6 ⟨rfl, hj', ej, rs, Mj, k1, k2, hl3⟩
      obtain ⟨jo1, jo2⟩ := jo _ sok5 _ H6 Mj k2.ev j
      by_cases hlt2 : j < us.length
      · have hx2 : us[j]? = some us[j] := List.getElem?_eq_getElem hlt2
        obtain ⟨go2, yl2⟩ := jo2 _ hx2
        rw [List.drop_eq_getElem_cons hlt2] at hl3
        unfold compL at hl3
        split at hl3
        · cases hl3
        · rename_i eb2 hb2
          obtain ⟨c, ec2, hcs2, hl3⟩ := bnd_inv hl3
          cases hcs2
          obtain ⟨y, ee, he, hl3⟩ := bnd_inv hl3
          obtain ⟨qs, eg, hl3, e⟩ := bnd_inv hl3
          cases e
          refine .inr ⟨go2, fun H' => ∃ ei rs Mi, CK X.w X.K (OwA env1 σ) H1 M1 Da YS (wipeE ei own2) (wipe σ2 own2) (rs ++ ws) Mi H' ∧ CK X.w X.K (fun a => OwA ec σ2 a ∨ a = Da) H5 M5 Da YS (wipeE ei own2) (wipe σ2 own2) (rs ++ ws) Mi H' ∧
            compL own2 (bindT t2) (fun e => some (true, e)) (evE cf cd ie) (us.drop (j + 1)) ei = some (rs, ed), fun H' z => ⟨us.length - (j + 1), by omega, rfl, hlt2, z⟩, fun v H7 yv => ?_⟩
          obtain ⟨sm7, rw7⟩ := yl2 v H7 yv
          have k3 := k1.same sm7
          have k4 := k2.same sm7
          refine ⟨_, Mj, _, _, k3.sr, rw7, hb2, fun σ3 s8 fx2 => ?_⟩
          have ww2 : wipe σ3 own2 = wipe σ2 own2 := (fx2.wipe hj2).trans (wipe_wipe fun j h => h)
          refine ⟨ww2, ?_⟩
          simp only [tYes, if_true]
          refine ⟨_, Mj, y, ee, s8, he, fun u H9 M9 s9 e9 r9 => ?_⟩
          obtain ⟨acc, a1, a2, k7⟩ := ((k3.fx s8 fx2).evo s9 e9).app r9 (.inl hD) hz
          obtain ⟨acc', a1', a2', k8⟩ := ((k4.fx s8 fx2).evo s9 e9).app r9 (.inr (.inr rfl)) hz
          rw [a1] at a1'
          cases a1'
          exact ⟨acc, a1, a2, ee, qs, M9, ww2 ▸ k7.wipe own2, ww2 ▸ k8.wipe own2, hl3⟩
      · have e : j = us.length := by omega
        subst e
        rw [List.drop_length] at hl3
        cases hl3
        refine .inl ⟨jo1 (Nat.le_refl _) rfl, _, ws, Mj, ?_, hws⟩
        have k9 := k1.wipe own
        rw [wipeE_wipe hv, wipe_wipe hv, ww] at k9
        exact k9
  · have e : i = xs.length := by omega
    subst e
    rw [List.drop_length] at hl2
    cases hl2
    refine .inl ⟨io1 (Nat.le_refl _) rfl, ?_⟩
    obtain ⟨M', s4, e4, r4⟩ := CK.fin sr1 no hD ck
    exact k _ H2 _ s4 (ev1.trans e4) r4
end
end Mi
end
section
set_option Elab.async false
set_option linter.all false
set_option maxRecDepth 100000
set_option maxHeartbeats 1000000
/-! S6a: right sides of assignments: values, new objects of the frame's own. -/
namespace Mi
open PySem PySem.Spec PyProof.Rows L2

/-- what is to be put into a slot: a value, or an object just made (not there in H0), in no slot yet -/
inductive SlR (w : World) (K : PySem.W.Frag) (H0 : Hp) (env : Ev) (σ : L2.St) (H : Hp) (M : Addr → Prop) : Sl → V → Prop where
  | val {d : D} {v : V} : Rp w K H M d v → SlR w K H0 env σ H M (.val d) v
  | own {d : D} {a : Addr} : H0 a = none → M a → Ow w K H M d a → ¬ OwA env σ a → SlR w K H0 env σ H M (.own d) (.ref a)
section
variable {w : World} {K : PySem.W.Frag} {H0 H H' : Hp} {env env' : Ev} {σ : L2.St} {M M' : Addr → Prop} {s : Sl} {v : V}
theorem SlR.evo (r : SlR w K H0 env σ H M s v) (e : Evo (OwA env σ) H M (OwA env' σ) H' M') (sok : SOk (OwA env σ) H M) : SlR w K H0 env' σ H' M' s v := by
  cases r with
  | val r => exact .val (r.evo e sok)
  | own h m o n =>
    obtain ⟨x, hx, _⟩ := o.isOw
    exact .own h (e.mk' _ (some_ne hx) m n) (o.evo e sok n) fun z => (e.sn _ z).elim n fun q => some_ne hx q
theorem SlR.old {H00 : Hp} (al : ∀ a, H00 a ≠ none → H0 a ≠ none) (r : SlR w K H0 env σ H M s v) : SlR w K H00 env σ H M s v := by
  cases r with
  | val r => exact .val r
  | own h m o n => exact .own (by
      rename_i a
      cases q : H00 a with
      | none => rfl
      | some x => exact absurd h (al a (some_ne q))) m o n
/-- into a slot -/
theorem SlR.put (sr : SR w K env M σ H) (r : SlR w K H0 env σ H M s v) (i : Nat) :
    SR w K (env.set i s) M (σ.set i (some v)) H ∧ (∀ a, OwA (env.set i s) (σ.set i (some v)) a → OwA env σ a ∨ (H0 a = none ∧ v = .ref a ∧ ∃ d, s = .own d)) := by
  have oo : ∀ a, OwA (env.set i s) (σ.set i (some v)) a → OwA env σ a ∨ (H0 a = none ∧ v = .ref a ∧ ∃ d, s = .own d) := by
    rintro a ⟨j, x, h1, h2⟩
    rcases set_get h1 with ⟨rfl, z, hl⟩ | ⟨n, h1⟩
    · rw [List.getElem?_set_self (by rw [← sr.len]; exact hl)] at h2
      cases h2
      subst z
      cases r with
      | own h m o n => exact .inr ⟨h, rfl, _, rfl⟩
    · rw [List.getElem?_set_ne (Ne.symm n)] at h2
      exact .inl ⟨j, x, h1, h2⟩
  refine ⟨⟨by rw [List.length_set, List.length_set]; exact sr.len, fun j x h => ?_, fun j x h => ?_, fun j l x y a h1 h2 h3 h4 => ?_, sr.mt⟩, oo⟩
  · rcases set_get h with ⟨rfl, z, hl⟩ | ⟨n, h⟩
    · subst z
      cases r with
      | val r => exact ⟨v, List.getElem?_set_self (by rw [← sr.len]; exact hl), r⟩
    · rw [List.getElem?_set_ne (Ne.symm n)]
      exact sr.val j x h
  · rcases set_get h with ⟨rfl, z, hl⟩ | ⟨n, h⟩
    · subst z
      cases r with
      | own h m o n => exact ⟨_, List.getElem?_set_self (by rw [← sr.len]; exact hl), m, o⟩
    · rw [List.getElem?_set_ne (Ne.symm n)]
      exact sr.own j x h
  · -- two slots, one address
    rcases set_get h1 with ⟨rfl, z, hl⟩ | ⟨n, g1⟩
    · rcases set_get h2 with ⟨rfl, z2, _⟩ | ⟨n2, g2⟩
      · rfl
      · subst z
        rw [List.getElem?_set_self (by rw [← sr.len]; exact hl)] at h3
        rw [List.getElem?_set_ne (Ne.symm n2)] at h4
        cases h3
        cases r with
        | own h m o no => exact (no ⟨l, y, g2, h4⟩).elim
    · rcases set_get h2 with ⟨rfl, z2, hl⟩ | ⟨n2, g2⟩
      · subst z2
        rw [List.getElem?_set_self (by rw [← sr.len]; exact hl)] at h4
        rw [List.getElem?_set_ne (Ne.symm n)] at h3
        cases h4
        cases r with
        | own h m o no => exact (no ⟨j, x, g1, h3⟩).elim
      · rw [List.getElem?_set_ne (Ne.symm n)] at h3
        rw [List.getElem?_set_ne (Ne.symm n2)] at h4
        exact sr.sep j l x y a g1 g2 h3 h4
end
section
variable (w : World) (K : PySem.W.Frag) (cf : CF) (cd : CD)
def tRh (o : O) : TE := fun σ H Q => ∃ env M s env', SR w K env M σ H ∧ evOs cf cd o env = some (s, env') ∧
  ∀ v H' M', SR w K env' M' σ H' → Evo (OwA env σ) H M (OwA env' σ) H' M' → SlR w K H env' σ H' M' s v → Q v H'
end
abbrev OSl (X : Cx) (cf : CF) (cd : CD) (e : Expr) (o : O) : Prop := PE X e (tRh X.w X.K cf cd o)
/-- a new object beside all that is known -/
theorem new_own {w : World} {K : PySem.W.Frag} {env : Ev} {M : Addr → Prop} {σ : L2.St} {H : Hp} {p : Addr} {ob : HO} (sr : SR w K env M σ H) (hp : H p = none) :
    SR w K env (fun a => M a ∨ a = p) σ (upd H p ob) ∧ Evo (OwA env σ) H M (OwA env σ) (upd H p ob) (fun a => M a ∨ a = p) ∧ ¬ OwA env σ p ∧ ∀ {d : D} {v : V}, Rp w K H M d v → Rp w K (upd H p ob) (fun a => M a ∨ a = p) d v := by
  have sm := same_upd (o := ob) hp
  have e2 : Evo (OwA env σ) H M (OwA env σ) (upd H p ob) (fun a => M a ∨ a = p) := ⟨fun a o e _ => sm a o e, fun _ _ m _ => .inl m, fun a h m => m.elim id fun z => absurd (z ▸ hp) h, fun _ z => .inl z, fun a h => Mi.al_same sm h⟩
  have e3 : Evo (fun _ => False) H M (fun _ => False) (upd H p ob) (fun a => M a ∨ a = p) := ⟨fun a o e _ => sm a o e, fun _ _ m _ => .inl m, fun a h m => m.elim id fun z => absurd (z ▸ hp) h, fun _ z => z.elim, fun a h => Mi.al_same sm h⟩
  refine ⟨⟨sr.len, fun i d e => ?_, fun i d e => ?_, sr.sep, fun a m => ?_⟩, e2, fun z => ?_, fun r => r.evo e3 SOk.none⟩
  · obtain ⟨v, q1, q2⟩ := sr.val i d e
    exact ⟨v, q1, q2.evo e3 SOk.none⟩
  · obtain ⟨a, q1, q2, q3⟩ := sr.own i d e
    exact ⟨a, q1, .inl q2, q3.evo e3 SOk.none id⟩
  · rcases m with m | rfl
    · exact Mi.al_same sm (sr.mt a m)
    · rw [upd_same]; exact fun z => by cases z
  · obtain ⟨_, o, e, _⟩ := sr.sok p z
    rw [hp] at e
    cases e
theorem none_of {H H' : Hp} {p : Addr} (al : ∀ a, H a ≠ none → H' a ≠ none) (h : H' p = none) : H p = none := by
  cases q : H p with
  | none => rfl
  | some x => exact absurd h (al p (some_ne q))
theorem Evo.updF {S S' M M' : Addr → Prop} {H H' : Hp} {p : Addr} {o : HO} (e : Evo S H M S' H' M') (hp : H p = none) : Evo S H M S' (upd H' p o) M' :=
  ⟨fun a x h n => by rw [upd_ne (show a ≠ p from fun z => some_ne h (z ▸ hp))]; exact e.keep a x h n, e.mk', e.mo, e.sn, fun a h => by rw [upd_ne (show a ≠ p from fun z => h (z ▸ hp))]; exact e.al a h⟩
section
variable {X : Cx} {cf : CF} {cd : CD} {a b : Expr} {ia ib : E} {pos : Pos} {es : List Expr} {is : List E}
theorem os_e (h : ES X cf cd a ia) : OSl X cf cd a (.e ia) := PE.imp h fun σ H Q ⟨env, M, s, env', sr, ev, k⟩ => by
  obtain ⟨d, e1, h1, ev⟩ := bnd_inv ev
  cases ev
  exact ⟨env, M, d, _, sr, h1, fun v H' M' sr' ev' r => k v H' M' sr' ev' (.val r)⟩
theorem os_lst (h : EsS X cf cd es is) : OSl X cf cd (.List es pos) (.lst is) := by
  refine PE.imp (pe_lst h) fun σ H Q ⟨env, M, s, env', sr, ev, k⟩ => ?_
  obtain ⟨ds, e1, h1, ev⟩ := bnd_inv ev
  obtain ⟨hz, ev⟩ := gd_of ev
  cases ev
  refine ⟨env, M, ds, _, sr, h1, fun vs H1 M1 sr1 ev1 r1 => ⟨by rw [← r1.length]; exact SZ_line ▸ of_decide_eq_true hz, fun p hp => ?_⟩⟩
  obtain ⟨s2, e2, n2, r2⟩ := new_own (ob := .lst vs) sr1 hp
  have e3 : Evo (fun _ => False) H1 M1 (fun _ => False) (upd H1 p (.lst vs)) (fun a => M1 a ∨ a = p) := ⟨fun a o e _ => same_upd hp a o e, fun _ _ m _ => .inl m, fun a h m => m.elim id fun z => absurd (z ▸ hp) h, fun _ z => z.elim, fun a h => Mi.al_same (same_upd hp) h⟩
  exact k (.ref p) _ _ s2 (ev1.trans e2) (.own (none_of ev1.al hp) (.inr rfl) (.lst upd_same (r1.evo e3 SOk.none)) n2)
theorem raw_nil (h : Heap) (hb : sysModules < h.objs.size) : RawAt h.objs.size [] (h.push { cls := .type "dict", data := .dict #[] }) :=
  ⟨beq_eq_false_iff_ne.mpr (Ne.symm (Nat.ne_of_lt hb)), Nat.zero_le _, _, #[], 0, Heap.get?_push_size _ rfl, ⟨rfl, rfl, rfl⟩, rfl, .nil⟩
theorem os_d0 : OSl X cf cd (.Dict [] [] pos) (.dct []) := by
  refine ⟨fun pins s σ H Q I ⟨env, M, sl, env', sr, ev, k⟩ => ?_⟩
  cases ev
  have hp := I.hok.fresh (Nat.le_refl s.heap.objs.size)
  obtain ⟨s2, e2, n2, r2⟩ := new_own (ob := dO s.heap.objs.size []) sr hp
  exact wpAny_Dict_empty ⟨.ref s.heap.objs.size, _, I.laid (a := s.heap.objs.size) (o := dO s.heap.objs.size []) (t' := s.toks) (fun _ _ q => Heap.get?_push_of_some _ q) (Nat.le_refl _) (raw_nil s.heap I.big).ok, rfl,
    k (.ref _) _ _ s2 e2 (.own hp (.inr rfl) (.dct upd_same .nil List.nodup_nil) n2)⟩
theorem os_d1 (hu : X.A.units + 16 < cLine) (ha : ES X cf cd a ia) (hb : ES X cf cd b ib) : OSl X cf cd (.Dict [some a] [b] pos) (.dct [(ia, ib)]) := by
  refine ⟨fun pins s σ H Q I ⟨env, M, sl, env', sr, ev, k⟩ => ?_⟩
  obtain ⟨x, e1, h1, ev⟩ := bnd_inv ev
  obtain ⟨y, e2, h2, ev⟩ := bnd_inv ev
  obtain ⟨ht, ev⟩ := gd_of ev
  cases ev
  have hp := I.hok.fresh (Nat.le_refl s.heap.objs.size)
  obtain ⟨s2, v2, n2, r2⟩ := new_own (ob := dO s.heap.objs.size []) sr hp
  have I1 := I.laid (a := s.heap.objs.size) (o := dO s.heap.objs.size []) (h' := s.heap.push { cls := .type "dict", data := .dict #[] }) (t' := s.toks) (fun _ _ q => Heap.get?_push_of_some _ q) (Nat.le_refl _) (raw_nil s.heap I.big).ok
  obtain ⟨nk, q1, q2⟩ := isTup_of ht
  rw [arm_eval_Dict]
  have hsh : (evalEachOpt [some a] X.env).zip ((evalEach [b] X.env).map fun v => do let x ← v; standAt pos; pure x) = [(eval a X.env, do let x ← eval b X.env; standAt pos; pure x)].map fun p => (some p.1, p.2) := rfl
  rw [hsh, dictDisplay_pairs _ (by simp) (by simp)]
  refine wpAny_bind (wpAny_standAt (wpAny_bind (wpAny_subDictH (knd := nestedKind X.prog X.w) (by show X.A.units + 8 < cLine; omega) (by simp) ?_)))
  refine evalPairs_cons (thn (ha.run pins _ σ _ (fun v H1 => ∃ M1, SR X.w X.K e1 M1 σ H1 ∧ Evo (OwA env σ) (upd H s.heap.objs.size (dO s.heap.objs.size [])) (fun c => M c ∨ c = s.heap.objs.size) (OwA e1 σ) H1 M1 ∧ Rp X.w X.K H1 M1 x v) I1
    (step1 s2 h1 fun v H1 M1 sr1 ev1 r1 => ⟨M1, sr1, ev1, r1⟩)) fun u s3 ⟨v, H3, I3, rv, M3, sr3, ev3, r3⟩ => ?_)
  refine wpAny_bind (thn (hb.run pins _ σ _ (fun v H1 => ∃ M1, SR X.w X.K env' M1 σ H1 ∧ Evo (OwA e1 σ) H3 M3 (OwA env' σ) H1 M1 ∧ Rp X.w X.K H1 M1 y v) I3 (step1 sr3 h2 fun v H1 M1 sr1 ev1 r1 => ⟨M1, sr1, ev1, r1⟩)) fun u' s4 ⟨v', H4, I4, rv', M4, sr4, ev4, r4⟩ => ?_)
  refine wpAny_bind (wpAny_standAt (wpAny_pure (evalPairs_nil ?_)))
  have v4 := v2.trans (ev3.trans ev4)
  -- the new dict stands empty
  have d3 := ev3.keep _ _ upd_same n2
  have n3 : ¬ OwA e1 σ s.heap.objs.size := fun z => (ev3.sn _ z).elim n2 fun q => some_ne upd_same q
  have d4 := ev4.keep _ _ d3 n3
  have n4 : ¬ OwA env' σ s.heap.objs.size := fun z => (ev4.sn _ z).elim n3 fun q => some_ne d3 q
  have m4 : M4 s.heap.objs.size := ev4.mk' _ (some_ne d3) (ev3.mk' _ (some_ne upd_same) (.inr rfl) n2) n3
  have r3' := r3.evo ev4 sr3.sok
  obtain ⟨ka, rfl⟩ := isTup_ref ht r3'
  cases rv
  obtain ⟨ys, p, hm, hz2, hd⟩ := tOf (kvs := []) I4 (.inl d4) (M := M4) .nil List.nodup_nil rfl
  cases p
  refine ⟨[(nk, ka, u')], ⟨rfl, rfl, ⟨r3'.nested I4 rfl q1, q2⟩, trivial⟩, hm, fun h' tk hm' sb => ?_⟩
  have e0 : storedAllH [] [(nk, ka, u')] = storedH [] nk ka u' := rfl
  rw [e0] at hm'
  have p' := RT.put (w := X.w) (K := X.K) (H := H4) (M := M4) (kvs := []) (ys := []) (k := x) (v := y) q1 q2 r3' r4 rv' .nil List.nodup_nil
  obtain ⟨xs', r', pr⟩ := ofRT (P := X.prog) p'
  obtain ⟨o, es, ep, ho, hc, hdat, hes, his, hnd⟩ := hm'
  refine wpAny_pure ⟨.ref s.heap.objs.size, _, dWrite (t' := tk) I4 d4 sb ⟨hd, by rw [← r'.length]; show 1 ≤ sizeLine; decide, o, es, ep, ho, hc, hdat, by rw [hes]; exact pr⟩, rfl, ?_⟩
  obtain ⟨s5, v5, k5⟩ := upd_at (o := dO s.heap.objs.size xs') (o0 := dO s.heap.objs.size []) trivial sr4 d4 m4 n4
  refine k (.ref _) _ M4 s5 (v4.updF hp) (.own hp m4 (.dct upd_same (r'.evo v5 k5) ?_) n4)
  show Nd (dPut [] x y)
  rw [Nd, p'.nd]
  exact some_nodup hnd
end
end Mi
end
section
set_option Elab.async false
set_option linter.all false
set_option maxRecDepth 100000
set_option maxHeartbeats 1000000
/-! S6b: statements. -/
namespace Mi
open PySem PySem.Spec PyProof.Rows L2

mutual
def S.js : S → List Nat
  | .asg i _ => [i]
  | .par is _ => is
  | .unp t _ => t.js
  | .app _ _ => []
  | .seti _ _ _ => []
  | .pop j _ => [j]
  | .iff _ a b => S.jss a ++ S.jss b
  | .for_ t _ b => t.js ++ S.jss b
  | .whl _ _ b => S.jss b
  | .ret _ => []
  | .ex _ => []
  | .rse => []
def S.jss : List S → List Nat
  | [] => []
  | s :: r => s.js ++ S.jss r
end
/-- the other slots stand -/
def Stay (js : List Nat) (σ σ' : L2.St) : Prop := σ'.length = σ.length ∧ ∀ j, j ∉ js → σ'[j]? = σ[j]?
theorem Stay.rfl' {js : List Nat} {σ : L2.St} : Stay js σ σ := ⟨rfl, fun _ _ => rfl⟩
theorem Stay.trans {js ks ls : List Nat} {σ s1 s2 : L2.St} (a : Stay js σ s1) (b : Stay ks s1 s2) (h1 : ∀ j ∈ js, j ∈ ls) (h2 : ∀ j ∈ ks, j ∈ ls) : Stay ls σ s2 := ⟨b.1.trans a.1, fun j n => (b.2 j fun z => n (h2 j z)).trans (a.2 j fun z => n (h1 j z))⟩
theorem Stay.set {σ : L2.St} {i : Nat} {o : Option V} : Stay [i] σ (σ.set i o) := ⟨List.length_set, fun j n => List.getElem?_set_ne fun z => n (by simp [z])⟩
/-- what the evaluator's end of a statement promises of a state -/
def Goal (w : World) (K : PySem.W.Frag) (js : List Nat) (S : Addr → Prop) (H : Hp) (M : Addr → Prop) (σ : L2.St) (D : Ends) : Fl → Prop
  | .nx env' => ∀ σ' H' M', SR w K env' M' σ' H' → Evo S H M (OwA env' σ') H' M' → Stay js σ σ' → D.nx σ' H'
  | .rt d env' => ∀ v σ' H' M', SR w K env' M' σ' H' → Evo S H M (OwA env' σ') H' M' → Stay js σ σ' → Rp w K H' M' d v → D.rt v H'
section
variable (w : World) (K : PySem.W.Frag) (cf : CF) (cd : CD)
def tSt (s : S) : TS := fun D σ H => ∃ env M fl, SR w K env M σ H ∧ evS cf cd s env = some fl ∧ Goal w K s.js (OwA env σ) H M σ D fl
def tSts (ss : List S) : TS := fun D σ H => ∃ env M fl, SR w K env M σ H ∧ evSs cf cd ss env = some fl ∧ Goal w K (S.jss ss) (OwA env σ) H M σ D fl
end
abbrev SS (X : Cx) (cf : CF) (cd : CD) (st : Stmt) (s : S) : Prop := PS X st (tSt X.w X.K cf cd s)
abbrev SSs (X : Cx) (cf : CF) (cd : CD) (st : List Stmt) (s : List S) : Prop := PSs X st (tSts X.w X.K cf cd s)
theorem PS.imp {X : Cx} {st : Stmt} {t t' : TS} (h : PS X st t) (f : ∀ D σ H, t' D σ H → t D σ H) : PS X st t' := ⟨fun pins s σ H D I q => h.run pins s σ H D I (f D σ H q)⟩
theorem PSs.imp {X : Cx} {st : List Stmt} {t t' : TS} (h : PSs X st t) (f : ∀ D σ H, t' D σ H → t D σ H) : PSs X st t' := ⟨fun pins s σ H D I q => h.run pins s σ H D I (f D σ H q)⟩

section
variable {X : Cx} {cf : CF} {cd : CD} {a b c e : Expr} {ia ib ic ie : E} {pos : Pos}
theorem sss_nil : SSs X cf cd [] [] := PSs.imp pss_nil fun D σ H ⟨env, M, fl, sr, ev, k⟩ => by
  cases ev
  exact k σ H M sr Evo.rfl' Stay.rfl'
theorem Goal.later {w : World} {K : PySem.W.Frag} {js js' ks : List Nat} {S S' M M' : Addr → Prop} {H H' : Hp} {σ σ' : L2.St} {D : Ends} {fl : Fl} (g : Goal w K js S H M σ D fl) (e : Evo S H M S' H' M') (st : Stay ks σ σ') (h1 : ∀ j ∈ ks, j ∈ js) (h2 : ∀ j ∈ js', j ∈ js) : Goal w K js' S' H' M' σ' D fl := by
  cases fl with
  | nx env => exact fun σ2 H2 M2 sr2 e2 s2 => g σ2 H2 M2 sr2 (e.trans e2) (st.trans s2 h1 h2)
  | rt d env => exact fun v σ2 H2 M2 sr2 e2 s2 r2 => g v σ2 H2 M2 sr2 (e.trans e2) (st.trans s2 h1 h2) r2
theorem sss_cons {st : Stmt} {sts : List Stmt} {s : S} {ss : List S} (h1 : SS X cf cd st s) (h2 : SSs X cf cd sts ss) : SSs X cf cd (st :: sts) (s :: ss) := by
  refine PSs.imp (pss_cons h1 h2) fun D σ H ⟨env, M, fl, sr, ev, k⟩ => ?_
  unfold evSs at ev
  have m1 : ∀ j ∈ s.js, j ∈ S.jss (s :: ss) := fun j h => List.mem_append_left _ h
  have m2 : ∀ j ∈ S.jss ss, j ∈ S.jss (s :: ss) := fun j h => List.mem_append_right _ h
  split at ev
  · rename_i e1 he
    exact ⟨env, M, .nx e1, sr, he, fun σ' H' M' sr' e' s' => ⟨e1, M', fl, sr', ev, k.later e' s' m1 m2⟩⟩
  · rename_i d e1 he
    cases ev
    exact ⟨env, M, .rt d e1, sr, he, fun v σ' H' M' sr' e' s' r => k v σ' H' M' sr' e' (s'.trans Stay.rfl' m1 m2) r⟩
  · cases ev
theorem ss_ret (h : ES X cf cd e ie) : SS X cf cd (.Return (some e) pos) (.ret ie) := PS.imp (ps_ret h) fun D σ H ⟨env, M, fl, sr, ev, k⟩ => by
  obtain ⟨d, e1, h1, ev⟩ := bnd_inv ev
  cases ev
  exact step1 sr h1 fun v H' M' sr' e' r => k v σ H' M' sr' e' Stay.rfl' r
theorem ss_ex (h : ES X cf cd e ie) (hs : swapsWith e none pos.line X.env = pure false) : SS X cf cd (.Expr e pos) (.ex ie) := PS.imp (ps_expr h hs) fun D σ H ⟨env, M, fl, sr, ev, k⟩ => by
  unfold evS at ev
  obtain ⟨d, e1, h1, ev⟩ := bnd_inv ev
  cases ev
  exact step1 sr h1 fun v H' M' sr' e' r => k σ H' M' sr' e' Stay.rfl'
theorem ss_if {st1 st2 : List Stmt} {s1 s2 : List S} (hc : TS_ X cf cd c ic) (h1 : SSs X cf cd st1 s1) (h2 : SSs X cf cd st2 s2) : SS X cf cd (.If c st1 st2 pos) (.iff ic s1 s2) := by
  refine PS.imp (ps_if hc h1 h2) fun D σ H ⟨env, M, fl, sr, ev, k⟩ => ?_
  unfold evS at ev
  obtain ⟨x, e1, hx, ev⟩ := bnd_inv ev
  cases x <;> first | cases ev | skip
  rename_i c
  refine ⟨env, M, c, e1, sr, hx, fun H1 M1 sr1 ev1 => ?_⟩
  cases c with
  | true =>
    rw [if_pos rfl]
    exact ⟨e1, M1, fl, sr1, ev, k.later ev1 (Stay.rfl' (js := [])) (by simp) fun j h => List.mem_append_left _ h⟩
  | false =>
    rw [if_neg Bool.false_ne_true]
    exact ⟨e1, M1, fl, sr1, ev, k.later ev1 (Stay.rfl' (js := [])) (by simp) fun j h => List.mem_append_right _ h⟩
/-- the state behind an assignment -/
theorem put_goal {S M : Addr → Prop} {H H' : Hp} {M' : Addr → Prop} {env : Ev} {σ : L2.St} {s : Sl} {v : V} {i : Nat} (e : Evo S H M (OwA env σ) H' M') (o : ∀ a, OwA (env.set i s) (σ.set i (some v)) a → OwA env σ a ∨ (H a = none ∧ v = .ref a ∧ ∃ d, s = .own d)) :
    Evo S H M (OwA (env.set i s) (σ.set i (some v))) H' M' := ⟨e.keep, e.mk', e.mo, fun a z => (o a z).elim (e.sn a) fun q => .inr q.1, e.al⟩
theorem asg_reads {D : Ends} {σ : L2.St} {H : Hp} {i : Nat} {o : O} (q : tSt X.w X.K cf cd (.asg i o) D σ H) : tAsg (tRh X.w X.K cf cd o) (gName i) D σ H := by
  obtain ⟨env, M, fl, sr, ev, k⟩ := q
  unfold evS at ev
  obtain ⟨s, e1, h1, ev⟩ := bnd_inv ev
  cases ev
  refine ⟨env, M, s, e1, sr, h1, fun v H' M' sr' e' r => ?_⟩
  obtain ⟨s2, o2⟩ := r.put sr' i
  exact k _ H' M' s2 (put_goal e' o2) Stay.set
theorem ss_asg {i : Nat} {x : Str} {o : O} {p : Pos} (hN : X.N.Nodup) (hi : X.N[i]? = some x) (hx : Loc X.env.scope x) (hf : X.fn x = true ∨ X.env.scope.names.lookup x = some .local) (he : OSl X cf cd e o) (hs : swapsWith e (some (.Name x p)) pos.line X.env = pure false) :
    SS X cf cd (.Assign [.Name x p] e pos) (.asg i o) := PS.imp (ps_set hN hi hx he hs hf) fun D σ H q => asg_reads q
theorem ss_unp {tg : Expr} {t : T} (he : ES X cf cd e ie) (hg : PG X tg (gT X.w X.K false t)) (hs : swapsWithSole [tg] e pos.line X.env = pure false) (hw : swappedStores [tg] e X.env = pure none) (h1 : (assignEach [tg] X.env).map (·.2) = [assign tg X.env]) :
    SS X cf cd (.Assign [tg] e pos) (.unp t ie) := PS.imp (ps_asg he hg hs hw h1) fun D σ H ⟨env, M, fl, sr, ev, k⟩ => by
  unfold evS at ev
  obtain ⟨d, e1, h1, ev⟩ := bnd_inv ev
  split at ev
  · rename_i e2 h2
    cases ev
    exact step1 sr h1 fun v H' M' sr' e' r => ⟨e1, M', d, e2, sr', .full r, h2, fun σ2 sr2 fx => k σ2 H' M' sr2 (e'.iff fun a z => (fx.ow a).mp z) ⟨fx.ls, fx.so⟩⟩
  · cases ev
theorem rt_own {w : World} {K : PySem.W.Frag} {env : Ev} {M : Addr → Prop} {σ : L2.St} {H : Hp} {i : Nat} {d : D} (sr : SR w K env M σ H) (h : pk env i = some d) : ∃ a, σ[i]? = some (some (.ref a)) ∧ M a ∧ Ow w K H M d a := sr.own i d (pk_own h)
/-- one object changed -/
theorem one_ev {H : Hp} {M : Addr → Prop} {a : Addr} {ob : HO} : Evo (fun c => c = a) H M (fun c => c = a) (upd H a ob) M := ⟨fun c o h n => by rw [upd_ne (show c ≠ a from n)]; exact h, fun _ _ m _ => m, fun _ _ m => m, fun _ z => .inl z, fun c h => by
  by_cases z : c = a
  · rw [z, upd_same]; exact fun q => by cases q
  · rw [upd_ne z]; exact h⟩
theorem one_ne {H : Hp} {a : Addr} {ob : HO} : ∀ b o, H b = some o → b ≠ a → upd H a ob b = some o := fun b o h n => by rw [upd_ne n]; exact h
theorem ss_app {i : Nat} {y m : Str} {p2 apos p3 : Pos} (hm : m = "append") (hN : X.N[i]? = some y) (hv : Vis X.env.scope y) (hd : (y == ("__debug__" : Str)) = false) (hcd : (y == ("__classdict__" : Str)) = false) (ha : ES X cf cd a ia)
    (hst : starEach [a] X.env = (false, eval a X.env) :: starEach [] X.env) (hl : (apos.endLine == p3.line) = true) : SS X cf cd (.Expr (.Call (.Attribute (.Name y p2) m apos) [a] [] p3) pos) (.app i ia) := by
  subst hm
  have hpa : PA X [a] (tCons (tE X.w X.K cf cd ia) tNil) := pa_cons ha pa_nil hst
  refine PS.imp (ps_expr (pe_bm F.plainAttrs_list F.slot_list_append F.type_list_append mt_append (pe_var hN hv hd hcd) hpa rfl (by rw [hst]; rfl) hl hst rfl) rfl) fun D σ H ⟨env, M, fl, sr, ev, k⟩ => ?_
  unfold evS at ev
  split at ev
  · rename_i xs0 h0
    obtain ⟨a0, q0, m0, o0⟩ := rt_own sr h0
    obtain ⟨d, e1, h1, ev⟩ := bnd_inv ev
    split at ev
    · rename_i xs h2
      obtain ⟨hz, ev⟩ := gd_of ev
      cases ev
      refine ⟨_, q0, ?_, ?_⟩
      · cases o0 with
        | lst g r => exact .inl ⟨rfl, _, SqL.of g⟩
      · refine step1 sr h1 fun v H' M' sr' e' r => ?_
        obtain ⟨m1, o1⟩ := own_at sr' (pk_own h2) q0
        cases o1 with
        | lst g r2 =>
          refine ⟨a0, _, v, rfl, rfl, g, by rw [← r2.length]; exact SZ_line ▸ of_decide_eq_true hz, ?_⟩
          have sok : SOk (fun a => a = a0) H' M' := fun a z => z ▸ ⟨m1, _, g, trivial⟩
          obtain ⟨s6, e6⟩ := set_sr (d' := .list (xs ++ [d])) sr' (pk_own h2) q0 one_ne (.lst upd_same ((r2.evo one_ev sok).append (.cons (r.evo one_ev sok) .nil)))
          exact k σ _ M' s6 (e'.trans e6) Stay.rfl'
    · cases ev
  · cases ev
theorem ss_pop {i j : Nat} {x y m : Str} {p p2 apos p3 : Pos} (hm : m = "pop") (hN : X.N.Nodup) (hj : X.N[j]? = some x) (hx : Loc X.env.scope x) (hf : X.fn x = true ∨ X.env.scope.names.lookup x = some .local) (hi : X.N[i]? = some y) (hv : Vis X.env.scope y) (hd : (y == ("__debug__" : Str)) = false) (hcd : (y == ("__classdict__" : Str)) = false)
    (hl : (apos.endLine == p3.line) = true) (hs : swapsWith (.Call (.Attribute (.Name y p2) m apos) [] [] p3) (some (.Name x p)) pos.line X.env = pure false) : SS X cf cd (.Assign [.Name x p] (.Call (.Attribute (.Name y p2) m apos) [] [] p3) pos) (.pop j i) := by
  subst hm
  refine PS.imp (ps_set hN hj hx (pe_bm0 F.plainAttrs_list F.slot_list_pop F.type_list_pop mt_pop (pe_var hi hv hd hcd) rfl hl) hs hf) fun D σ H ⟨env, M, fl, sr, ev, k⟩ => ?_
  unfold evS at ev
  split at ev
  · rename_i xs h0
    obtain ⟨a0, q0, m0, o0⟩ := rt_own sr h0
    split at ev
    · rename_i d hd
      cases ev
      cases o0 with
      | lst g r =>
        rw [List.getLast?_eq_getElem?, r.length] at hd
        obtain ⟨v, hv, rv⟩ := r.get hd
        refine ⟨_, q0, .inl ⟨rfl, _, SqL.of g⟩, a0, _, v, rfl, rfl, g, hv, ?_⟩
        have sok : SOk (fun a => a = a0) H M := fun a z => z ▸ ⟨m0, _, g, trivial⟩
        obtain ⟨s6, e6⟩ := set_sr (d' := .list xs.dropLast) sr (pk_own h0) q0 one_ne (.lst upd_same (r.evo one_ev sok).dropLast)
        obtain ⟨s7, o7⟩ := (SlR.val (H0 := H) (rv.evo one_ev sok)).put s6 j
        exact k _ _ M s7 (put_goal e6 o7) Stay.set
    · cases ev
  · cases ev
/-- o[i] = v, o an object of the frame's own -/
def rSO (w : World) (K : PySem.W.Frag) : V → V → V → Hp → (Hp → Prop) → Prop := fun o i v H Q => ∃ M a d x y d', o = .ref a ∧ M a ∧ Ow w K H M d a ∧ Rp w K H M x i ∧ Rp w K H M y v ∧ putD d x y = some d' ∧
  ∀ H', (∀ b o, H b = some o → b ≠ a → H' b = some o) → Ow w K H' M d' a → Q H'
theorem set_own (hu : X.A.units + 16 < cLine) : PSet X (rSO X.w X.K) := by
  intro pins s σ H o i v ov iv u Q I ro ri rv ⟨M, a, d, x, y, d', e, ma, ow, rx, ry, hp, k⟩
  subst e
  obtain ⟨oa, ha, ia⟩ := ow.isOw
  have sok : SOk (fun c => c = a) H M := fun c z => z ▸ ⟨ma, _, ha, ia⟩
  cases ow with
  | lst g r =>
    cases rx with
    | int j =>
      have hp : (L2.ixN _ j).map _ = some d' := hp
      rw [Option.map_eq_some_iff] at hp
      obtain ⟨jj, h1, rfl⟩ := hp
      rw [r.length] at h1
      exact set_list pins s σ H _ _ v ov iv u Q I ro ri rv ⟨a, _, j, jj, rfl, rfl, g, h1, k _ one_ne (.lst upd_same (RpL.set (ry.evo one_ev sok) jj (r.evo one_ev sok)))⟩
    | _ => cases hp
  | @dct a rs kvs g r nd =>
    have hp : gd (kindOk kvs x && decide (kvs.length < SZ)) (some (.dict (dPut kvs x y))) = some d' := by
      cases x <;> exact hp
    obtain ⟨hc, rfl⟩ := gd_of hp
    rw [Bool.and_eq_true] at hc
    cases ro
    exact dSet hu I g r nd hc.1 (of_decide_eq_true hc.2) rx ri ry rv fun xs' r' nd' => k _ one_ne (.dct upd_same (r'.evo one_ev sok) nd')
theorem ss_seti (hu : X.A.units + 16 < cLine) {i : Nat} {y : Str} {p2 p3 : Pos} (hN : X.N[i]? = some y) (hv : Vis X.env.scope y) (hd : (y == ("__debug__" : Str)) = false) (hcd : (y == ("__classdict__" : Str)) = false) (hk : ES X cf cd a ia) (he : ES X cf cd b ib)
    (has : ∀ v, assign (.Subscript (.Name y p2) a p3) X.env v = (do
      let ov ← holding [v] (eval (.Name y p2) X.env)
      let iv ← holding [v, ov] (eval a X.env)
      standAt p3
      holding [v, ov, iv] (setItem ov iv v)
      release [v, ov, iv] []))
    (hs : swapsWithSole [.Subscript (.Name y p2) a p3] b pos.line X.env = pure false) (hw : swappedStores [.Subscript (.Name y p2) a p3] b X.env = pure none) (h1 : (assignEach [.Subscript (.Name y p2) a p3] X.env).map (·.2) = [assign (.Subscript (.Name y p2) a p3) X.env]) :
    SS X cf cd (.Assign [.Subscript (.Name y p2) a p3] b pos) (.seti i ia ib) := by
  refine PS.imp (ps_asg he (pg_sub (pe_var hN hv hd hcd) hk (set_own hu) has) hs hw h1) fun D σ H ⟨env, M, fl, sr, ev, k⟩ => ?_
  unfold evS at ev
  obtain ⟨d, e1, h1, ev⟩ := bnd_inv ev
  split at ev
  · rename_i d0 h0
    obtain ⟨x, e2, h2, ev⟩ := bnd_inv ev
    split at ev
    · rename_i d1 h3
      split at ev
      · rename_i d2 h4
        cases ev
        refine step1 sr h1 fun v H1 M1 sr1 ev1 r1 => ?_
        obtain ⟨a0, q0, m0, o0⟩ := rt_own sr1 h0
        refine ⟨_, q0, step1 sr1 h2 fun u H2 M2 sr2 ev2 r2 => ?_⟩
        obtain ⟨m1, o1⟩ := own_at sr2 (pk_own h3) q0
        refine ⟨M2, a0, d1, x, d, d2, rfl, m1, o1, r2, r1.evo ev2 sr1.sok, h4, fun H' kk ow => ?_⟩
        obtain ⟨s6, e6⟩ := set_sr sr2 (pk_own h3) q0 kk ow
        exact k σ H' M2 s6 (ev1.trans (ev2.trans e6)) Stay.rfl'
      · cases ev
    · cases ev
  · cases ev
/-! loops -/
theorem ss_for {tg iter : Expr} {body : List Stmt} {t : T} {it : It} {bd : List S} {bo : Bool} (hp : PassesOwn (model X.prog X.w) X.A X.env X.xe) (hc : X.calm = true) (hi : IS X cf cd bo tg iter it) (hg : PG X tg (gT X.w X.K bo t)) (hb : SSs X cf cd body bd)
    (hs : ∀ x, foldedSetIterable iter X.env x = pure x) : SS X cf cd (.For tg iter body [] pos) (.for_ t it bd) := by
  refine PS.imp (ps_for hp hc hi hg hb hs) fun D σ H ⟨env, M, fl, sr, ev, k⟩ => ?_
  unfold evS at ev
  obtain ⟨xs, env1, h1, ev⟩ := bnd_inv ev
  refine ⟨env, M, xs, env1, sr, h1, fun J H1 M1 sr1 ev1 io => ?_⟩
  have k1 := k.later (js' := t.js ++ S.jss bd) ev1 (Stay.rfl' (js := [])) (by simp) fun j h => h
  clear k
  refine ⟨fun i m σi Hi => m = xs.length - i ∧ i ≤ xs.length ∧ ∃ ei Mi, SR X.w X.K ei Mi σi Hi ∧ Evo (OwA env1 σ) H1 M1 (OwA ei σi) Hi Mi ∧ Stay (t.js ++ S.jss bd) σ σi ∧ forL (bindT t) (evSs cf cd bd) (xs.drop i) ei = some fl,
    ⟨xs.length, rfl, Nat.zero_le _, env1, M1, sr1, Evo.rfl', Stay.rfl', ev⟩, ?_⟩
  rintro i m σi Hi ⟨rfl, hi', ei, Mi, sri, evi, sti, hf⟩
  obtain ⟨io1, io2⟩ := io _ sr1.sok _ Hi Mi evi i
  by_cases hlt : i < xs.length
  · have hx : xs[i]? = some xs[i] := List.getElem?_eq_getElem hlt
    obtain ⟨go, yl⟩ := io2 _ hx
    rw [List.drop_eq_getElem_cons hlt] at hf
    unfold forL at hf
    split at hf
    · cases hf
    · rename_i eb hb'
      refine .inr ⟨go, fun σ' H' => ∃ ei Mi, SR X.w X.K ei Mi σ' H' ∧ Evo (OwA env1 σ) H1 M1 (OwA ei σ') H' Mi ∧ Stay (t.js ++ S.jss bd) σ σ' ∧ forL (bindT t) (evSs cf cd bd) (xs.drop (i + 1)) ei = some fl,
        fun σ' H' z => ⟨xs.length - (i + 1), by omega, rfl, hlt, z⟩, fun v H3 yv => ?_⟩
      obtain ⟨sm3, rw3⟩ := yl v H3 yv
      refine ⟨ei, Mi, _, eb, sri.same sm3, rw3, hb', fun σ2 s4 fx => ?_⟩
      have e4 : Evo (OwA env1 σ) H1 M1 (OwA eb σ2) H3 Mi := (evi.trans (Evo.same sm3)).iff fun a z => (fx.ow a).mp z
      have st4 : Stay (t.js ++ S.jss bd) σ σ2 := sti.trans (js := t.js ++ S.jss bd) (ks := t.js) ⟨fx.ls, fx.so⟩ (fun j h => h) fun j h => List.mem_append_left _ h
      split at hf
      · cases hf
      · rename_i d e5 h5
        cases hf
        exact ⟨eb, Mi, _, s4, h5, fun v σ' H' M' sr' e' s' r => k1 v σ' H' M' sr' (e4.trans e') (st4.trans s' (fun j h => h) fun j h => List.mem_append_right _ h) r⟩
      · rename_i e5 h5
        exact ⟨eb, Mi, _, s4, h5, fun σ' H' M' sr' e' s' => ⟨e5, M', sr', e4.trans e', st4.trans s' (fun j h => h) fun j h => List.mem_append_right _ h, hf⟩⟩
  · have e : i = xs.length := by omega
    subst e
    rw [List.drop_length] at hf
    cases hf
    exact .inl ⟨io1 (Nat.le_refl _) rfl, k1 σi Hi Mi sri evi sti⟩
theorem ss_while {body : List Stmt} {bd : List S} {n : Nat} (hp : PassesOwn (model X.prog X.w) X.A X.env X.xe) (hc : TS_ X cf cd c ic) (hb : SSs X cf cd body bd) : SS X cf cd (.While c body [] pos) (.whl n ic bd) := by
  refine PS.imp (ps_while hp hc hb) fun D σ H ⟨env, M, fl, sr, ev, k⟩ => ?_
  unfold evS at ev
  refine ⟨fun m σi Hi => ∃ ei Mi, SR X.w X.K ei Mi σi Hi ∧ Evo (OwA env σ) H M (OwA ei σi) Hi Mi ∧ Stay (S.jss bd) σ σi ∧ whlL (evE cf cd ic) (evSs cf cd bd) m ei = some fl, ⟨n, env, M, sr, Evo.rfl', Stay.rfl', ev⟩, ?_⟩
  rintro m σi Hi ⟨ei, Mi, sri, evi, sti, hf⟩
  cases m with
  | zero => cases hf
  | succ m =>
    unfold whlL at hf
    obtain ⟨d, e1, h1, hf⟩ := bnd_inv hf
    cases d <;> first | cases hf | skip
    rename_i q
    refine ⟨ei, Mi, q, e1, sri, h1, fun H1 M1 sr1 ev1 => ?_⟩
    have e4 := evi.trans ev1
    cases q with
    | false =>
      cases hf
      show (if _ = true then _ else _)
      rw [if_neg Bool.false_ne_true]
      exact k σi H1 M1 sr1 e4 sti
    | true =>
      show (if _ = true then _ else _)
      rw [if_pos rfl]
      refine ⟨fun σ' H' => ∃ ei Mi, SR X.w X.K ei Mi σ' H' ∧ Evo (OwA env σ) H M (OwA ei σ') H' Mi ∧ Stay (S.jss bd) σ σ' ∧ whlL (evE cf cd ic) (evSs cf cd bd) m ei = some fl, fun σ' H' z => ⟨m, Nat.lt_succ_self _, z⟩, ?_⟩
      have hf : (match evSs cf cd bd e1 with | none => none | some (.rt d e) => some (.rt d e) | some (.nx e) => whlL (evE cf cd ic) (evSs cf cd bd) m e) = some fl := hf
      split at hf
      · cases hf
      · rename_i d e5 h5
        cases hf
        exact ⟨e1, M1, _, sr1, h5, fun v σ' H' M' sr' e' s' r => k v σ' H' M' sr' (e4.trans e') (sti.trans s' (fun j h => h) fun j h => h) r⟩
      · rename_i e5 h5
        exact ⟨e1, M1, _, sr1, h5, fun σ' H' M' sr' e' s' => ⟨e5, M', sr', e4.trans e', sti.trans s' (fun j h => h) fun j h => h, hf⟩⟩
end
end Mi
end
section
set_option Elab.async false
set_option linter.all false
set_option maxRecDepth 100000
set_option maxHeartbeats 1000000
/-! S6c: comprehensions assigned, several names at once, list(range(..)). -/
namespace Mi
open PySem PySem.Spec PyProof.Rows L2

section
variable {X : Cx} {cf : CF} {cd : CD} {a b c e : Expr} {ia ib ic ie : E} {pos : Pos}
theorem asg_e {D : Ends} {σ : L2.St} {H : Hp} {i : Nat} (q : tSt X.w X.K cf cd (.asg i (.e ie)) D σ H) : tE X.w X.K cf cd ie σ H fun x H1 => gName i x σ H1 D.nx := by
  obtain ⟨env, M, fl, sr, ev, k⟩ := q
  unfold evS at ev
  obtain ⟨s, e1, h1, ev⟩ := bnd_inv ev
  obtain ⟨d, e2, h2, h1⟩ := bnd_inv h1
  cases h1
  cases ev
  refine step1 sr h2 fun v H' M' sr' e' r => ?_
  obtain ⟨s2, o2⟩ := (SlR.val (H0 := H) (env := e1) (σ := σ) r).put sr' i
  exact k _ H' M' s2 (put_goal e' o2) Stay.set
theorem ss_asgLc {i : Nat} {y : Str} {py spos : Pos} {elt tg iter : Expr} {ifs : List Expr} {scope : Scope} {own : List (Str × Nat)} {t : T} {it : It} {cs : List E} {bo : Bool} (hc : X.calm = true) (hN : X.N.Nodup) (hy : X.N[i]? = some y) (hyl : X.env.scope.names.lookup y = some .local)
    (hsw : swapsWith (.ListComp elt [⟨tg, iter, ifs, 0⟩] scope pos) (some (.Name y py)) spos.line X.env = pure true) (hi : IS X cf cd bo tg iter it) (ok : BlkOk X.N X.env.scope scope own)
    (hg : ∀ (s : Shared) (H : Hp) (C : Addr) (cl : List (Str × Addr)) (fp : List Addr), PG (X.blk s H scope (compEnvC scope cl C X.env) fp) tg (gT X.w X.K bo t)) (ht : ∀ (s : Shared) (H : Hp) (C : Addr) (cl : List (Str × Addr)) (fp : List Addr), QS (X.blk s H scope (compEnvC scope cl C X.env) fp) cf cd ifs cs)
    (he : ∀ (s : Shared) (H : Hp) (C : Addr) (cl : List (Str × Addr)) (fp : List Addr), ES (X.blk s H scope (compEnvC scope cl C X.env) fp) cf cd elt ie) (hs : ∀ x, foldedSetIterable iter X.env x = pure x)
    (hj : ∀ j ∈ t.js, j ∈ own.map (·.2)) : SS X cf cd (.Assign [.Name y py] (.ListComp elt [⟨tg, iter, ifs, 0⟩] scope pos) spos) (.asg i (.e (.comp (own.map (·.2)) ie t it cs))) :=
  PS.imp (ps_setLc hc hN hy hyl hsw hi ok hg ht he hs) fun D σ H q => lc_reads hj (asg_e q)
theorem ss_asgLc2 {i : Nat} {y : Str} {py spos : Pos} {elt tg iter tg1 iter1 : Expr} {scope : Scope} {own : List (Str × Nat)} {t t2 : T} {it it2 : It} {b b2 : Bool} (hc : X.calm = true) (hN : X.N.Nodup) (hy : X.N[i]? = some y) (hyl : X.env.scope.names.lookup y = some .local)
    (hsw : swapsWith (.ListComp elt [⟨tg, iter, [], 0⟩, ⟨tg1, iter1, [], 0⟩] scope pos) (some (.Name y py)) spos.line X.env = pure true) (hi : IS X cf cd b tg iter it) (ok : BlkOk X.N X.env.scope scope own) (hv : ∀ j ∈ t2.js, j ∈ own.map (·.2))
    (hg : ∀ (s : Shared) (H : Hp) (C : Addr) (cl : List (Str × Addr)) (fp : List Addr), PG (X.blk s H scope (compEnvC scope cl C X.env) fp) tg (gT X.w X.K b t))
    (hi1 : ∀ (s : Shared) (H : Hp) (C : Addr) (cl : List (Str × Addr)) (fp : List Addr), IS (X.blk s H scope (compEnvC scope cl C X.env) fp) cf cd b2 tg1 iter1 it2)
    (hg1 : ∀ (s : Shared) (H : Hp) (C : Addr) (cl : List (Str × Addr)) (fp : List Addr), PG (X.blk s H scope (compEnvC scope cl C X.env) fp) tg1 (gT X.w X.K b2 t2))
    (he : ∀ (s : Shared) (H : Hp) (C : Addr) (cl : List (Str × Addr)) (fp : List Addr), ES (X.blk s H scope (compEnvC scope cl C X.env) fp) cf cd elt ie) (hs : ∀ x, foldedSetIterable iter X.env x = pure x) (hs1 : ∀ env x, foldedSetIterable iter1 env x = pure x)
    (hj : ∀ j ∈ t.js, j ∈ own.map (·.2)) : SS X cf cd (.Assign [.Name y py] (.ListComp elt [⟨tg, iter, [], 0⟩, ⟨tg1, iter1, [], 0⟩] scope pos) spos) (.asg i (.e (.comp2 (own.map (·.2)) t2.js ie t it t2 it2))) :=
  PS.imp (ps_setLc2 hc hN hy hyl hsw hi ok hv hg (fun _ _ _ _ _ => pts_nil) hi1 hg1 (fun _ _ _ _ _ => pts_nil) he hs hs1) fun D σ H q => lc2_reads hj (fun _ h => h) hv (asg_e q)
/-! list(range(..)) -/
theorem rg_rep {w : World} {K : PySem.W.Frag} {H : Hp} {M : Addr → Prop} : ∀ (n : Nat) (lo : Int) (j : Nat), RpL w K H M (rngL (lo + (j : Nat)) n) ((List.range' j n).map fun (i : Nat) => V.int (lo + (i : Nat)))
  | 0, _, _ => .nil
  | n + 1, lo, j => by
    rw [List.range'_succ, List.map_cons]
    have e : lo + (j : Nat) + 1 = lo + ((j + 1 : Nat) : Int) := by omega
    show RpL w K H M (.int (lo + (j : Nat)) :: rngL (lo + (j : Nat) + 1) n) _
    rw [e]
    exact .cons (.int _) (rg_rep n lo (j + 1))
theorem rg_rep0 {w : World} {K : PySem.W.Frag} {H : Hp} {M : Addr → Prop} (a b : Int) : RpL w K H M (rngL a (b - a).toNat) (rgV a b) := by
  have := rg_rep (w := w) (K := K) (H := H) (M := M) (b - a).toNat a 0
  rw [← List.range_eq_range'] at this
  have e : a + ((0 : Nat) : Int) = a := by omega
  rw [e] at this
  exact this
theorem es_listR {x : Str} {p : Pos} (hx : x = "list") (hc : X.calm = true) (hg : Gl X x) (hm : X.mg x = none) {a : Expr} {p2 pos2 : Pos} (hg2 : Gl X "range") (hm2 : X.mg "range" = none) (ha : ES X cf cd a ia) (hs : starEach [a] X.env = (false, eval a X.env) :: starEach [] X.env) :
    ES X cf cd (.Call (.Name x p) [.Call (.Name "range" p2) [a] [] pos2] [] pos) (.listI (.rng ia)) := by
  subst hx
  refine PE.imp (pe_listRg hc hg hm (prg_1 hg2 hm2 ha hs) rfl) fun σ H Q ⟨env, M, d, env', sr, ev, k⟩ => ?_
  obtain ⟨xs, e1, h1, ev⟩ := bnd_inv ev
  obtain ⟨x, e2, h2, h1⟩ := bnd_inv h1
  obtain ⟨hz, ev⟩ := gd_of ev
  cases ev
  cases x <;> first | cases h1 | skip
  rename_i j
  obtain ⟨sm, h1⟩ := gd_of h1
  cases h1
  rw [rngL_len] at hz
  simp only [small, Bool.and_eq_true, decide_eq_true_eq] at sm
  have hz : j.toNat ≤ 16777216 := of_decide_eq_true hz
  refine step1 sr h2 fun v H1 M1 sr1 ev1 r1 => ?_
  cases r1
  refine ⟨j, rfl, ⟨by omega, by omega, by omega, by omega, by simpa using hz⟩, fun q hq => ?_⟩
  have r0 := rg_rep0 (w := X.w) (K := X.K) (H := H1) (M := M1) 0 j
  have e0 : (j - 0).toNat = j.toNat := by simp
  rw [e0] at r0
  exact (sr1.wt (d := .list (rngL 0 j.toNat)) fun v H2 s2 sr2 r2 => k v H2 M1 sr2 (ev1.trans (Evo.same s2)) r2).lst sr1.mt r0 hq
theorem es_listR2 {x : Str} {p : Pos} (hx : x = "list") (hc : X.calm = true) (hg : Gl X x) (hm : X.mg x = none) {a b : Expr} {p2 pos2 : Pos} (hg2 : Gl X "range") (hm2 : X.mg "range" = none) (ha : ES X cf cd a ia) (hb : ES X cf cd b ib) (hs : starEach [a, b] X.env = (false, eval a X.env) :: starEach [b] X.env) (hs2 : starEach [b] X.env = (false, eval b X.env) :: starEach [] X.env) :
    ES X cf cd (.Call (.Name x p) [.Call (.Name "range" p2) [a, b] [] pos2] [] pos) (.listI (.rng2 ia ib)) := by
  subst hx
  refine PE.imp (pe_listRg hc hg hm (prg_2 hg2 hm2 ha hb hs hs2 (by rw [hs2]; rfl)) rfl) fun σ H Q ⟨env, M, d, env', sr, ev, k⟩ => ?_
  obtain ⟨xs, e1, h1, ev⟩ := bnd_inv ev
  obtain ⟨x, e2, h2, h1⟩ := bnd_inv h1
  obtain ⟨y, e3, h3, h1⟩ := bnd_inv h1
  obtain ⟨hz, ev⟩ := gd_of ev
  cases ev
  cases x with
  | int i =>
    cases y with
    | int j =>
      obtain ⟨sm, h1⟩ := gd_of h1
      cases h1
      rw [rngL_len] at hz
      simp only [small, Bool.and_eq_true, decide_eq_true_eq] at sm
      have hz : (j - i).toNat ≤ 16777216 := of_decide_eq_true hz
      refine step2 sr h2 h3 fun v u H1 M1 sr1 ev1 r1 r2 => ?_
      cases r1
      cases r2
      refine ⟨i, j, rfl, rfl, ⟨by omega, by omega, by omega, by omega, by simpa using hz⟩, fun q hq => ?_⟩
      exact (sr1.wt (d := .list (rngL i (j - i).toNat)) fun v H2 s2 sr2 r2 => k v H2 M1 sr2 (ev1.trans (Evo.same s2)) r2).lst sr1.mt (rg_rep0 i j) hq
    | _ => cases h1
  | _ => cases h1
/-! several names at once -/
inductive SlRs (w : World) (K : PySem.W.Frag) (H0 : Hp) (env : Ev) (σ : L2.St) (H : Hp) (M : Addr → Prop) : List Sl → List V → Prop where
  | nil : SlRs w K H0 env σ H M [] []
  | cons {s : Sl} {v : V} {ss : List Sl} {vs : List V} : SlR w K H0 env σ H M s v → (∀ d, s = .own d → ∀ (j : Nat) (d' : D), ss[j]? = some (.own d') → vs[j]? ≠ some v) → SlRs w K H0 env σ H M ss vs → SlRs w K H0 env σ H M (s :: ss) (v :: vs)
def tOL (w : World) (K : PySem.W.Frag) (cf : CF) (cd : CD) (os : List O) : TA := fun σ H Q => ∃ env M ss env', SR w K env M σ H ∧ evOL cf cd os env = some (ss, env') ∧
  ∀ vs H' M', SR w K env' M' σ H' → Evo (OwA env σ) H M (OwA env' σ) H' M' → SlRs w K H env' σ H' M' ss vs → Q vs H'
abbrev OSs (X : Cx) (cf : CF) (cd : CD) (es : List Expr) (os : List O) : Prop := PA X es (tOL X.w X.K cf cd os)
theorem SlRs.old {w : World} {K : PySem.W.Frag} {H0 H H00 : Hp} {env : Ev} {σ : L2.St} {M : Addr → Prop} (al : ∀ a, H00 a ≠ none → H0 a ≠ none) : ∀ {ss : List Sl} {vs : List V}, SlRs w K H0 env σ H M ss vs → SlRs w K H00 env σ H M ss vs
  | _, _, .nil => .nil
  | _, _, .cons r n rr => .cons (r.old al) n (rr.old al)
theorem SlRs.fresh {w : World} {K : PySem.W.Frag} {H0 H : Hp} {env : Ev} {σ : L2.St} {M : Addr → Prop} {ss : List Sl} {vs : List V} (q : SlRs w K H0 env σ H M ss vs) : ∀ {j : Nat} {d : D} {a : Addr}, ss[j]? = some (.own d) → vs[j]? = some (.ref a) → H0 a = none := by
  induction q with
  | nil =>
    intro j d a h _
    simp at h
  | cons r n rr ih =>
    intro j d a h h2
    cases j with
    | zero =>
      simp at h h2
      subst h h2
      cases r with
      | own h _ _ _ => exact h
    | succ j => exact ih (by simpa using h) (by simpa using h2)
theorem oss_nil : OSs X cf cd [] [] := PA.imp pa_nil fun σ H Q ⟨env, M, ds, env', sr, ev, k⟩ => by
  cases ev
  exact k [] H M sr Evo.rfl' .nil
theorem oss_cons {es : List Expr} {o : O} {os : List O} (ha : OSl X cf cd a o) (hr : OSs X cf cd es os) (hs : starEach (a :: es) X.env = (false, eval a X.env) :: starEach es X.env) : OSs X cf cd (a :: es) (o :: os) := by
  refine PA.imp (pa_cons ha hr hs) fun σ H Q ⟨env, M, ds, env', sr, ev, k⟩ => ?_
  obtain ⟨x, e1, h1, ev⟩ := bnd_inv ev
  obtain ⟨xs, e2, h2, ev⟩ := bnd_inv ev
  cases ev
  refine ⟨env, M, x, e1, sr, h1, fun v H1 M1 sr1 ev1 r1 => ⟨e1, M1, xs, _, sr1, h2, fun vs H2 M2 sr2 ev2 r2 => k _ H2 M2 sr2 (ev1.trans ev2) (.cons (r1.evo ev2 sr1.sok) (fun d e j d' h q => ?_) (r2.old ev1.al))⟩⟩
  subst e
  cases r1 with
  | own h' m o n =>
    obtain ⟨z, hz, _⟩ := o.isOw
    exact some_ne hz (r2.fresh h q)
/-- the rest stays fit for its slots -/
theorem SlRs.put {w : World} {K : PySem.W.Frag} {H0 H : Hp} {env : Ev} {σ : L2.St} {M : Addr → Prop} {s : Sl} {v : V} {i : Nat} : ∀ {ss : List Sl} {vs : List V}, SlRs w K H0 env σ H M ss vs → SR w K env M σ H → SlR w K H0 env σ H M s v → (∀ d, s = .own d → ∀ (j : Nat) (d' : D), ss[j]? = some (.own d') → vs[j]? ≠ some v) → SlRs w K H0 (env.set i s) (σ.set i (some v)) H M ss vs
  | _, _, .nil, _, _, _ => .nil
  | _, _, .cons r n rr, sr, rs, hd => by
    refine .cons ?_ n (rr.put sr rs fun d e j d' h => hd d e (j + 1) d' (by simpa using h))
    cases r with
    | val r => exact .val r
    | @own d0 a0 h m o no =>
      refine .own h m o fun z => ?_
      obtain ⟨_, oo⟩ := rs.put sr i
      rcases oo _ z with q | ⟨_, q, d, e⟩
      · exact no q
      · exact hd d e 0 d0 rfl (by rw [q]; rfl)
theorem ss_par2 {i j : Nat} {x y : Str} {o p : O} {px py pt : Pos} {kt k2 pt2} (hc : X.calm = true) (hN : X.N.Nodup) (hi : X.N[i]? = some x) (hj : X.N[j]? = some y) (hij : i ≠ j) (hx : X.env.scope.names.lookup x = some .local) (hy : X.env.scope.names.lookup y = some .local) (ha : OSs X cf cd [a, b] [o, p])
    (hw : swappedStores [.Tuple [.Name x px, .Name y py] kt pt] (.Tuple [a, b] k2 pt2) X.env = pure (some [x, y])) : SS X cf cd (.Assign [.Tuple [.Name x px, .Name y py] kt pt] (.Tuple [a, b] k2 pt2) pos) (.par [i, j] [o, p]) := by
  refine PS.imp (ps_par hc hN hi hj hij hx hy ha hw rfl) fun D σ H ⟨env, M, fl, sr, ev, k⟩ => ?_
  unfold evS at ev
  obtain ⟨ss, e1, h1, ev⟩ := bnd_inv ev
  cases ev
  refine ⟨env, M, ss, e1, sr, h1, fun vs H1 M1 sr1 ev1 r1 => ?_⟩
  cases r1 with
  | nil =>
    obtain ⟨_, _, _, h1⟩ := bnd_inv h1
    obtain ⟨_, _, _, h1⟩ := bnd_inv h1
    cases h1
  | cons r1 n1 r2 =>
    cases r2 with
    | nil =>
      obtain ⟨_, _, _, h1⟩ := bnd_inv h1
      obtain ⟨_, _, q, h1⟩ := bnd_inv h1
      cases h1
      obtain ⟨_, _, _, q⟩ := bnd_inv q
      obtain ⟨_, _, _, q⟩ := bnd_inv q
      cases q
    | cons r2 n2 r3 =>
      cases r3 with
      | cons _ _ _ =>
        obtain ⟨_, _, _, h1⟩ := bnd_inv h1
        obtain ⟨_, _, q, h1⟩ := bnd_inv h1
        cases h1
        obtain ⟨_, _, _, q⟩ := bnd_inv q
        obtain ⟨_, _, q2, q⟩ := bnd_inv q
        cases q
        cases q2
      | nil =>
        obtain ⟨s2, o2⟩ := r1.put sr1 i
        have r2' := SlRs.put (i := i) (.cons r2 n2 .nil) sr1 r1 n1
        cases r2' with
        | cons r2' _ _ =>
          obtain ⟨s3, o3⟩ := r2'.put s2 j
          refine ⟨_, _, rfl, k _ H1 M1 s3 (put_goal (put_goal ev1 o2) o3) ?_⟩
          exact (Stay.set (i := i)).trans (Stay.set (i := j)) (by simp [S.js]) (by simp [S.js])
theorem ss_par3 {i j l : Nat} {x y z : Str} {o p q : O} {px py pz pt : Pos} {kt k2 pt2} (hc : X.calm = true) (hN : X.N.Nodup) (hi : X.N[i]? = some x) (hj : X.N[j]? = some y) (hl : X.N[l]? = some z) (hij : i ≠ j) (hil : i ≠ l) (hjl : j ≠ l) (hx : X.env.scope.names.lookup x = some .local) (hy : X.env.scope.names.lookup y = some .local) (hz : X.env.scope.names.lookup z = some .local) (ha : OSs X cf cd [a, b, c] [o, p, q])
    (hw : swappedStores [.Tuple [.Name x px, .Name y py, .Name z pz] kt pt] (.Tuple [a, b, c] k2 pt2) X.env = pure (some [x, y, z])) : SS X cf cd (.Assign [.Tuple [.Name x px, .Name y py, .Name z pz] kt pt] (.Tuple [a, b, c] k2 pt2) pos) (.par [i, j, l] [o, p, q]) := by
  refine PS.imp (ps_par3 hc hN hi hj hl hij hil hjl hx hy hz ha hw rfl) fun D σ H ⟨env, M, fl, sr, ev, k⟩ => ?_
  unfold evS at ev
  obtain ⟨ss, e1, h1, ev⟩ := bnd_inv ev
  cases ev
  refine ⟨env, M, ss, e1, sr, h1, fun vs H1 M1 sr1 ev1 r1 => ?_⟩
  obtain ⟨s1, f1, _, h1⟩ := bnd_inv h1
  obtain ⟨t1, f2, h2, h1⟩ := bnd_inv h1
  cases h1
  obtain ⟨s2, f3, _, h2⟩ := bnd_inv h2
  obtain ⟨t2, f4, h3, h2⟩ := bnd_inv h2
  cases h2
  obtain ⟨s3, f5, _, h3⟩ := bnd_inv h3
  obtain ⟨t3, f6, h4, h3⟩ := bnd_inv h3
  cases h3
  cases h4
  cases r1 with
  | cons r1 n1 rr =>
    cases rr with
    | cons r2 n2 rr =>
      cases rr with
      | cons r3 n3 rr =>
        cases rr
        obtain ⟨g2, o2⟩ := r1.put sr1 i
        have r2' := SlRs.put (i := i) (.cons r2 n2 (.cons r3 n3 .nil)) sr1 r1 n1
        cases r2' with
        | cons q2 m2 q3 =>
          obtain ⟨g3, o3⟩ := q2.put g2 j
          have r3' := SlRs.put (i := j) q3 g2 q2 m2
          cases r3' with
          | cons q4 m4 _ =>
            obtain ⟨g4, o4⟩ := q4.put g3 l
            refine ⟨_, _, _, rfl, k _ H1 M1 g4 (put_goal (put_goal (put_goal ev1 o2) o3) o4) ?_⟩
            exact ((Stay.set (i := i)).trans (Stay.set (i := j)) (ls := [i, j]) (by simp) (by simp)).trans (Stay.set (i := l)) (by simp [S.js]) (by simp [S.js])
end
end Mi
end
section
set_option Elab.async false
set_option linter.all false
set_option maxRecDepth 100000
set_option maxHeartbeats 1000000
/-! S7a: from the program's text to the own language. -/
namespace Mi
open PySem PySem.Spec PyProof.Rows L2

/-- what is known where a text is read: the slots, the block's names, the names of objects that change, functions, constants, built-ins -/
structure Cc where
  N : List Str
  sc : Scope
  fnb : Option Scope
  mu : List Str
  fns : List (Str × Nat × Bool)
  cns : List (Str × Nat)
  bs : List Str
def ixN' : List Str → Str → Nat → Option Nat
  | [], _, _ => none
  | y :: r, x, k => if y = x then some k else ixN' r x (k + 1)
def ixOf (N : List Str) (x : Str) : Option Nat := ixN' N x 0
def Cc.kd (c : Cc) (x : Str) : Option NameKind := c.sc.names.lookup x
def visK : Option NameKind → Bool
  | some .local => true
  | some .cell => true
  | some .free => true
  | _ => false
def Cc.slot (c : Cc) (x : Str) : Option Nat := if visK (c.kd x) && !(x == ("__debug__" : Str)) && !(x == ("__classdict__" : Str)) then ixOf c.N x else none
def Cc.fnC (c : Cc) (x : Str) : Bool := match c.fnb with
  | none => true
  | some s => s.names.lookup x == some .cell
def Cc.store (c : Cc) (x : Str) : Option Nat := match c.kd x with
  | some .local => ixOf c.N x
  | some .cell => if c.fnC x then ixOf c.N x else none
  | _ => none
def Cc.isG (c : Cc) (x : Str) : Bool := decide (c.kd x = some .globalImplicit)
def Cc.bl (c : Cc) (x : Str) : Bool := c.isG x && decide (x ∈ c.bs) && !(x == ("__debug__" : Str)) && !(x == ("__name__" : Str))
def relab (scope sc : Scope) : Scope :=
  { scope with names := scope.names.map fun (n, k) => if (k == .free && sc.kind == .function && sc.names.lookup n == some .cell) then (n, .cell) else (n, k) }
def Cc.blk (c : Cc) (scope : Scope) : Cc := { c with sc := relab scope c.sc, fnb := some scope }
def isStar : Expr → Bool
  | .Starred _ _ => true
  | _ => false
def isSlice : Expr → Bool
  | .Slice _ _ _ _ => true
  | _ => false
def isIf : Expr → Bool
  | .IfExp _ _ _ _ => true
  | _ => false
def isSetE : Expr → Bool
  | .Set _ _ _ => true
  | _ => false
def isTupE : Expr → Bool
  | .Tuple _ _ _ => true
  | _ => false
def isCompE : Expr → Bool
  | .ListComp _ _ _ _ => true
  | .SetComp _ _ _ _ => true
  | .DictComp _ _ _ _ _ => true
  | _ => false
def cpOp : Operator → Option BO
  | .Add => some .add
  | .Sub => some .sub
  | .Mult => some .mul
  | .Mod => some .mod
  | .FloorDiv => some .fdiv
  | .Pow => some .pow
  | _ => none
def cpCo : CmpOp → CO
  | .Eq => .eq
  | .NotEq => .ne
  | .Lt => .lt
  | .LtE => .le
  | .Gt => .gt
  | .GtE => .ge
  | .Is => .is
  | .IsNot => .isn
  | .In => .inn
  | .NotIn => .nin
def cpK : Const → Option E
  | .none => some (.c .none)
  | .bool b => some (.c (.bool b))
  | .int i => some (.c (.int i))
  | .str x => some (.c (.str x))
  | _ => none
def f1Of (x : Str) : Option F1 :=
  if x = "len" then some .len else if x = "sum" then some .sum else if x = "sorted" then some .sorted else if x = "list" then some .list else if x = "tuple" then some .tuple else if x = "abs" then some .abs
  else if x = "int" then some .int else if x = "max" then some .max else if x = "any" then some .any else if x = "all" then some .all else if x = "bool" then some .bool else none
def f2Of (x : Str) : Option F2 := if x = "max" then some .max else if x = "min" then some .min else none
def tyAt (x : Str) : Option Ty := if x = "int" then some .int else if x = "bool" then some .bool else if x = "str" then some .str else if x = "tuple" then some .tup else if x = "list" then some .lst else none
def muSlot (c : Cc) : Expr → Option Nat
  | .Name y _ => if decide (y ∈ c.mu) then c.slot y else none
  | _ => none
/-- a range(..) written as it stands: its arguments -/
def rngOf (c : Cc) : Expr → Option (List Expr)
  | .Call (.Name x _) as [] _ => if x = "range" then if c.bl x then some as else none else none
  | _ => none
def isC (c : Cc) : Expr → Option (List Ty)
  | .Name x _ => if c.bl x then (tyAt x).map fun t => [t] else none
  | .Tuple [.Name x _, .Name y _, .Name z _] _ _ => if c.bl x && c.bl y && c.bl z then match tyAt x, tyAt y, tyAt z with
    | some a, some b, some d => some [a, b, d]
    | _, _, _ => none else none
  | _ => none
def ownOf (N : List Str) (scope : Scope) : List (Str × Nat) := scope.names.filterMap fun p => match p.2 with
  | .local => (ixOf N p.1).map fun i => (p.1, i)
  | .cell => (ixOf N p.1).map fun i => (p.1, i)
  | _ => none
def mapM2 {α β γ : Type} (f : α → β → γ) (x : Option α) (y : Option β) : Option γ := match x with
  | some a => match y with
    | some b => some (f a b)
    | none => none
  | none => none
mutual
def cpT (c : Cc) : Expr → Option T
  | .Name x _ => (c.store x).map .nm
  | .Tuple es _ _ => (cpTs c es).map .tp
  | _ => none
def cpTs (c : Cc) : List Expr → Option (List T)
  | [] => some []
  | e :: es => mapM2 List.cons (cpT c e) (cpTs c es)
end
mutual
def cpE : Nat → Cc → Expr → Option E
  | 0, _, _ => none
  | n + 1, c, e => match e with
    | .Constant k _ _ => cpK k
    | .Name x _ => match c.slot x with
      | some i => some (.v i)
      | none => if c.isG x && !(x == ("__debug__" : Str)) then (c.cns.lookup x).map .g else none
    | .Tuple es _ _ => (cpEs n c es).map .tup
    | .List es _ => (cpEs n c es).map .lst
    | .BinOp a op b _ => match cpOp op with
      | some o => mapM2 (.bin o) (cpE n c a) (cpE n c b)
      | none => none
    | .UnaryOp op a _ => match op with
      | .USub => (cpE n c a).map .neg
      | .Not => if isIf a then none else (cpE n c a).map .nt
      | _ => none
    | .BoolOp op vs _ => cpB n c op vs
    | .Compare a ops bs _ => match ops, bs with
      | [op], [b] => cpCmp n c a op b
      | [o1, o2], [b, d] => match cpE n c a, cpE n c b, cpE n c d with
        | some i, some j, some k => some (.ch (cpCo o1) (cpCo o2) i j k)
        | _, _, _ => none
      | _, _ => none
    | .IfExp t a b _ => if isIf t then none else match cpE n c t, cpE n c a, cpE n c b with
      | some i, some j, some k => some (.ife i j k)
      | _, _, _ => none
    | .Subscript a i _ => cpSub n c a i
    | .Call f args kws pos => cpCall n c f args kws pos
    | .ListComp elt gens scope _ => cpComp n c elt gens scope
    | _ => none
def cpCmp : Nat → Cc → Expr → CmpOp → Expr → Option E
  | 0, _, _, _, _ => none
  | n + 1, c, a, op, b => match op, muSlot c a, muSlot c b, b with
    | .Eq, some i, _, .List [] _ => some (.nilO i false)
    | .NotEq, some i, _, .List [] _ => some (.nilO i true)
    | .In, _, some i, _ => (cpE n c a).map fun e => .inO e i false
    | .NotIn, _, some i, _ => (cpE n c a).map fun e => .inO e i true
    | op, _, _, b => mapM2 (.cmp (cpCo op)) (cpE n c a) (cpE n c b)
def cpSub : Nat → Cc → Expr → Expr → Option E
  | 0, _, _, _ => none
  | n + 1, c, a, i => match i with
    | .Slice lo hi none _ => match cpE n c a, cpO n c lo, cpO n c hi with
      | some x, some l, some h => some (.slc x l h)
      | _, _, _ => none
    | .Slice _ _ _ _ => none
    | i => match muSlot c a with
      | some s => (cpE n c i).map (.idxO s)
      | none => mapM2 .idx (cpE n c a) (cpE n c i)
def cpO : Nat → Cc → Option Expr → Option (Option E)
  | 0, _, _ => none
  | n + 1, c, e => match e with
    | none => some none
    | some e => (cpE n c e).map some
def cpEs : Nat → Cc → List Expr → Option (List E)
  | 0, _, _ => none
  | n + 1, c, es => match es with
    | [] => some []
    | e :: es => mapM2 List.cons (cpE n c e) (cpEs n c es)
def cpB : Nat → Cc → BoolOp → List Expr → Option E
  | 0, _, _, _ => none
  | n + 1, c, op, vs => match vs with
    | [] => none
    | [a] => if isIf a then none else cpE n c a
    | a :: b :: r => if isIf a then none else match op with
      | .And => mapM2 .and (cpE n c a) (cpB n c .And (b :: r))
      | .Or => mapM2 .or (cpE n c a) (cpB n c .Or (b :: r))
def cpCall : Nat → Cc → Expr → List Expr → List Keyword → Pos → Option E
  | 0, _, _, _, _, _ => none
  | n + 1, c, f, args, kws, pos => match f, args, kws with
    | .Name x _, args, [] => match c.bl x with
      | true => cpBi n c x args
      | false => if c.isG x && !(x == ("__debug__" : Str)) then match c.fns.lookup x with
        | some (k, false) => (cpEs n c args).map (.call k)
        | some (k, true) => match args with
          | .Name y _ :: rest => match c.slot y with
            | some i => (cpEs n c rest).map (.callB k i)
            | none => none
          | _ => none
        | none => none else none
    | .Attribute a m apos, [b], [] => if m = "get" then if (apos.endLine == pos.line) && notCall0 a then mapM2 .get (cpE n c a) (cpE n c b) else none else none
    | _, _, _ => none
def cpBi : Nat → Cc → Str → List Expr → Option E
  | 0, _, _, _ => none
  | n + 1, c, x, args => match args with
    | [a] => match muSlot c a with
      | some i => if x = "len" then some (.lenO i) else match f1Of x with
        | some f => (cpE n c a).map (.f1 f)
        | none => none
      | none => match (if x = "list" then rngOf c a else none) with
        | some [b] => (cpE n c b).map fun e => .listI (.rng e)
        | some [b, d] => mapM2 (fun e g => .listI (.rng2 e g)) (cpE n c b) (cpE n c d)
        | some _ => none
        | none => match f1Of x with
          | some f => (cpE n c a).map (.f1 f)
          | none => none
    | [a, b] => if x = "isinstance" then match isC c b with
        | some ts => (cpE n c a).map fun e => .isi e ts
        | none => none
      else match f2Of x with
        | some f => mapM2 (.f2 f) (cpE n c a) (cpE n c b)
        | none => none
    | _ => none
def cpI : Nat → Cc → Bool → Expr → Option It
  | 0, _, _, _ => none
  | n + 1, c, tup, e => match e with
    | .Call (.Name x _) args [] _ => if c.bl x then (if x = "range" then match args with
          | [a] => (cpE n c a).map .rng
          | [a, b] => mapM2 .rng2 (cpE n c a) (cpE n c b)
          | _ => none
        else if x = "enumerate" then match tup, args with
          | true, [a] => (cpE n c a).map .enum
          | _, _ => none
        else if x = "zip" then match tup, args with
          | true, [a, b] => mapM2 .zip (cpE n c a) (cpE n c b)
          | _, _ => none
        else (cpE n c e).map .val) else (cpE n c e).map .val
    | .Call (.Attribute a m apos) [] [] pos => if (apos.endLine == pos.line) && notCall0 a then (if m = "values" then (cpE n c a).map .vals else if m = "items" then match tup with
          | true => (cpE n c a).map .items
          | false => none
        else none) else none
    | e => (cpE n c e).map .val
def cpCs : Nat → Cc → List Expr → Option (List E)
  | 0, _, _ => none
  | n + 1, c, es => match es with
    | [] => some []
    | [e] => if isIf e then none else (cpE n c e).map fun i => [i]
    | _ => none
def cpComp : Nat → Cc → Expr → List Comprehension → Scope → Option E
  | 0, _, _, _, _ => none
  | n + 1, c, elt, gens, scope => match gens with
    | [⟨tg, iter, ifs, asy⟩] => if asy = 0 then if isSetE iter then none else match cpI n c (isTupE tg) iter, cpT (c.blk scope) tg, cpCs n (c.blk scope) ifs, cpE n (c.blk scope) elt with
      | some it, some t, some cs, some ie => if blkC c.N c.sc scope (ownOf c.N scope) && t.js.all (fun j => decide (j ∈ (ownOf c.N scope).map (·.2))) then some (.comp ((ownOf c.N scope).map (·.2)) ie t it cs) else none
      | _, _, _, _ => none else none
    | [⟨tg, iter, [], asy⟩, ⟨tg2, iter2, [], asy2⟩] => if asy = 0 ∧ asy2 = 0 then if isSetE iter || isSetE iter2 then none else match cpI n c (isTupE tg) iter, cpT (c.blk scope) tg, cpI n (c.blk scope) (isTupE tg2) iter2, cpT (c.blk scope) tg2, cpE n (c.blk scope) elt with
      | some it, some t, some it2, some t2, some ie => if blkC c.N c.sc scope (ownOf c.N scope) && t.js.all (fun j => decide (j ∈ (ownOf c.N scope).map (·.2))) && t2.js.all (fun j => decide (j ∈ (ownOf c.N scope).map (·.2))) then some (.comp2 ((ownOf c.N scope).map (·.2)) t2.js ie t it t2 it2) else none
      | _, _, _, _, _ => none else none
    | _ => none
end
end Mi
end
section
set_option Elab.async false
set_option linter.all false
set_option maxRecDepth 100000
set_option maxHeartbeats 1000000
/-! S7b: what the reading of a text promises: expressions. -/
namespace Mi
open PySem PySem.Spec PyProof.Rows L2

structure Ok7 (c : Cc) (X : Cx) (cf : CF) (cd : CD) : Prop where
  N : X.N = c.N
  nd : c.N.Nodup
  sc : X.env.scope = c.sc
  kind : c.sc.kind = .function
  calm : X.calm = true
  un : X.A.units + 70 < cLine
  fn : ∀ x, c.fnC x = true → X.fn x = true
  xe : X.xe = fun _ _ => False
  bl : ∀ x ∈ c.bs, X.mg x = none
  fs : ∀ x f b, c.fns.lookup x = some (f, b) → Fr_ X cf f x b
  cs : ∀ x k, c.cns.lookup x = some k → ∃ v u, X.mg x = some u ∧ RelV v u ∧ ∀ H M, Rp X.w X.K H M (cd k) v
section
variable {c : Cc} {X : Cx} {cf : CF} {cd : CD}
theorem Ok7.blk (ok : Ok7 c X cf cd) {scope : Scope} (hk : scope.kind = .function) (s : Shared) (H : Hp) (C : Addr) (cl : List (Str × Addr)) (fp : List Addr) : Ok7 (c.blk scope) (X.blk s H scope (compEnvC scope cl C X.env) fp) cf cd where
  N := ok.N
  nd := ok.nd
  sc := by
    show relabel scope X.env = relab scope c.sc
    unfold relabel relab Env.kindOf
    rw [ok.sc]
  kind := hk
  calm := ok.calm
  un := ok.un
  fn := fun x h => h
  xe := rfl
  bl := ok.bl
  fs := fun x f b h => ⟨(ok.fs x f b h).ex⟩
  cs := ok.cs
theorem ixN'_get : ∀ {l : List Str} {x : Str} {k i : Nat}, ixN' l x k = some i → ∃ j, i = k + j ∧ l[j]? = some x
  | [], _, _, _, h => by cases h
  | y :: r, x, k, i, h => by
    unfold ixN' at h
    split at h
    · rename_i e
      cases h
      exact ⟨0, rfl, by simp [e]⟩
    · obtain ⟨j, e, g⟩ := ixN'_get h
      exact ⟨j + 1, by omega, by simpa using g⟩
theorem ixOf_get {l : List Str} {x : Str} {i : Nat} (h : ixOf l x = some i) : l[i]? = some x := by
  obtain ⟨j, e, g⟩ := ixN'_get h
  have : i = j := by omega
  rw [this]; exact g
theorem Ok7.slot (ok : Ok7 c X cf cd) {x : Str} {i : Nat} (h : c.slot x = some i) : X.N[i]? = some x ∧ Vis X.env.scope x ∧ (x == ("__debug__" : Str)) = false ∧ (x == ("__classdict__" : Str)) = false := by
  unfold Cc.slot at h
  split at h
  · rename_i q
    rw [Bool.and_eq_true, Bool.and_eq_true, Bool.not_eq_true', Bool.not_eq_true'] at q
    refine ⟨by rw [ok.N]; exact ixOf_get h, ?_, q.1.2, q.2⟩
    have k : X.env.scope.names.lookup x = c.kd x := by unfold Cc.kd; rw [ok.sc]
    unfold Vis
    rw [k]
    cases e : c.kd x with
    | none => rw [e] at q; simp [visK] at q
    | some z => rw [e] at q; cases z <;> simp [visK] at q <;> simp
  · cases h
theorem Ok7.store (ok : Ok7 c X cf cd) {x : Str} {i : Nat} (h : c.store x = some i) : X.N[i]? = some x ∧ L2.Loc X.env.scope x ∧ (X.fn x = true ∨ X.env.scope.names.lookup x = some .local) := by
  have k : X.env.scope.names.lookup x = c.kd x := by unfold Cc.kd; rw [ok.sc]
  unfold L2.Loc
  rw [k, ok.N]
  unfold Cc.store at h
  split at h
  · rename_i e
    exact ⟨ixOf_get h, .inl e, .inr e⟩
  · rename_i e
    split at h
    · rename_i q
      exact ⟨ixOf_get h, .inr e, .inl (ok.fn x q)⟩
    · cases h
  · cases h
theorem Ok7.gl (ok : Ok7 c X cf cd) {x : Str} (h : c.isG x = true) : Gl X x := by
  have k : X.env.scope.names.lookup x = c.kd x := by unfold Cc.kd; rw [ok.sc]
  show X.env.scope.names.lookup x = _
  rw [k]
  exact of_decide_eq_true h
theorem Ok7.bi (ok : Ok7 c X cf cd) {x : Str} (h : c.bl x = true) : Gl X x ∧ X.mg x = none ∧ (x == ("__debug__" : Str)) = false ∧ x ≠ "__name__" := by
  unfold Cc.bl at h
  rw [Bool.and_eq_true, Bool.and_eq_true, Bool.and_eq_true, Bool.not_eq_true', Bool.not_eq_true'] at h
  exact ⟨ok.gl h.1.1.1, ok.bl x (of_decide_eq_true h.1.1.2), h.1.2, fun e => by rw [e] at h; simp at h⟩
theorem star_cons {a : Expr} {es : List Expr} {env : Env} (h : isStar a = false) : starEach (a :: es) env = (false, eval a env) :: starEach es env := by
  cases a <;> first | rfl | cases h
theorem mapM2_some {α β γ : Type} {f : α → β → γ} {x : Option α} {y : Option β} {r : γ} (h : mapM2 f x y = some r) : ∃ a b, x = some a ∧ y = some b ∧ r = f a b := by
  cases x with
  | none => cases h
  | some a =>
    cases y with
    | none => cases h
    | some b => cases h; exact ⟨a, b, rfl, rfl, rfl⟩
theorem map_some' {α β : Type} {f : α → β} {x : Option α} {r : β} (h : x.map f = some r) : ∃ a, x = some a ∧ r = f a := by
  cases x with
  | none => cases h
  | some a => cases h; exact ⟨a, rfl, rfl⟩
theorem opOk (ok : Ok7 c X cf cd) {op : Operator} {o : BO} (h : cpOp op = some o) : OpS X (binaryOp op) (binD o) := by
  cases op <;> cases h
  · exact opAdd
  · exact opSub
  · exact opMul
  · exact opMod
  · exact opPow
  · exact opFdiv
theorem coOk (ok : Ok7 c X cf cd) (op : CmpOp) : OpS X (compareOp op) (cmpD (cpCo op)) := by
  have u := ok.un
  cases op
  · exact opEq (by omega)
  · exact opNe (by omega)
  · exact opLt
  · exact opLe
  · exact opGt
  · exact opGe
  · exact opIs
  · exact opIsn
  · exact opIn u
  · exact opNin u
theorem marks {op : CmpOp} {b : Expr} (h : isSetE b = false) : behindInMarks op b = false := by
  cases b <;> first | rfl | cases h
/-- no set display, no star is read -/
theorem cpE_no {n : Nat} {e : Expr} {i : E} (h : cpE n c e = some i) : isStar e = false ∧ isSetE e = false ∧ isSlice e = false := by
  cases n with
  | zero => cases h
  | succ n => cases e <;> first | exact ⟨rfl, rfl, rfl⟩ | cases h
/-- a test by a value -/
theorem val_ts {e : Expr} {i : E} (h : ES X cf cd e i) (he : ∀ whole, isTrue e X.env whole = (do let v ← whole; standAt e.pos; holding [v] (truthy v))) : ES X cf cd e i ∧ (isIf e = false → TS_ X cf cd e i) := ⟨h, fun _ => ts_val h he⟩
theorem es_f1 (ok : Ok7 c X cf cd) {x : Str} {f : F1} {a : Expr} {ia : E} {p pos : Pos} (hx : f1Of x = some f) (hb : c.bl x = true) (ha : ES X cf cd a ia) (hst : isStar a = false) : ES X cf cd (.Call (.Name x p) [a] [] pos) (.f1 f ia) := by
  obtain ⟨hg, hm, hd, hn⟩ := ok.bi hb
  have hs := star_cons (es := []) (env := X.env) hst
  unfold f1Of at hx
  split at hx
  · rename_i e; subst e; cases hx; exact es_f1B csLen hg hm (by decide +kernel) hn hd ha hs
  split at hx
  · rename_i e; subst e; cases hx; exact es_f1B (csSum ok.calm) hg hm (by decide +kernel) hn hd ha hs
  split at hx
  · rename_i e; subst e; cases hx; exact es_f1B (csSorted ok.un) hg hm (by decide +kernel) hn hd ha hs
  split at hx
  · rename_i e; subst e; cases hx; exact es_f1T (csList ok.calm) hg hm (by decide +kernel) hn hd ha hs
  split at hx
  · rename_i e; subst e; cases hx; exact es_f1T csTuple hg hm (by decide +kernel) hn hd ha hs
  split at hx
  · rename_i e; subst e; cases hx; exact es_f1B csAbs hg hm (by decide +kernel) hn hd ha hs
  split at hx
  · rename_i e; subst e; cases hx; exact es_f1T csInt hg hm (by decide +kernel) hn hd ha hs
  split at hx
  · rename_i e; subst e; cases hx; exact es_f1B (csMax ok.calm) hg hm (by decide +kernel) hn hd ha hs
  split at hx
  · rename_i e; subst e; cases hx; exact es_f1B (csAny ok.calm) hg hm (by decide +kernel) hn hd ha hs
  split at hx
  · rename_i e; subst e; cases hx; exact es_f1B (csAll ok.calm) hg hm (by decide +kernel) hn hd ha hs
  split at hx
  · rename_i e; subst e; cases hx; exact es_f1T csBool hg hm (by decide +kernel) hn hd ha hs
  · cases hx
theorem es_f2 (ok : Ok7 c X cf cd) {x : Str} {f : F2} {a b : Expr} {ia ib : E} {p pos : Pos} (hx : f2Of x = some f) (hb : c.bl x = true) (h1 : ES X cf cd a ia) (h2 : ES X cf cd b ib) (s1 : isStar a = false) (s2 : isStar b = false) : ES X cf cd (.Call (.Name x p) [a, b] [] pos) (.f2 f ia ib) := by
  obtain ⟨hg, hm, hd, hn⟩ := ok.bi hb
  unfold f2Of at hx
  split at hx
  · rename_i e; subst e; cases hx; exact es_f2B (max2S ok.calm) hg hm (by decide +kernel) hn hd h1 h2 (star_cons s1) (star_cons s2)
  split at hx
  · rename_i e; subst e; cases hx; exact es_f2B (min2S ok.calm) hg hm (by decide +kernel) hn hd h1 h2 (star_cons s1) (star_cons s2)
  · cases hx
theorem tyAt_name {x : Str} {t : Ty} (h : tyAt x = some t) : x = Str.ofString (tyName t) := by
  unfold tyAt at h
  split at h
  · rename_i e; cases h; exact e
  split at h
  · rename_i e; cases h; exact e
  split at h
  · rename_i e; cases h; exact e
  split at h
  · rename_i e; cases h; exact e
  split at h
  · rename_i e; cases h; exact e
  · cases h
theorem es_isi (ok : Ok7 c X cf cd) {x : Str} {a b : Expr} {ia : E} {ts : List Ty} {p pos : Pos} (hx : x = "isinstance") (hb : c.bl x = true) (h1 : ES X cf cd a ia) (s1 : isStar a = false) (h : isC c b = some ts) : ES X cf cd (.Call (.Name x p) [a, b] [] pos) (.isi ia ts) := by
  obtain ⟨hg, hm, hd, hn⟩ := ok.bi hb
  unfold isC at h
  split at h
  · rename_i y q
    split at h
    · rename_i hy
      obtain ⟨t, ht, rfl⟩ := map_some' h
      obtain ⟨g1, g2, _⟩ := ok.bi hy
      have e := tyAt_name ht
      subst e
      exact es_isi1 hx hg hm g1 g2 h1 (star_cons s1)
    · cases h
  · rename_i y1 q1 y2 q2 y3 q3 k q
    split at h
    · rename_i hy
      rw [Bool.and_eq_true, Bool.and_eq_true] at hy
      split at h
      · rename_i t1 t2 t3 e1 e2 e3
        cases h
        obtain ⟨g1, g2, _⟩ := ok.bi hy.1.1
        obtain ⟨g3, g4, _⟩ := ok.bi hy.1.2
        obtain ⟨g5, g6, _⟩ := ok.bi hy.2
        have e1 := tyAt_name e1
        have e2 := tyAt_name e2
        have e3 := tyAt_name e3
        subst e1
        subst e2
        subst e3
        refine es_isi3 hx hg hm (fun t ht => ?_) (fun t ht => ?_) h1 (star_cons s1)
        · simp at ht
          rcases ht with rfl | rfl | rfl
          · exact g1
          · exact g3
          · exact g5
        · simp at ht
          rcases ht with rfl | rfl | rfl
          · exact g2
          · exact g4
          · exact g6
      · cases h
    · cases h
  · cases h
end
/-! targets -/
mutual
theorem cpT_ok {c : Cc} {X : Cx} {cf : CF} {cd : CD} (ok : Ok7 c X cf cd) : ∀ {e : Expr} {t : T}, cpT c e = some t → PG X e (gT X.w X.K true t) ∧ (isTupE e = true → PG X e (gT X.w X.K false t))
  | .Name x p, t, h => by
    obtain ⟨i, h', rfl⟩ := map_some' h
    obtain ⟨h1, h2, h3⟩ := ok.store h'
    exact ⟨gt_nm (by rw [ok.N]; exact ok.nd) h1 h2 h3, fun z => by cases z⟩
  | .Tuple es k p, t, h => by
    obtain ⟨ts, h', rfl⟩ := map_some' h
    obtain ⟨h1, h2, h3⟩ := cpTs_ok ok h'
    exact ⟨gt_tp ok.calm h1 h2 h3, fun _ => gt_tp ok.calm h1 h2 h3⟩
theorem cpTs_ok {c : Cc} {X : Cx} {cf : CF} {cd : CD} (ok : Ok7 c X cf cd) : ∀ {es : List Expr} {ts : List T}, cpTs c es = some ts → PGs X es (gTs X.w X.K ts) ∧ (assignEach es X.env).length = ts.length ∧ (assignEach es X.env).findIdx? (·.1) = none
  | [], ts, h => by cases h; exact ⟨gts_nil, rfl, rfl⟩
  | e :: es, ts, h => by
    obtain ⟨t, r, h1, h2, rfl⟩ := mapM2_some h
    obtain ⟨g1, g2, g3⟩ := cpTs_ok ok h2
    have hs : assignEach (e :: es) X.env = (false, assign e X.env) :: assignEach es X.env := by
      cases e <;> first | rfl | cases h1
    refine ⟨gts_cons (cpT_ok ok h1).1 g1 (by rw [hs]; rfl), by rw [hs, List.length_cons, List.length_cons, g2], ?_⟩
    rw [hs, List.findIdx?_cons]
    simp [g3]
end
end Mi
end
section
set_option Elab.async false
set_option linter.all false
set_option maxRecDepth 100000
set_option maxHeartbeats 2000000
/-! S7c: what the reading of a text promises: expressions, all of them. -/
namespace Mi
open PySem PySem.Spec PyProof.Rows L2

theorem es_comp2 {X : Cx} {cf : CF} {cd : CD} {elt tg iter tg1 iter1 : Expr} {scope : Scope} {own : List (Str × Nat)} {pos : Pos} {ie : E} {t t2 : T} {it it2 : It} {b b2 : Bool} (hc : X.calm = true) (hN : X.N.Nodup) (hi : IS X cf cd b tg iter it) (ok : BlkOk X.N X.env.scope scope own) (hv : ∀ i ∈ t2.js, i ∈ own.map (·.2))
    (hg : ∀ (s : Shared) (H : Hp) (C : Addr) (cl : List (Str × Addr)) (fp : List Addr), PG (X.blk s H scope (compEnvC scope cl C X.env) fp) tg (gT X.w X.K b t))
    (hi1 : ∀ (s : Shared) (H : Hp) (C : Addr) (cl : List (Str × Addr)) (fp : List Addr), IS (X.blk s H scope (compEnvC scope cl C X.env) fp) cf cd b2 tg1 iter1 it2)
    (hg1 : ∀ (s : Shared) (H : Hp) (C : Addr) (cl : List (Str × Addr)) (fp : List Addr), PG (X.blk s H scope (compEnvC scope cl C X.env) fp) tg1 (gT X.w X.K b2 t2))
    (he : ∀ (s : Shared) (H : Hp) (C : Addr) (cl : List (Str × Addr)) (fp : List Addr), ES (X.blk s H scope (compEnvC scope cl C X.env) fp) cf cd elt ie) (hs : ∀ x, foldedSetIterable iter X.env x = pure x) (hs1 : ∀ env x, foldedSetIterable iter1 env x = pure x)
    (hj : ∀ j ∈ t.js, j ∈ own.map (·.2)) : ES X cf cd (.ListComp elt [⟨tg, iter, [], 0⟩, ⟨tg1, iter1, [], 0⟩] scope pos) (.comp2 (own.map (·.2)) t2.js ie t it t2 it2) :=
  PE.imp (pe_lc2 hc hN hi ok hv hg (fun _ _ _ _ _ => pts_nil) hi1 hg1 (fun _ _ _ _ _ => pts_nil) he hs hs1) fun σ H Q q => lc2_reads hj (fun _ h => h) hv q
theorem noset {iter : Expr} {env : Env} (h : isSetE iter = false) : ∀ x, foldedSetIterable iter env x = pure x := fun x => by
  cases iter <;> first | rfl | cases h
theorem plainIx {b : Expr} (h : isSlice b = false) : PlainIx b := fun o i => by
  cases b <;> first | rfl | cases h
theorem any_false : ∀ {es : List Expr} {env : Env} {pos : Pos}, (∀ e ∈ es, isStar e = false) → (backTo pos (starEach es env)).any (·.1) = false
  | [], _, _, _ => rfl
  | e :: es, env, pos, h => by
    rw [star_cons (h e List.mem_cons_self)]
    show (false || (backTo pos (starEach es env)).any (·.1)) = false
    rw [any_false fun x hx => h x (List.mem_cons_of_mem _ hx)]
    rfl
section
variable (cf : CF) (cd : CD)
structure All7 (n : Nat) : Prop where
  e : ∀ {c : Cc} {X : Cx} {e : Expr} {i : E}, Ok7 c X cf cd → cpE n c e = some i → ES X cf cd e i ∧ (isIf e = false → TS_ X cf cd e i)
  cmp : ∀ {c : Cc} {X : Cx} {a b : Expr} {op : CmpOp} {i : E} {pos : Pos}, Ok7 c X cf cd → cpCmp n c a op b = some i → ES X cf cd (.Compare a [op] [b] pos) i ∧ TS_ X cf cd (.Compare a [op] [b] pos) i
  sub : ∀ {c : Cc} {X : Cx} {a b : Expr} {i : E} {pos : Pos}, Ok7 c X cf cd → cpSub n c a b = some i → ES X cf cd (.Subscript a b pos) i
  o : ∀ {c : Cc} {X : Cx} {e : Option Expr} {i : Option E}, Ok7 c X cf cd → cpO n c e = some i → OS_ X cf cd e i
  es : ∀ {c : Cc} {X : Cx} {es : List Expr} {is : List E}, Ok7 c X cf cd → cpEs n c es = some is → EsS X cf cd es is ∧ ∀ e ∈ es, isStar e = false
  b : ∀ {c : Cc} {X : Cx} {op : BoolOp} {vs : List Expr} {i : E} {pos : Pos}, Ok7 c X cf cd → cpB n c op vs = some i → ES X cf cd (.BoolOp op vs pos) i ∧ WS_ X cf cd (.BoolOp op vs pos) i
  call : ∀ {c : Cc} {X : Cx} {f : Expr} {as : List Expr} {ks : List Keyword} {pos : Pos} {i : E}, Ok7 c X cf cd → cpCall n c f as ks pos = some i → ES X cf cd (.Call f as ks pos) i
  bi : ∀ {c : Cc} {X : Cx} {x : Str} {as : List Expr} {p pos : Pos} {i : E}, Ok7 c X cf cd → c.bl x = true → cpBi n c x as = some i → ES X cf cd (.Call (.Name x p) as [] pos) i
  it : ∀ {c : Cc} {X : Cx} {tg e : Expr} {i : It}, Ok7 c X cf cd → cpI n c (isTupE tg) e = some i → IS X cf cd (!isTupE tg) tg e i
  cs : ∀ {c : Cc} {X : Cx} {es : List Expr} {is : List E}, Ok7 c X cf cd → cpCs n c es = some is → QS X cf cd es is
  comp : ∀ {c : Cc} {X : Cx} {elt : Expr} {gens : List Comprehension} {scope : Scope} {pos : Pos} {i : E}, Ok7 c X cf cd → cpComp n c elt gens scope = some i → ES X cf cd (.ListComp elt gens scope pos) i
end
section
variable {X : Cx} {cf : CF} {cd : CD} {a : Expr} {ia : E} {pos : Pos}
theorem ts_nilO (hu : X.A.units + 70 < cLine) {i : Nat} {y : Str} {p2 p3 : Pos} {neg : Bool} (hN : X.N[i]? = some y) (hv : Vis X.env.scope y) (hd : (y == ("__debug__" : Str)) = false) (hcd : (y == ("__classdict__" : Str)) = false) :
    TS_ X cf cd (.Compare (.Name y p2) [if neg then .NotEq else .Eq] [.List [] p3] pos) (.nilO i neg) := by
  refine ⟨fun pins s σ H Q I ⟨env, M, d, env', sr, ev, k⟩ => ?_⟩
  simp only [evE] at ev
  split at ev
  · rename_i xs h
    obtain ⟨hz, ev⟩ := gd_of ev
    cases ev
    obtain ⟨a, hs, ma, ow⟩ := sr.own i _ (pk_own h)
    cases ow with
    | lst g r =>
      have dp : ∀ {H' : Hp}, Same H H' → Dp X.K H' (.ref a) (.list xs) := fun sm => .lst (SqL.of (sm _ _ g)) ((r.same sm).dpN (show ndL _ = true from nd_lay (okD_lay hz)))
      have e0 : okD (.list []) = true := by decide +kernel
      have eq0 : PyData.eqv (.list xs) (.list []) = xs.isEmpty := by cases xs <;> simp [PyData.eqv, PyData.eqvAll]
      have lst0 : PE X (.List [] p3) (tLst tNil) := pe_lst pa_nil
      cases neg
      · refine (pt_cmpR (op_eqD (by omega)) (pe_var hN hv hd hcd) lst0 (nomark _)).run pins s σ H Q I ⟨_, hs, Nat.zero_le _, fun p hp => ⟨.list xs, .list [], dp (same_upd hp), .lst (SqL.of upd_same) .nil, hz, e0, _, rfl, ?_⟩⟩
        rw [eq0]
        simpa using k _ M (sr.same (same_upd hp)) (Evo.same (same_upd hp))
      · refine (pt_cmpR (op_neD (by omega)) (pe_var hN hv hd hcd) lst0 (nomark _)).run pins s σ H Q I ⟨_, hs, Nat.zero_le _, fun p hp => ⟨.list xs, .list [], dp (same_upd hp), .lst (SqL.of upd_same) .nil, hz, e0, _, rfl, ?_⟩⟩
        rw [eq0]
        simpa using k _ M (sr.same (same_upd hp)) (Evo.same (same_upd hp))
  · cases ev
theorem ts_inO (hu : X.A.units + 70 < cLine) {i : Nat} {y : Str} {p2 : Pos} {neg : Bool} (hN : X.N[i]? = some y) (hv : Vis X.env.scope y) (hd : (y == ("__debug__" : Str)) = false) (hcd : (y == ("__classdict__" : Str)) = false) (ha : ES X cf cd a ia) :
    TS_ X cf cd (.Compare a [if neg then .NotIn else .In] [.Name y p2] pos) (.inO ia i neg) := by
  refine ⟨fun pins s σ H Q I ⟨env, M, d, env', sr, ev, k⟩ => ?_⟩
  obtain ⟨x, e1, h1, ev⟩ := bnd_inv ev
  split at ev
  · rename_i o h
    split at ev
    · rename_i c hc
      cases ev
      have ho := pk_own h
      have hm : behindInMarks (if neg then CmpOp.NotIn else .In) (.Name y p2) = false := by cases neg <;> rfl
      refine wpAny_isTrue_Compare1 (thn (ha.run pins s σ H _ I (step1 sr h1 (R := fun v H1 => ∃ M1, SR X.w X.K env' M1 σ H1 ∧ Evo (OwA env σ) H M (OwA env' σ) H1 M1 ∧ Rp X.w X.K H1 M1 x v) fun v H1 M1 sr1 ev1 r1 => ⟨M1, sr1, ev1, r1⟩)) fun u s1 ⟨v, H1, I1, rv, M1, sr1, ev1, r1⟩ => ?_) hm
      obtain ⟨a', hs, ma, ow⟩ := sr1.own i o ho
      refine thn ((pe_var (pos := p2) hN hv hd hcd).run pins s1 σ H1 (fun v2 H2 => v2 = .ref a' ∧ H2 = H1) I1 ⟨_, hs, rfl, rfl⟩) fun u2 s2 ⟨v2, H2, I2, rv2, e2, eH⟩ => ?_
      subst e2 eH
      -- what is told is a bool
      have fin : ∀ {q : Bool}, wpAny (model X.prog X.w) X.A (compareOp (if neg then CmpOp.NotIn else .In) u u2) (EP X pins σ fun z H' => z = .bl q ∧ H' = H2) X.xe s2 → Q q H2 → wpAny (model X.prog X.w) X.A (compareOp (if neg then CmpOp.NotIn else .In) u u2) (fun c s3 => wpAny (model X.prog X.w) X.A (truthy c) (TP X pins σ Q) X.xe s3) X.xe s2 := fun {q} w0 hq =>
        thn w0 fun c s3 ⟨z, H3, I3, r3, e, eH⟩ => by
          subst e eH
          cases r3
          exact wpAny_truthy_bool ⟨H3, I3, hq⟩
      cases ow with
      | lst g r =>
        obtain ⟨hb, rfl⟩ := gd_of (show gd _ (some _) = some c from hc)
        rw [Bool.and_eq_true] at hb
        obtain ⟨as, q1⟩ := Dp.reads I2 _ _ _ (r1.dp (okD_lay hb.1)) rv
        obtain ⟨bs, q2⟩ := Dp.reads I2 _ (.ref a') _ (.lst (SqL.of g) (r.dpN (show ndL _ = true from nd_lay (okD_lay hb.2)))) rv2
        cases neg
        · exact fin (SeqAt.in_list_reads q2 q1 (SeqAt.canLay_of_shaped hb.2) (SeqAt.canLay_of_shaped hb.1) (room_in_shaped hb.1 (by omega)) ⟨.bl _, H2, I2, rfl, rfl, rfl⟩) (by simpa using k H2 M1 sr1 ev1)
        · exact fin (SeqAt.notIn_list_reads q2 q1 (SeqAt.canLay_of_shaped hb.2) (SeqAt.canLay_of_shaped hb.1) (room_in_shaped hb.1 (by omega)) ⟨.bl _, H2, I2, rfl, rfl, rfl⟩) (by simpa using k H2 M1 sr1 ev1)
      | dct g r nd =>
        obtain ⟨hb, rfl⟩ := gd_of (show gd _ (some _) = some c from hc)
        cases rv2
        cases neg
        · exact fin (dIn (by omega) I2 (.inl g) r nd hb r1 rv ⟨rfl, rfl⟩) (by simpa using k H2 M1 sr1 ev1)
        · exact fin (dNin (by omega) I2 (.inl g) r nd hb r1 rv ⟨rfl, rfl⟩) (by simpa using k H2 M1 sr1 ev1)
    · cases ev
  · cases ev
end
section
variable {cf : CF} {cd : CD} {n : Nat} {c : Cc} {X : Cx}
theorem muSlot_name {e : Expr} {i : Nat} (h : muSlot c e = some i) : ∃ y p, e = .Name y p ∧ c.slot y = some i := by
  cases e with
  | Name y p =>
    have h : (if decide (y ∈ c.mu) then c.slot y else none) = some i := h
    split at h
    · exact ⟨y, p, rfl, h⟩
    · cases h
  | _ => cases h
theorem ok_cmp (A : All7 cf cd n) {a b : Expr} {op : CmpOp} {i : E} {pos : Pos} (ok : Ok7 c X cf cd) (h : cpCmp (n + 1) c a op b = some i) : ES X cf cd (.Compare a [op] [b] pos) i ∧ TS_ X cf cd (.Compare a [op] [b] pos) i := by
  unfold cpCmp at h
  split at h
  · rename_i h1
    cases h
    obtain ⟨y, p, rfl, hs⟩ := muSlot_name h1
    obtain ⟨g1, g2, g3, g4⟩ := ok.slot hs
    exact ⟨es_nilO (neg := false) ok.un g1 g2 g3 g4, ts_nilO (neg := false) ok.un g1 g2 g3 g4⟩
  · rename_i h1
    cases h
    obtain ⟨y, p, rfl, hs⟩ := muSlot_name h1
    obtain ⟨g1, g2, g3, g4⟩ := ok.slot hs
    exact ⟨es_nilO (neg := true) ok.un g1 g2 g3 g4, ts_nilO (neg := true) ok.un g1 g2 g3 g4⟩
  · rename_i h1
    obtain ⟨e, he, rfl⟩ := map_some' h
    obtain ⟨y, p, rfl, hs⟩ := muSlot_name h1
    obtain ⟨g1, g2, g3, g4⟩ := ok.slot hs
    exact ⟨es_inO (neg := false) ok.un g1 g2 g3 g4 (A.e ok he).1, ts_inO (neg := false) ok.un g1 g2 g3 g4 (A.e ok he).1⟩
  · rename_i h1
    obtain ⟨e, he, rfl⟩ := map_some' h
    obtain ⟨y, p, rfl, hs⟩ := muSlot_name h1
    obtain ⟨g1, g2, g3, g4⟩ := ok.slot hs
    exact ⟨es_inO (neg := true) ok.un g1 g2 g3 g4 (A.e ok he).1, ts_inO (neg := true) ok.un g1 g2 g3 g4 (A.e ok he).1⟩
  · obtain ⟨x, y, h1, h2, rfl⟩ := mapM2_some h
    exact ⟨es_cmp (coOk ok _) (marks (cpE_no h2).2.1) (A.e ok h1).1 (A.e ok h2).1, ts_cmp (coOk ok _) (marks (cpE_no h2).2.1) (A.e ok h1).1 (A.e ok h2).1⟩
theorem ok_sub (A : All7 cf cd n) {a b : Expr} {i : E} {pos : Pos} (ok : Ok7 c X cf cd) (h : cpSub (n + 1) c a b = some i) : ES X cf cd (.Subscript a b pos) i := by
  unfold cpSub at h
  split at h
  · split at h
    · rename_i x l u h1 h2 h3
      cases h
      exact es_slc (A.e ok h1).1 (A.o ok h2) (A.o ok h3)
    · cases h
  · cases h
  · rename_i hn1 hn2
    have hsl : isSlice b = false := by
      cases b <;> first | rfl | exact (hn2 _ _ _ _ rfl).elim
    split at h
    · rename_i s h1
      obtain ⟨e, he, rfl⟩ := map_some' h
      obtain ⟨y, p, rfl, hs⟩ := muSlot_name h1
      obtain ⟨g1, g2, g3, g4⟩ := ok.slot hs
      exact es_idxO (by have := ok.un; omega) g1 g2 g3 g4 (A.e ok he).1 (plainIx hsl)
    · obtain ⟨x, y, h1, h2, rfl⟩ := mapM2_some h
      exact es_idx (by have := ok.un; omega) (A.e ok h1).1 (A.e ok h2).1 (plainIx hsl)
theorem ok_o (A : All7 cf cd n) {e : Option Expr} {i : Option E} (ok : Ok7 c X cf cd) (h : cpO (n + 1) c e = some i) : OS_ X cf cd e i := by
  unfold cpO at h
  split at h
  · cases h
    exact os_none
  · obtain ⟨x, hx, rfl⟩ := map_some' h
    exact os_some (A.e ok hx).1
theorem ok_es (A : All7 cf cd n) {es : List Expr} {is : List E} (ok : Ok7 c X cf cd) (h : cpEs (n + 1) c es = some is) : EsS X cf cd es is ∧ ∀ e ∈ es, isStar e = false := by
  unfold cpEs at h
  split at h
  · cases h
    exact ⟨ess_nil, fun e he => by cases he⟩
  · obtain ⟨x, y, h1, h2, rfl⟩ := mapM2_some h
    obtain ⟨g1, g2⟩ := A.es ok h2
    have st := (cpE_no h1).1
    refine ⟨ess_cons (A.e ok h1).1 g1 (star_cons st), fun e he => ?_⟩
    rcases List.mem_cons.mp he with rfl | he
    · exact st
    · exact g2 e he
theorem ok_b (A : All7 cf cd n) {op : BoolOp} {vs : List Expr} {i : E} {pos : Pos} (ok : Ok7 c X cf cd) (h : cpB (n + 1) c op vs = some i) : ES X cf cd (.BoolOp op vs pos) i ∧ WS_ X cf cd (.BoolOp op vs pos) i := by
  unfold cpB at h
  split at h
  · cases h
  · split at h
    · cases h
    · rename_i hi
      obtain ⟨g1, g2⟩ := A.e ok h
      have g2 := g2 (by simpa using hi)
      refine ⟨es_one g1, ?_⟩
      cases op
      · exact ws_and1 g2
      · exact ws_or1 g2
  · split at h
    · cases h
    · rename_i hi
      split at h
      · obtain ⟨x, y, h1, h2, rfl⟩ := mapM2_some h
        obtain ⟨g1, g2⟩ := A.e ok h1
        have g2 := g2 (by simpa using hi)
        obtain ⟨g3, g4⟩ := A.b (pos := pos) ok h2
        exact ⟨es_and g1 g3, ws_and g2 g4⟩
      · obtain ⟨x, y, h1, h2, rfl⟩ := mapM2_some h
        obtain ⟨g1, g2⟩ := A.e ok h1
        have g2 := g2 (by simpa using hi)
        obtain ⟨g3, g4⟩ := A.b (pos := pos) ok h2
        exact ⟨es_or g1 g3, ws_or g2 g4⟩
theorem ok_call (A : All7 cf cd n) {f : Expr} {as : List Expr} {ks : List Keyword} {pos : Pos} {i : E} (ok : Ok7 c X cf cd) (h : cpCall (n + 1) c f as ks pos = some i) : ES X cf cd (.Call f as ks pos) i := by
  unfold cpCall at h
  split at h
  · rename_i x p
    split at h
    · rename_i hb
      exact A.bi ok hb h
    · split at h
      · rename_i hg
        rw [Bool.and_eq_true, Bool.not_eq_true'] at hg
        split at h
        · rename_i k hl
          obtain ⟨is, he, rfl⟩ := map_some' h
          obtain ⟨g1, g2⟩ := A.es ok he
          have F := ok.fs _ _ _ hl
          cases as with
          | nil =>
            have e0 : is = [] := by
              cases n with
              | zero => cases he
              | succ n => cases he; rfl
            subst e0
            exact es_call0 F (ok.gl hg.1) hg.2
          | cons a as => exact es_call F (ok.gl hg.1) hg.2 g1 (star_cons (g2 a List.mem_cons_self)) (any_false fun x hx => g2 x (List.mem_cons_of_mem _ hx))
        · rename_i k hl
          split at h
          · rename_i y p2 rest
            split at h
            · rename_i j hj
              obtain ⟨is, he, rfl⟩ := map_some' h
              obtain ⟨g1, g2⟩ := A.es ok he
              obtain ⟨q1, q2, q3, q4⟩ := ok.slot hj
              exact es_callB (ok.fs _ _ _ hl) (ok.gl hg.1) hg.2 q1 q2 q3 q4 g1 (any_false g2)
            · cases h
          · cases h
        · cases h
      · cases h
  · rename_i a m apos b
    split at h
    · rename_i hm
      split at h
      · rename_i hq
        rw [Bool.and_eq_true] at hq
        obtain ⟨x, y, h1, h2, rfl⟩ := mapM2_some h
        exact es_get (by have := ok.un; omega) hm (A.e ok h1).1 (A.e ok h2).1 hq.2 hq.1 (star_cons (cpE_no h2).1)
      · cases h
    · cases h
  · cases h
theorem rngOf_some {a : Expr} {as : List Expr} (h : rngOf c a = some as) : ∃ p pos, a = .Call (.Name "range" p) as [] pos ∧ c.bl "range" = true := by
  unfold rngOf at h
  split at h
  · split at h
    · rename_i e
      split at h
      · rename_i hb
        cases h
        subst e
        exact ⟨_, _, rfl, hb⟩
      · cases h
    · cases h
  · cases h
theorem ok_bi (A : All7 cf cd n) {x : Str} {as : List Expr} {p pos : Pos} {i : E} (ok : Ok7 c X cf cd) (hb : c.bl x = true) (h : cpBi (n + 1) c x as = some i) : ES X cf cd (.Call (.Name x p) as [] pos) i := by
  obtain ⟨hg, hm, hd, hn⟩ := ok.bi hb
  unfold cpBi at h
  split at h
  · rename_i a
    split at h
    · rename_i s h1
      split at h
      · rename_i hx
        cases h
        obtain ⟨y, p2, rfl, hs⟩ := muSlot_name h1
        obtain ⟨g1, g2, g3, g4⟩ := ok.slot hs
        exact es_lenO hx hg hm g1 g2 g3 g4
      · split at h
        · rename_i f hf
          obtain ⟨e, he, rfl⟩ := map_some' h
          exact es_f1 ok hf hb (A.e ok he).1 (cpE_no he).1
        · cases h
    · split at h
      · rename_i b hr
        split at hr
        · rename_i hx
          obtain ⟨e, he, rfl⟩ := map_some' h
          obtain ⟨p2, pos2, rfl, hb2⟩ := rngOf_some hr
          obtain ⟨g1, g2, _⟩ := ok.bi hb2
          exact es_listR hx ok.calm hg hm g1 g2 (A.e ok he).1 (star_cons (cpE_no he).1)
        · cases hr
      · rename_i b d hr
        split at hr
        · rename_i hx
          obtain ⟨e, g, he, hg', rfl⟩ := mapM2_some h
          obtain ⟨p2, pos2, rfl, hb2⟩ := rngOf_some hr
          obtain ⟨g1, g2, _⟩ := ok.bi hb2
          exact es_listR2 hx ok.calm hg hm g1 g2 (A.e ok he).1 (A.e ok hg').1 (star_cons (cpE_no he).1) (star_cons (cpE_no hg').1)
        · cases hr
      · cases h
      · split at h
        · rename_i f hf
          obtain ⟨e, he, rfl⟩ := map_some' h
          exact es_f1 ok hf hb (A.e ok he).1 (cpE_no he).1
        · cases h
  · rename_i a b
    split at h
    · rename_i hx
      split at h
      · rename_i ts ht
        obtain ⟨e, he, rfl⟩ := map_some' h
        exact es_isi ok hx hb (A.e ok he).1 (cpE_no he).1 ht
      · cases h
    · split at h
      · rename_i f hf
        obtain ⟨e, g, he, hg', rfl⟩ := mapM2_some h
        exact es_f2 ok hf hb (A.e ok he).1 (A.e ok hg').1 (cpE_no he).1 (cpE_no hg').1
      · cases h
  · cases h
theorem tup_shape {tg : Expr} (h : isTupE tg = true) : ∃ es k p, tg = .Tuple es k p := by
  cases tg <;> first | cases h | skip
  exact ⟨_, _, _, rfl⟩
theorem ok_it (A : All7 cf cd n) {tg e : Expr} {i : It} (ok : Ok7 c X cf cd) (h : cpI (n + 1) c (isTupE tg) e = some i) : IS X cf cd (!isTupE tg) tg e i := by
  have val : ∀ {e : Expr} {i : It}, (cpE n c e).map It.val = some i → IS X cf cd (!isTupE tg) tg e i := fun h => by
    obtain ⟨x, hx, rfl⟩ := map_some' h
    exact is_val (A.e ok hx).1
  unfold cpI at h
  split at h
  · rename_i x p args pos
    split at h
    · rename_i hb
      obtain ⟨hg, hm, hd, hn⟩ := ok.bi hb
      split at h
      · rename_i hx
        split at h
        · obtain ⟨e, he, rfl⟩ := map_some' h
          exact is_rng hx hg hm (A.e ok he).1 (star_cons (cpE_no he).1)
        · obtain ⟨e, g, he, hg', rfl⟩ := mapM2_some h
          exact is_rng2 hx hg hm (A.e ok he).1 (A.e ok hg').1 (star_cons (cpE_no he).1) (star_cons (cpE_no hg').1)
        · cases h
      · split at h
        · rename_i hx
          split at h
          · rename_i ht
            obtain ⟨e, he, rfl⟩ := map_some' h
            obtain ⟨es, k, p, rfl⟩ := tup_shape ht
            exact is_enum hx hg hm (A.e ok he).1 (star_cons (cpE_no he).1)
          · cases h
        · split at h
          · rename_i hx
            split at h
            · rename_i ht
              obtain ⟨e, g, he, hg', rfl⟩ := mapM2_some h
              obtain ⟨es, k, p, rfl⟩ := tup_shape ht
              exact is_zip hx hg hm (A.e ok he).1 (A.e ok hg').1 (star_cons (cpE_no he).1) (star_cons (cpE_no hg').1)
            · cases h
          · exact val h
    · exact val h
  · rename_i a m apos pos
    split at h
    · rename_i hq
      rw [Bool.and_eq_true] at hq
      split at h
      · rename_i hm
        obtain ⟨e, he, rfl⟩ := map_some' h
        exact is_vals hm (A.e ok he).1 hq.2 hq.1
      · split at h
        · rename_i hm
          split at h
          · rename_i ht
            obtain ⟨e, he, rfl⟩ := map_some' h
            obtain ⟨es, k, p, rfl⟩ := tup_shape ht
            exact is_items hm (A.e ok he).1 hq.2 hq.1
          · cases h
        · cases h
    · cases h
  · exact val h
theorem ok_cs (A : All7 cf cd n) {es : List Expr} {is : List E} (ok : Ok7 c X cf cd) (h : cpCs (n + 1) c es = some is) : QS X cf cd es is := by
  unfold cpCs at h
  split at h
  · cases h
    exact cs_nil
  · split at h
    · cases h
    · rename_i hi
      obtain ⟨e, he, rfl⟩ := map_some' h
      exact cs_one ((A.e ok he).2 (by simpa using hi))
  · cases h
theorem tgOk {tg : Expr} {t : T} (ok : Ok7 c X cf cd) (h : cpT c tg = some t) : PG X tg (gT X.w X.K (!isTupE tg) t) := by
  obtain ⟨h1, h2⟩ := cpT_ok ok h
  cases e : isTupE tg with
  | true => exact h2 e
  | false => exact h1
theorem allJs {js own : List Nat} (h : (js.all fun j => decide (j ∈ own)) = true) : ∀ j ∈ js, j ∈ own := fun j hj => of_decide_eq_true (List.all_eq_true.mp h j hj)
theorem ok_comp (A : All7 cf cd n) {elt : Expr} {gens : List Comprehension} {scope : Scope} {pos : Pos} {i : E} (ok : Ok7 c X cf cd) (h : cpComp (n + 1) c elt gens scope = some i) : ES X cf cd (.ListComp elt gens scope pos) i := by
  unfold cpComp at h
  have hN : X.N.Nodup := by rw [ok.N]; exact ok.nd
  split at h
  · rename_i tg iter ifs asy
    split at h
    · rename_i e0
      subst e0
      split at h
      · cases h
      · rename_i hset
        split at h
        · rename_i it t cs ie h1 h2 h3 h4
          split at h
          · rename_i hq
            cases h
            rw [Bool.and_eq_true] at hq
            have bk : BlkOk X.N X.env.scope scope (ownOf c.N scope) := by rw [ok.N, ok.sc]; exact blkOk_by hq.1
            exact es_comp ok.calm hN (A.it ok h1) bk (fun s H C cl fp => tgOk (ok.blk bk.kind s H C cl fp) h2) (fun s H C cl fp => A.cs (ok.blk bk.kind s H C cl fp) h3) (fun s H C cl fp => (A.e (ok.blk bk.kind s H C cl fp) h4).1) (noset (by simpa using hset)) (allJs hq.2)
          · cases h
        · cases h
    · cases h
  · rename_i tg iter asy tg2 iter2 asy2
    split at h
    · rename_i e0
      obtain ⟨e0, e1⟩ := e0
      subst e0
      subst e1
      split at h
      · cases h
      · rename_i hset
        rw [Bool.or_eq_true, not_or] at hset
        split at h
        · rename_i it t it2 t2 ie h1 h2 h3 h4 h5
          split at h
          · rename_i hq
            cases h
            rw [Bool.and_eq_true, Bool.and_eq_true] at hq
            have bk : BlkOk X.N X.env.scope scope (ownOf c.N scope) := by rw [ok.N, ok.sc]; exact blkOk_by hq.1.1
            exact es_comp2 ok.calm hN (A.it ok h1) bk (allJs hq.2) (fun s H C cl fp => tgOk (ok.blk bk.kind s H C cl fp) h2) (fun s H C cl fp => A.it (ok.blk bk.kind s H C cl fp) h3) (fun s H C cl fp => tgOk (ok.blk bk.kind s H C cl fp) h4)
              (fun s H C cl fp => (A.e (ok.blk bk.kind s H C cl fp) h5).1) (noset (by simpa using hset.1)) (fun env => noset (by simpa using hset.2)) (allJs hq.1.2)
          · cases h
        · cases h
    · cases h
  · cases h
theorem ok_e (A : All7 cf cd n) {e : Expr} {i : E} (ok : Ok7 c X cf cd) (h : cpE (n + 1) c e = some i) : ES X cf cd e i ∧ (isIf e = false → TS_ X cf cd e i) := by
  unfold cpE at h
  split at h
  · rename_i k j pos
    refine val_ts ?_ fun _ => rfl
    cases k <;> cases h
    · exact es_c pe_non trivial
    · exact es_c pe_bl trivial
    · exact es_c pe_int trivial
    · exact es_c pe_str trivial
  · rename_i x pos
    refine val_ts ?_ fun _ => rfl
    split at h
    · rename_i s hs
      cases h
      obtain ⟨g1, g2, g3, g4⟩ := ok.slot hs
      exact es_v g1 g2 g3 g4
    · split at h
      · rename_i hg
        rw [Bool.and_eq_true, Bool.not_eq_true'] at hg
        obtain ⟨k, hk, rfl⟩ := map_some' h
        obtain ⟨v, u, hm, hr, rp⟩ := ok.cs _ _ hk
        exact es_g (pe_glob (ok.gl hg.1) hm hr hg.2) rp
      · cases h
  · refine val_ts ?_ fun _ => rfl
    obtain ⟨is, he, rfl⟩ := map_some' h
    exact es_tup (A.es ok he).1
  · refine val_ts ?_ fun _ => rfl
    obtain ⟨is, he, rfl⟩ := map_some' h
    exact es_lst (A.es ok he).1
  · refine val_ts ?_ fun _ => rfl
    split at h
    · rename_i o ho
      obtain ⟨x, y, h1, h2, rfl⟩ := mapM2_some h
      exact es_bin (opOk ok ho) (A.e ok h1).1 (A.e ok h2).1
    · cases h
  · split at h
    · refine val_ts ?_ fun _ => rfl
      obtain ⟨x, hx, rfl⟩ := map_some' h
      exact es_neg (A.e ok hx).1
    · split at h
      · cases h
      · rename_i hi
        obtain ⟨x, hx, rfl⟩ := map_some' h
        exact ⟨es_nt (A.e ok hx).1, fun _ => ts_nt ((A.e ok hx).2 (by simpa using hi))⟩
    · cases h
  · obtain ⟨g1, g2⟩ := A.b ok h
    exact ⟨g1, fun _ => g2.pt⟩
  · split at h
    · obtain ⟨g1, g2⟩ := A.cmp ok h
      exact ⟨g1, fun _ => g2⟩
    · split at h
      · rename_i i j k h1 h2 h3
        cases h
        exact ⟨es_ch (coOk ok _) (coOk ok _) (by exact marks (cpE_no h3).2.1) (A.e ok h1).1 (A.e ok h2).1 (A.e ok h3).1, fun _ => ts_ch (coOk ok _) (coOk ok _) (by exact marks (cpE_no h3).2.1) (A.e ok h1).1 (A.e ok h2).1 (A.e ok h3).1⟩
      · cases h
    · cases h
  · split at h
    · cases h
    · rename_i hi
      split at h
      · rename_i i j k h1 h2 h3
        cases h
        exact ⟨es_ife ((A.e ok h1).2 (by simpa using hi)) (A.e ok h2).1 (A.e ok h3).1, fun z => by cases z⟩
      · cases h
  · exact val_ts (A.sub ok h) fun _ => rfl
  · exact val_ts (A.call ok h) fun _ => rfl
  · exact val_ts (A.comp ok h) fun _ => rfl
  · cases h
end
theorem all7 (cf : CF) (cd : CD) : ∀ n, All7 cf cd n
  | 0 => ⟨fun _ h => (by cases h), fun _ h => (by cases h), fun _ h => (by cases h), fun _ h => (by cases h), fun _ h => (by cases h), fun _ h => (by cases h), fun _ h => (by cases h), fun _ _ h => (by cases h), fun _ h => (by cases h), fun _ h => (by cases h), fun _ h => (by cases h)⟩
  | n + 1 =>
    have A := all7 cf cd n
    ⟨fun ok h => ok_e A ok h, fun ok h => ok_cmp A ok h, fun ok h => ok_sub A ok h, fun ok h => ok_o A ok h, fun ok h => ok_es A ok h, fun ok h => ok_b A ok h, fun ok h => ok_call A ok h, fun ok hb h => ok_bi A ok hb h, fun ok h => ok_it A ok h, fun ok h => ok_cs A ok h, fun ok h => ok_comp A ok h⟩
end Mi
end
section
set_option Elab.async false
set_option linter.all false
set_option maxRecDepth 100000
set_option maxHeartbeats 2000000
/-! S7d: the reading of statements and of defs. -/
namespace Mi
open PySem PySem.Spec PyProof.Rows L2

theorem star_any {a : Expr} (h : isStar a = false) : (match a with | .Starred .. => true | _ => false) = false := by
  cases a <;> first | rfl | cases h
theorem swap2 {c : Cc} {X : Cx} {cf : CF} {cd : CD} (ok : Ok7 c X cf cd) {x y : Str} {a b : Expr} {px py pt pt2 : Pos} {kt k2 : Nat} (hx : c.kd x = some .local) (hy : c.kd y = some .local) (hl : py.line = px.line) (hxy : x ≠ y) (sa : isStar a = false) (sb : isStar b = false)
    (hf : [a, b].all (foldedForSure 8) = false) (hc : [a, b].all (constantsAlone 8) = false) : swappedStores [.Tuple [.Name x px, .Name y py] kt pt] (.Tuple [a, b] k2 pt2) X.env = pure (some [x, y]) := by
  have hk : X.env.blockKind = .function := by
    unfold Env.blockKind
    rw [ok.sc, ok.kind] <;> rfl
  have kd : ∀ x, X.env.kindOf x = c.kd x := fun x => by
    show X.env.scope.names.lookup x = _
    rw [ok.sc] <;> rfl
  unfold swappedStores
  simp only [kd, hk]
  have hyx : (y == x) = false := beq_eq_false_iff_ne.mpr (Ne.symm hxy)
  have hd : [x, y].eraseDups = [x, y] := by
    simp [List.eraseDups_cons, hyx]
  simp [hx, hy, hl, hd, hf, hc, Expr.pos]
  intro h
  rcases h with h | h <;> (split at h <;> first | (cases sa; done) | (cases sb; done) | (cases h; done))
theorem swap3 {c : Cc} {X : Cx} {cf : CF} {cd : CD} (ok : Ok7 c X cf cd) {x y z : Str} {a b d : Expr} {px py pz pt pt2 : Pos} {kt k2 : Nat} (hx : c.kd x = some .local) (hy : c.kd y = some .local) (hz : c.kd z = some .local) (hl : py.line = px.line) (hl2 : pz.line = px.line) (hxy : x ≠ y) (hxz : x ≠ z) (hyz : y ≠ z) (sa : isStar a = false) (sb : isStar b = false) (sd : isStar d = false)
    (hf : [a, b, d].all (foldedForSure 8) = false) (hc : [a, b, d].all (constantsAlone 8) = false) : swappedStores [.Tuple [.Name x px, .Name y py, .Name z pz] kt pt] (.Tuple [a, b, d] k2 pt2) X.env = pure (some [x, y, z]) := by
  have hk : X.env.blockKind = .function := by
    unfold Env.blockKind
    rw [ok.sc, ok.kind] <;> rfl
  have kd : ∀ x, X.env.kindOf x = c.kd x := fun x => by
    show X.env.scope.names.lookup x = _
    rw [ok.sc] <;> rfl
  unfold swappedStores
  simp only [kd, hk]
  have h1 : (y == x) = false := beq_eq_false_iff_ne.mpr (Ne.symm hxy)
  have h2 : (z == x) = false := beq_eq_false_iff_ne.mpr (Ne.symm hxz)
  have h3 : (z == y) = false := beq_eq_false_iff_ne.mpr (Ne.symm hyz)
  have hd : [x, y, z].eraseDups = [x, y, z] := by
    simp [List.eraseDups_cons, h1, h2, h3]
  simp [hx, hy, hz, hl, hl2, hd, hf, hc, Expr.pos]
  intro h
  rcases h with h | h | h <;> (split at h <;> first | (cases sa; done) | (cases sb; done) | (cases sd; done) | (cases h; done))
theorem swap0 {t v : Expr} {env : Env} (h : isTupE v = false) : swappedStores [t] v env = pure none := by
  cases v <;> first | (cases t <;> rfl) | cases h
/-- is the new list put into the name within the comprehension's own step -/
def swB (c : Cc) (x : Str) (p : Pos) : Expr → Bool
  | .ListComp _ _ scope pos => decide (c.kd x = some .local) && (p.line == pos.line) && !(scope.names.any fun (n, k) => n == x && (k == .local || k == .cell))
  | _ => false
theorem sw_ok {c : Cc} {X : Cx} {cf : CF} {cd : CD} (ok : Ok7 c X cf cd) {x : Str} {p : Pos} {v : Expr} {l : Nat} (hv : isCompE v = true → ∃ a b s q, v = .ListComp a b s q) : swapsWith v (some (.Name x p)) l X.env = pure (swB c x p v) := by
  have hk : X.env.blockKind = .function := by
    unfold Env.blockKind
    rw [ok.sc, ok.kind] <;> rfl
  have kd : ∀ x, X.env.kindOf x = c.kd x := fun x => by
    show X.env.scope.names.lookup x = _
    rw [ok.sc] <;> rfl
  cases v <;> first | rfl | (obtain ⟨a, b, s, q, e⟩ := hv rfl; cases e) | skip
  unfold swapsWith
  simp only [hk, kd, Expr.pos]
  unfold swB
  have e1 : (ScopeKind.function == ScopeKind.function) = true := by decide
  rw [e1, Bool.true_and]
  congr 3
  rw [Bool.eq_iff_iff]
  simp
theorem sw_no {v : Expr} {t : Option Expr} {l : Nat} {env : Env} (h : isCompE v = false) : swapsWith v t l env = pure false := by
  cases v <;> first | rfl | cases h

/-! ### the reading of statements -/
def cpRh (n : Nat) (c : Cc) (x : Str) (v : Expr) : Option O := match decide (x ∈ c.mu), v with
  | true, .List es _ => (cpEs n c es).map .lst
  | true, .Dict [] [] _ => some (.dct [])
  | true, .Dict [some k] [v] _ => mapM2 (fun i j => .dct [(i, j)]) (cpE n c k) (cpE n c v)
  | _, v => (cpE n c v).map .e
def popOf (c : Cc) : Expr → Option Nat
  | .Call (.Attribute (.Name y _) m apos) [] [] p3 => if m = "pop" then if apos.endLine == p3.line then c.slot y else none else none
  | _ => none
def okNames (c : Cc) (x : Str) (l : Nat) (p : Pos) : Bool := decide (c.kd x = some .local) && decide (p.line = l)
def cpPar (n : Nat) (c : Cc) (ts vs : List Expr) : Option S := match ts, vs with
  | [.Name x px, .Name y py], [a, b] => if okNames c x px.line px && okNames c y px.line py && !([a, b].all (foldedForSure 8)) && !([a, b].all (constantsAlone 8)) && !isStar a && !isStar b then
      match ixOf c.N x, ixOf c.N y, cpRh n c x a, cpRh n c y b with
      | some i, some j, some o, some p => if i = j then none else some (.par [i, j] [o, p])
      | _, _, _, _ => none else none
  | [.Name x px, .Name y py, .Name z pz], [a, b, d] => if okNames c x px.line px && okNames c y px.line py && okNames c z px.line pz && !([a, b, d].all (foldedForSure 8)) && !([a, b, d].all (constantsAlone 8)) && !isStar a && !isStar b && !isStar d then
      match ixOf c.N x, ixOf c.N y, ixOf c.N z, cpRh n c x a, cpRh n c y b, cpRh n c z d with
      | some i, some j, some l, some o, some p, some q => if i = j ∨ i = l ∨ j = l then none else some (.par [i, j, l] [o, p, q])
      | _, _, _, _, _, _ => none else none
  | _, _ => none
/-- turns a while loop may take -/
def fuelW : Nat := 16777216
mutual
def cpS : Nat → Cc → Stmt → Option S
  | 0, _, _ => none
  | n + 1, c, st => match st with
    | .Return (some e) _ => (cpE n c e).map .ret
    | .If t a b _ => if isIf t then none else match cpE n c t, cpSs n c a, cpSs n c b with
      | some i, some x, some y => some (.iff i x y)
      | _, _, _ => none
    | .For tg it b [] _ => if isSetE it then none else match cpI n c (isTupE tg) it, cpT c tg, cpSs n c b with
      | some i, some t, some x => some (.for_ t i x)
      | _, _, _ => none
    | .While t b [] _ => if isIf t then none else match cpE n c t, cpSs n c b with
      | some i, some x => some (.whl fuelW i x)
      | _, _ => none
    | .Expr (.Call (.Attribute (.Name y _) m apos) [a] [] p3) _ => if m = "append" then if apos.endLine == p3.line then match c.slot y with
        | some i => (cpE n c a).map (.app i)
        | none => none else none else none
    | .Expr e _ => if isCompE e then none else (cpE n c e).map .ex
    | .Assign [.Name x p] v _ => match c.store x with
      | some i => if swB c x p v then (match v with
          | .ListComp elt [⟨tg, iter, ifs, asy⟩] scope pos => (cpE n c v).map fun e => .asg i (.e e)
          | .ListComp elt [⟨tg, iter, [], asy⟩, ⟨tg2, iter2, [], asy2⟩] scope pos => (cpE n c v).map fun e => .asg i (.e e)
          | _ => none)
        else match popOf c v with
          | some k => some (.pop i k)
          | none => (cpRh n c x v).map (.asg i)
      | none => none
    | .Assign [.Tuple ts k p] v _ => match v with
      | .Tuple vs _ _ => cpPar n c ts vs
      | v => if isCompE v || isTupE v then none else mapM2 .unp (cpT c (.Tuple ts k p)) (cpE n c v)
    | .Assign [.Subscript (.Name y _) k _] v _ => if isCompE v || isSlice k || isTupE v then none else match c.slot y with
      | some i => mapM2 (.seti i) (cpE n c k) (cpE n c v)
      | none => none
    | .Raise _ _ _ => some .rse
    | _ => none
def cpSs : Nat → Cc → List Stmt → Option (List S)
  | 0, _, _ => none
  | n + 1, c, ss => match ss with
    | [] => some []
    | s :: r => mapM2 List.cons (cpS n c s) (cpSs n c r)
end
theorem sws_no {t v : Expr} {l : Nat} {env : Env} (h : isCompE v = false) : swapsWithSole [t] v l env = pure false := by
  rw [swapsWithSole]
  exact sw_no h
theorem sub_assign {o k : Expr} {env : Env} {p3 : Pos} (h : isSlice k = false) : ∀ v, assign (.Subscript o k p3) env v = (do
      let ov ← holding [v] (eval o env)
      let iv ← holding [v, ov] (eval k env)
      standAt p3
      holding [v, ov, iv] (setItem ov iv v)
      release [v, ov, iv] []) := fun v => by
  cases k <;> first | rfl | cases h
structure AllS (cf : CF) (cd : CD) (n : Nat) : Prop where
  s : ∀ {c : Cc} {X : Cx} {st : Stmt} {i : S}, Ok7 c X cf cd → cpS n c st = some i → SS X cf cd st i
  ss : ∀ {c : Cc} {X : Cx} {st : List Stmt} {i : List S}, Ok7 c X cf cd → cpSs n c st = some i → SSs X cf cd st i
section
variable {cf : CF} {cd : CD} {n : Nat} {c : Cc} {X : Cx}
theorem rh_ok (ok : Ok7 c X cf cd) {x : Str} {v : Expr} {o : O} (h : cpRh n c x v = some o) : OSl X cf cd v o ∧ (isCompE v = true → ∃ a b s q, v = .ListComp a b s q) := by
  have A := all7 cf cd n
  have gen : ∀ {v : Expr} {o : O}, (cpE n c v).map O.e = some o → OSl X cf cd v o ∧ (isCompE v = true → ∃ a b s q, v = .ListComp a b s q) := fun {v o} h => by
    obtain ⟨e, he, rfl⟩ := map_some' h
    refine ⟨os_e (A.e ok he).1, fun hc => ?_⟩
    cases n with
    | zero => cases he
    | succ n => cases v <;> first | exact ⟨_, _, _, _, rfl⟩ | (cases hc; done) | (cases he; done)
  unfold cpRh at h
  split at h
  · obtain ⟨is, he, rfl⟩ := map_some' h
    exact ⟨os_lst (A.es ok he).1, fun z => by cases z⟩
  · cases h
    exact ⟨os_d0, fun z => by cases z⟩
  · obtain ⟨i, j, h1, h2, rfl⟩ := mapM2_some h
    exact ⟨os_d1 (by have := ok.un; omega) (A.e ok h1).1 (A.e ok h2).1, fun z => by cases z⟩
  · exact gen h
theorem kdL (ok : Ok7 c X cf cd) {x : Str} (h : c.kd x = some .local) : X.env.scope.names.lookup x = some .local := by
  rw [ok.sc]; exact h
theorem par_ok (ok : Ok7 c X cf cd) {ts vs : List Expr} {i : S} {kt k2 : Nat} {pt pt2 pos : Pos} (h : cpPar n c ts vs = some i) : SS X cf cd (.Assign [.Tuple ts kt pt] (.Tuple vs k2 pt2) pos) i := by
  have hN : X.N.Nodup := by rw [ok.N]; exact ok.nd
  have ne : ∀ {x y : Str} {i j : Nat}, ixOf c.N x = some i → ixOf c.N y = some j → i ≠ j → x ≠ y := fun h1 h2 n e => by
    subst e
    rw [h1] at h2
    exact n (Option.some.inj h2)
  have gi : ∀ {x : Str} {i : Nat}, ixOf c.N x = some i → X.N[i]? = some x := fun h => by rw [ok.N]; exact ixOf_get h
  unfold cpPar at h
  split at h
  · rename_i x px y py a b
    split at h
    · rename_i q
      simp only [Bool.and_eq_true, Bool.not_eq_true', okNames, decide_eq_true_eq] at q
      obtain ⟨⟨⟨⟨⟨⟨q1, _⟩, q2, q3⟩, q4⟩, q5⟩, q6⟩, q7⟩ := q
      split at h
      · rename_i i j o p h1 h2 h3 h4
        split at h
        · cases h
        · rename_i hij
          cases h
          exact ss_par2 ok.calm hN (gi h1) (gi h2) hij (kdL ok q1) (kdL ok q2) (oss_cons (rh_ok ok h3).1 (oss_cons (rh_ok ok h4).1 oss_nil (star_cons q7)) (star_cons q6)) (swap2 ok q1 q2 q3 (ne h1 h2 hij) q6 q7 q4 q5)
      · cases h
    · cases h
  · rename_i x px y py z pz a b d
    split at h
    · rename_i q
      simp only [Bool.and_eq_true, Bool.not_eq_true', okNames, decide_eq_true_eq] at q
      obtain ⟨⟨⟨⟨⟨⟨⟨⟨q1, _⟩, q2, q3⟩, q8, q9⟩, q4⟩, q5⟩, q6⟩, q7⟩, q10⟩ := q
      split at h
      · rename_i i j l o p q' h1 h2 h3 h4 h5 h6
        split at h
        · cases h
        · rename_i hij
          cases h
          rw [not_or, not_or] at hij
          exact ss_par3 ok.calm hN (gi h1) (gi h2) (gi h3) hij.1 hij.2.1 hij.2.2 (kdL ok q1) (kdL ok q2) (kdL ok q8) (oss_cons (rh_ok ok h4).1 (oss_cons (rh_ok ok h5).1 (oss_cons (rh_ok ok h6).1 oss_nil (star_cons q10)) (star_cons q7)) (star_cons q6))
            (swap3 ok q1 q2 q8 q3 q9 (ne h1 h2 hij.1) (ne h1 h3 hij.2.1) (ne h2 h3 hij.2.2) q6 q7 q10 q4 q5)
      · cases h
    · cases h
  · cases h
theorem never (ok : Ok7 c X cf cd) : PassesOwn (model X.prog X.w) X.A X.env X.xe := by
  rw [ok.xe]
  exact PassesOwn.never
theorem popOf_some {v : Expr} {k : Nat} (h : popOf c v = some k) : ∃ y p2 m apos p3, v = .Call (.Attribute (.Name y p2) m apos) [] [] p3 ∧ m = "pop" ∧ (apos.endLine == p3.line) = true ∧ c.slot y = some k := by
  unfold popOf at h
  split at h
  · split at h
    · rename_i hm
      split at h
      · rename_i hl
        exact ⟨_, _, _, _, _, rfl, hm, hl, h⟩
      · cases h
    · cases h
  · cases h
theorem ok_ss (A : AllS cf cd n) {st : List Stmt} {i : List S} (ok : Ok7 c X cf cd) (h : cpSs (n + 1) c st = some i) : SSs X cf cd st i := by
  unfold cpSs at h
  split at h
  · cases h
    exact sss_nil
  · obtain ⟨x, y, h1, h2, rfl⟩ := mapM2_some h
    exact sss_cons (A.s ok h1) (A.ss ok h2)
theorem asg_ok (ok : Ok7 c X cf cd) {x : Str} {p pos : Pos} {v : Expr} {i : S} (h : (match c.store x with
      | some i => if swB c x p v then (match v with
          | .ListComp elt [⟨tg, iter, ifs, asy⟩] scope pos => (cpE n c v).map fun e => S.asg i (.e e)
          | .ListComp elt [⟨tg, iter, [], asy⟩, ⟨tg2, iter2, [], asy2⟩] scope pos => (cpE n c v).map fun e => S.asg i (.e e)
          | _ => none)
        else match popOf c v with
          | some k => some (S.pop i k)
          | none => (cpRh n c x v).map (S.asg i)
      | none => none) = some i) : SS X cf cd (.Assign [.Name x p] v pos) i := by
  have hN : X.N.Nodup := by rw [ok.N]; exact ok.nd
  split at h
  · rename_i j hj
    obtain ⟨g1, g2, g3⟩ := ok.store hj
    split at h
    · rename_i hsw
      split at h
      · rename_i elt tg iter ifs asy scope pos2
        obtain ⟨e, he, rfl⟩ := map_some' h
        have sw := sw_ok (X := X) (l := pos.line) ok (x := x) (p := p) (v := .ListComp elt [⟨tg, iter, ifs, asy⟩] scope pos2) fun _ => ⟨_, _, _, _, rfl⟩
        rw [hsw] at sw
        have hk : c.kd x = some .local := by
          unfold swB at hsw
          rw [Bool.and_eq_true, Bool.and_eq_true] at hsw
          exact of_decide_eq_true hsw.1.1
        -- the comprehension's parts once more
        cases n with
        | zero => cases he
        | succ n =>
          have h9 : cpComp n c elt [⟨tg, iter, ifs, asy⟩] scope = some e := he
          cases n with
          | zero => cases h9
          | succ n =>
            have A := all7 cf cd n
            unfold cpComp at h9
            simp only [] at h9
            split at h9
            · rename_i e0
              subst e0
              split at h9
              · cases h9
              · rename_i hset
                split at h9
                · rename_i it t cs ie h1 h2 h3 h4
                  split at h9
                  · rename_i hq
                    cases h9
                    rw [Bool.and_eq_true] at hq
                    have bk : BlkOk X.N X.env.scope scope (ownOf c.N scope) := by rw [ok.N, ok.sc]; exact blkOk_by hq.1
                    exact ss_asgLc ok.calm hN g1 (kdL ok hk) sw (A.it ok h1) bk (fun s H C cl fp => tgOk (ok.blk bk.kind s H C cl fp) h2) (fun s H C cl fp => A.cs (ok.blk bk.kind s H C cl fp) h3) (fun s H C cl fp => (A.e (ok.blk bk.kind s H C cl fp) h4).1) (noset (by simpa using hset)) (allJs hq.2)
                  · cases h9
                · cases h9
            · cases h9
      · rename_i elt tg iter asy tg2 iter2 asy2 scope pos2
        obtain ⟨e, he, rfl⟩ := map_some' h
        have sw := sw_ok (X := X) (l := pos.line) ok (x := x) (p := p) (v := .ListComp elt [⟨tg, iter, [], asy⟩, ⟨tg2, iter2, [], asy2⟩] scope pos2) fun _ => ⟨_, _, _, _, rfl⟩
        rw [hsw] at sw
        have hk : c.kd x = some .local := by
          unfold swB at hsw
          rw [Bool.and_eq_true, Bool.and_eq_true] at hsw
          exact of_decide_eq_true hsw.1.1
        cases n with
        | zero => cases he
        | succ n =>
          have h9 : cpComp n c elt [⟨tg, iter, [], asy⟩, ⟨tg2, iter2, [], asy2⟩] scope = some e := he
          cases n with
          | zero => cases h9
          | succ n =>
            have A := all7 cf cd n
            unfold cpComp at h9
            simp only [] at h9
            split at h9
            · rename_i e0
              obtain ⟨e0, e1⟩ := e0
              subst e0
              subst e1
              split at h9
              · cases h9
              · rename_i hset
                rw [Bool.or_eq_true, not_or] at hset
                split at h9
                · rename_i it t it2 t2 ie h1 h2 h3 h4 h5
                  split at h9
                  · rename_i hq
                    cases h9
                    rw [Bool.and_eq_true, Bool.and_eq_true] at hq
                    have bk : BlkOk X.N X.env.scope scope (ownOf c.N scope) := by rw [ok.N, ok.sc]; exact blkOk_by hq.1.1
                    exact ss_asgLc2 ok.calm hN g1 (kdL ok hk) sw (A.it ok h1) bk (allJs hq.2) (fun s H C cl fp => tgOk (ok.blk bk.kind s H C cl fp) h2) (fun s H C cl fp => A.it (ok.blk bk.kind s H C cl fp) h3) (fun s H C cl fp => tgOk (ok.blk bk.kind s H C cl fp) h4)
                      (fun s H C cl fp => (A.e (ok.blk bk.kind s H C cl fp) h5).1) (noset (by simpa using hset.1)) (fun env => noset (by simpa using hset.2)) (allJs hq.1.2)
                  · cases h9
                · cases h9
            · cases h9
      · cases h
    · rename_i hsw
      have hsw : swB c x p v = false := by simpa using hsw
      split at h
      · rename_i k hk
        cases h
        obtain ⟨y, p2, m, apos, p3, rfl, hm, hl, hs⟩ := popOf_some hk
        obtain ⟨q1, q2, q3, q4⟩ := ok.slot hs
        exact ss_pop hm hN g1 g2 g3 q1 q2 q3 q4 hl rfl
      · obtain ⟨o, ho, rfl⟩ := map_some' h
        obtain ⟨r1, r2⟩ := rh_ok ok ho
        have sw := sw_ok (X := X) (l := pos.line) ok (x := x) (p := p) r2
        rw [hsw] at sw
        exact ss_asg hN g1 g2 g3 r1 sw
  · cases h
theorem ok_s (A : AllS cf cd n) {st : Stmt} {i : S} (ok : Ok7 c X cf cd) (h : cpS (n + 1) c st = some i) : SS X cf cd st i := by
  have E := all7 cf cd n
  unfold cpS at h
  split at h
  · obtain ⟨x, hx, rfl⟩ := map_some' h
    exact ss_ret (E.e ok hx).1
  · split at h
    · cases h
    · rename_i hi
      split at h
      · rename_i i x y h1 h2 h3
        cases h
        exact ss_if ((E.e ok h1).2 (by simpa using hi)) (A.ss ok h2) (A.ss ok h3)
      · cases h
  · split at h
    · cases h
    · rename_i hset
      split at h
      · rename_i i t x h1 h2 h3
        cases h
        exact ss_for (never ok) ok.calm (E.it ok h1) (tgOk ok h2) (A.ss ok h3) (noset (by simpa using hset))
      · cases h
  · split at h
    · cases h
    · rename_i hi
      split at h
      · rename_i i x h1 h2
        cases h
        exact ss_while (never ok) ((E.e ok h1).2 (by simpa using hi)) (A.ss ok h2)
      · cases h
  · split at h
    · rename_i hm
      split at h
      · rename_i hl
        split at h
        · rename_i j hj
          obtain ⟨x, hx, rfl⟩ := map_some' h
          obtain ⟨q1, q2, q3, q4⟩ := ok.slot hj
          exact ss_app hm q1 q2 q3 q4 (E.e ok hx).1 (star_cons (cpE_no hx).1) hl
        · cases h
      · cases h
    · cases h
  · split at h
    · cases h
    · rename_i hc
      obtain ⟨x, hx, rfl⟩ := map_some' h
      exact ss_ex (E.e ok hx).1 (sw_no (by simpa using hc))
  · exact asg_ok ok h
  · split at h
    · exact par_ok ok h
    · split at h
      · cases h
      · rename_i hc
        rw [Bool.or_eq_true, not_or] at hc
        obtain ⟨t, e, h1, h2, rfl⟩ := mapM2_some h
        exact ss_unp (E.e ok h2).1 ((cpT_ok ok h1).2 rfl) (sws_no (by simpa using hc.1)) (swap0 (by simpa using hc.2)) rfl
  · split at h
    · cases h
    · rename_i hc
      rw [Bool.or_eq_true, Bool.or_eq_true, not_or, not_or] at hc
      split at h
      · rename_i j hj
        obtain ⟨k, e, h1, h2, rfl⟩ := mapM2_some h
        obtain ⟨q1, q2, q3, q4⟩ := ok.slot hj
        have hsl := (cpE_no h1).2.2
        exact ss_seti (by have := ok.un; omega) q1 q2 q3 q4 (E.e ok h1).1 (E.e ok h2).1 (sub_assign hsl) (sws_no (by simpa using hc.1.1)) (swap0 (by simpa using hc.2)) rfl
      · cases h
  · cases h
    exact ⟨fun pins s σ H D I ⟨env, M, fl, sr, ev, k⟩ => by cases ev⟩
  · cases h
theorem allS (cf : CF) (cd : CD) : ∀ n, AllS cf cd n
  | 0 => ⟨fun _ h => (by cases h), fun _ h => (by cases h)⟩
  | n + 1 => ⟨fun ok h => ok_s (allS cf cd n) ok h, fun ok h => ok_ss (allS cf cd n) ok h⟩
end
end Mi
end
section
set_option Elab.async false
set_option linter.all false
set_option maxRecDepth 100000
set_option maxHeartbeats 2000000
/-! S7e: defs: what a call gives is what the evaluator tells. -/
namespace Mi
open PySem PySem.Spec PyProof.Rows L2

def ccOf (N : List Str) (sc : Scope) (mu : List Str) (fns : List (Str × Nat × Bool)) (cns : List (Str × Nat)) (bs : List Str) : Cc := ⟨N, sc, none, mu, fns, cns, bs⟩
/-- a def of the program, as the table has it -/
structure FnHyp (K : PySem.W.Frag) (mg : Str → Option Value) (t : Tb) (fns : List (Str × Nat × Bool)) (cns : List (Str × Nat)) (bs : List Str) (x : Str) (f : Nat) (bor : Bool) (fa : Addr) (fd : FuncData) : Prop where
  ex : ∃ (st : Stmt) (mu : List Str), Fun K x x st fa fd ∧ FnScope (t.fn f).N (t.fn f).ps (defScope st) ∧ cpSs 60 (ccOf (t.fn f).N (defScope st) mu fns cns bs) (defBody st) = some (t.fn f).body
  bi : Binds K fd (t.fn f).ps []
  gl : mg x = some (.ref fa)
  bo : (t.fn f).bor = bor
  bz : bor = true → 0 ∉ S.jss (t.fn f).body
structure PrHyp (K : PySem.W.Frag) (mg : Str → Option Value) (t : Tb) (fns : List (Str × Nat × Bool)) (cns : List (Str × Nat)) (bs : List Str) (w : World) : Prop where
  fs : ∀ x f b, fns.lookup x = some (f, b) → ∃ fa fd, FnHyp K mg t fns cns bs x f b fa fd
  cs : ∀ x k, cns.lookup x = some k → ∃ v u, mg x = some u ∧ RelV v u ∧ ∀ H M, Rp w K H M (t.cd k) v
  bl : ∀ x ∈ bs, mg x = none
theorem vals_env {w : World} {K : PySem.W.Frag} {H : Hp} {M : Addr → Prop} : ∀ {ds : List D} {vs : List V}, RpL w K H M ds vs → ∀ (i : Nat) (d : D), (ds.map Sl.val)[i]? = some (.val d) → ∃ v, (vs.map some)[i]? = some (some v) ∧ Rp w K H M d v
  | _, _, .nil, i, d, h => by simp at h
  | _, _, .cons r rr, 0, d, h => by
    simp at h
    subst h
    exact ⟨_, rfl, r⟩
  | _, _, .cons r rr, i + 1, d, h => by
    obtain ⟨v, h1, h2⟩ := vals_env rr i d (by simpa using h)
    exact ⟨v, by simpa using h1, h2⟩
theorem getpad {α : Type} {l : List α} {a : α} {n i : Nat} {x : α} (h : (l ++ List.replicate n a)[i]? = some x) : l[i]? = some x ∨ (l[i]? = none ∧ x = a) := by
  by_cases hi : i < l.length
  · rw [List.getElem?_append_left hi] at h
    exact .inl h
  · rw [List.getElem?_append_right (by omega)] at h
    refine .inr ⟨List.getElem?_eq_none (by omega), ?_⟩
    obtain ⟨_, e⟩ := List.getElem?_eq_some_iff.mp h
    rw [List.getElem_replicate] at e
    exact e.symm
theorem padget {α : Type} {l : List α} {a : α} {n i : Nat} {x : α} (h : l[i]? = some x) : (l ++ List.replicate n a)[i]? = some x := by
  have hi := (List.getElem?_eq_some_iff.mp h).1
  rw [List.getElem?_append_left hi]
  exact h
/-- a frame's first state: values -/
theorem start_sr {w : World} {K : PySem.W.Frag} {H : Hp} {M : Addr → Prop} {ds : List D} {vs : List V} {N : List Str} (mt : MT M H) (r : RpL w K H M ds vs) :
    SR w K (ds.map Sl.val ++ List.replicate (N.length - ds.length) .no) M (start N vs) H ∧ ∀ a, ¬ OwA (ds.map Sl.val ++ List.replicate (N.length - ds.length) .no) (start N vs) a := by
  have no : ∀ {i : Nat} {x : D}, (ds.map Sl.val ++ List.replicate (N.length - ds.length) .no)[i]? ≠ some (.own x) := fun {i x} h => by
    rcases getpad h with h | ⟨_, h⟩
    · rw [List.getElem?_map] at h
      cases e : ds[i]? with
      | none => rw [e] at h; cases h
      | some d => rw [e] at h; cases h
    · cases h
  refine ⟨⟨by simp [L2.start, r.length], fun i d h => ?_, fun i d h => (no h).elim, fun i j d e a h => (no h).elim, mt⟩, fun a ⟨i, d, h, _⟩ => no h⟩
  rcases getpad h with h | ⟨_, h⟩
  · obtain ⟨v, h1, h2⟩ := vals_env r i d h
    exact ⟨v, padget h1, h2⟩
  · cases h
/-- .. the first of them an object lent by the caller -/
theorem start_bor {w : World} {K : PySem.W.Frag} {H : Hp} {M : Addr → Prop} {b : D} {a : Addr} {ds : List D} {vs : List V} {N : List Str} (mt : MT M H) (ma : M a) (ow : Ow w K H M b a) (r : RpL w K H M ds vs) :
    SR w K (.own b :: ds.map Sl.val ++ List.replicate (N.length - (b :: ds).length) .no) M (start N (.ref a :: vs)) H ∧ ∀ c, OwA (.own b :: ds.map Sl.val ++ List.replicate (N.length - (b :: ds).length) .no) (start N (.ref a :: vs)) c → c = a := by
  have s0 : (start N (.ref a :: vs))[0]? = some (some (.ref a)) := rfl
  have one : ∀ {i : Nat} {x : D}, (.own b :: ds.map Sl.val ++ List.replicate (N.length - (b :: ds).length) .no)[i]? = some (.own x) → i = 0 ∧ x = b := fun {i x} h => by
    cases i with
    | zero =>
      simp at h
      exact ⟨rfl, h.symm⟩
    | succ i =>
      rcases getpad h with h | ⟨_, h⟩
      · have h : (ds.map Sl.val)[i]? = some (.own x) := by simpa using h
        rw [List.getElem?_map] at h
        cases e : ds[i]? with
        | none => rw [e] at h; cases h
        | some d => rw [e] at h; cases h
      · cases h
  refine ⟨⟨by simp [L2.start, r.length], fun i d h => ?_, fun i d h => ?_, fun i j d e c h1 h2 _ _ => (one h1).1.trans (one h2).1.symm, mt⟩, fun c ⟨i, d, h1, h2⟩ => ?_⟩
  · cases i with
    | zero => simp at h
    | succ i =>
      rcases getpad h with h | ⟨_, h⟩
      · obtain ⟨v, h1, h2⟩ := vals_env r i d (by simpa using h)
        exact ⟨v, padget (by simpa using h1), h2⟩
      · cases h
  · obtain ⟨rfl, rfl⟩ := one h
    exact ⟨a, s0, ma, ow⟩
  · obtain ⟨rfl, rfl⟩ := one h1
    rw [s0] at h2
    cases h2
    rfl
section
variable {P : Program} {w : World} {K : PySem.W.Frag} {mg : Str → Option Value} {base : Heap} {t : Tb} {fns : List (Str × Nat × Bool)} {cns : List (Str × Nat)} {bs : List Str}
theorem callF_len {n f : Nat} {ds : List D} {r : D × Option D} (h : callF t n f ds = some r) : ds.length = (t.fn f).ps.length := by
  cases n with
  | zero => cases h
  | succ n => exact of_decide_eq_true (gd_some (show gd _ _ = _ from h)).1
theorem sp_len {n f : Nat} {b : Bool} {vs : List V} {H : Hp} {Q : VK} {E : XK} (h : spF w K (callF t n) f b vs H Q E) : vs.length = (t.fn f).ps.length := by
  obtain ⟨M, ds, d, mt, h⟩ := h
  cases b with
  | false => rw [← h.1.length]; exact callF_len h.2.1
  | true =>
    obtain ⟨a, b, b', ds', vs', rfl, rfl, _, _, r, e, _⟩ := h
    have := callF_len e
    rw [List.length_cons] at this ⊢
    rw [← r.length]; exact this
theorem fn_ok (A : PrHyp K mg t fns cns bs w) : ∀ (n : Nat) (x : Str) (f : Nat) (b : Bool) (fa : Addr) (fd : FuncData), FnHyp K mg t fns cns bs x f b fa fd → FnOk P w K mg base CX0 n fa fd (t.fn f).ps (spF w K (callF t n) f b)
  | 0, x, f, b, fa, fd, F => by
    have no : ∀ {vs : List V} {H : Hp} {Q : VK} {E : XK}, ¬ spF w K (callF t 0) f b vs H Q E := fun {vs H Q E} h => by
      obtain ⟨M, ds, d, mt, h⟩ := h
      cases b with
      | false => cases h.2.1
      | true =>
        obtain ⟨a, b, b', ds', vs', rfl, rfl, _, _, r, e, _⟩ := h
        cases e
    exact ⟨fun vs H Q E h => sp_len h, fun A outer s H args us vs Q E hr he hb hv h => (no h).elim⟩
  | n + 1, x, f, b, fa, fd, F => by
    obtain ⟨st, mu, Fu, sc, hcp⟩ := F.ex
    refine Fu.ok sc (fun vs H Q E h => sp_len h) fun cdv A' outer s H vs Q E hr h => ?_
    have ok : Ok7 (ccOf (t.fn f).N (defScope st) mu fns cns bs) (cxOf CX0 P w K mg base (t.fn f).N x (defScope st) fa cdv A' outer s H E).nox (callF t n) t.cd :=
      ⟨rfl, sc.nd, rfl, sc.kind, rfl, by have := hr.un; show (A'.deeper (envOfC x (defScope st) s.heap.objs.size fa cdv)).units + 70 < cLine; omega, fun _ _ => rfl, rfl, A.bl,
        fun y g c hl => by
          obtain ⟨fa', fd', F'⟩ := A.fs y g c hl
          exact ⟨n, fa', fd', (t.fn g).ps, fn_ok A n y g c fa' fd' F', hr, F'.gl, F'.ex.choose_spec.choose_spec.1.kp, F'.bi⟩, A.cs⟩
    refine ⟨_, (allS _ _ 60).ss ok hcp, ?_⟩
    obtain ⟨M, ds, d, mt, h⟩ := h
    cases b with
    | false =>
      obtain ⟨r, e, k⟩ := h
      have e : gd (decide (ds.length = (t.fn f).ps.length)) (runB (t.fn f) (evSs (callF t n) t.cd (t.fn f).body (startE (t.fn f) ds))) = some (d, none) := e
      obtain ⟨hl, e⟩ := gd_some e
      have hs : startE (t.fn f) ds = ds.map Sl.val ++ List.replicate ((t.fn f).N.length - ds.length) .no := by
        unfold startE
        rw [F.bo]
      rw [hs] at e
      obtain ⟨s0, o0⟩ := start_sr (N := (t.fn f).N) mt r
      have same : ∀ {H' : Hp} {S' M' : Addr → Prop}, Evo (OwA (ds.map Sl.val ++ List.replicate ((t.fn f).N.length - ds.length) .no) (start (t.fn f).N vs)) H M S' H' M' → Same H H' := fun ev a o h => ev.keep a o h (o0 a)
      have less : ∀ {H' : Hp} {S' M' : Addr → Prop}, Evo (OwA (ds.map Sl.val ++ List.replicate ((t.fn f).N.length - ds.length) .no) (start (t.fn f).N vs)) H M S' H' M' → ∀ a, H' a ≠ none → M a → M' a := fun ev a _ m => ev.mk' a (mt a m) m (o0 a)
      cases q : evSs (callF t n) t.cd (t.fn f).body (ds.map Sl.val ++ List.replicate ((t.fn f).N.length - ds.length) .no) with
      | none => rw [q] at e; cases e
      | some fl =>
        rw [q] at e
        refine ⟨_, M, fl, s0, q, ?_⟩
        cases fl with
        | nx env' =>
          have e : endE (t.fn f).bor .none env' = some (d, none) := e
          rw [F.bo] at e
          cases e
          exact fun σ' H' M' sr' ev' st' => k .non H' (same ev') .non
        | rt d' env' =>
          have e : endE (t.fn f).bor d' env' = some (d, none) := e
          rw [F.bo] at e
          cases e
          exact fun v σ' H' M' sr' ev' st' r' => k v H' (same ev') (r'.less (less ev'))
    | true =>
      obtain ⟨a, b, b', ds', vs', rfl, rfl, ma, ow, r, e, k⟩ := h
      have e : gd (decide ((b :: ds').length = (t.fn f).ps.length)) (runB (t.fn f) (evSs (callF t n) t.cd (t.fn f).body (startE (t.fn f) (b :: ds')))) = some (d, some b') := e
      obtain ⟨hl, e⟩ := gd_some e
      have hs : startE (t.fn f) (b :: ds') = .own b :: ds'.map Sl.val ++ List.replicate ((t.fn f).N.length - (b :: ds').length) .no := by
        unfold startE
        rw [F.bo]
      rw [hs] at e
      obtain ⟨s0, o0⟩ := start_bor (N := (t.fn f).N) mt ma ow r
      generalize hE : (.own b :: ds'.map Sl.val ++ List.replicate ((t.fn f).N.length - (b :: ds').length) .no : Ev) = env0 at e s0 o0
      have st0 : ∀ {σ' : L2.St}, Stay (S.jss (t.fn f).body) (start (t.fn f).N (.ref a :: vs')) σ' → σ'[0]? = some (some (.ref a)) := fun st => st.2 0 (F.bz rfl)
      have fin : ∀ {env' : Ev} {σ' : L2.St} {H' : Hp} {M' : Addr → Prop} {dd : D} {v : V}, SR w K env' M' σ' H' → Evo (OwA env0 (start (t.fn f).N (.ref a :: vs'))) H M (OwA env' σ') H' M' → Stay (S.jss (t.fn f).body) (start (t.fn f).N (.ref a :: vs')) σ' → Rp w K H' M' dd v → endE (t.fn f).bor dd env' = some (d, some b') → Q v H' := fun {env' σ' H' M' dd v} sr' ev' st' r' e => by
        rw [F.bo] at e
        unfold endE at e
        simp only [] at e
        split at e
        · rename_i bb hb
          cases e
          obtain ⟨_, ow'⟩ := own_at sr' (getD_get hb (by simp)) (st0 st')
          have less : ∀ c, H' c ≠ none → M c → M' c := fun c hc m => by
            by_cases z : c = a
            · subst z
              exact (own_at sr' (getD_get hb (by simp)) (st0 st')).1
            · exact ev'.mk' c (mt c m) m fun q => z (o0 c q)
          refine k v H' (fun c o hc n => ev'.keep c o hc fun q => n (o0 c q)) ?_ (r'.less less)
          cases ow' with
          | lst g rr => exact .lst g (rr.less less)
          | dct g rr nd => exact .dct g (rr.less less) nd
        · cases e
      cases q : evSs (callF t n) t.cd (t.fn f).body env0 with
      | none => rw [q] at e; cases e
      | some fl =>
        rw [q] at e
        refine ⟨_, M, fl, s0, q, ?_⟩
        cases fl with
        | nx env' => exact fun σ' H' M' sr' ev' st' => fin sr' ev' st' .non e
        | rt d' env' => exact fun v σ' H' M' sr' ev' st' r' => fin sr' ev' st' r' e
end
end Mi
end
section
set_option Elab.async false
set_option linter.all false
set_option maxRecDepth 100000
set_option maxHeartbeats 2000000
/-! S8a: a law's bags, and its loop over them. -/
namespace Mi
open PySem PySem.Spec PyProof.Rows L2

/-- the bags have been laid: p a new list of new lists, each another -/
structure Laid (H H' : Hp) (p : Addr) (as : List Addr) (bags : List (List Int)) : Prop where
  same : Same H H'
  new : H p = none
  lst : H' p = some (.lst (as.map V.ref))
  len : as.length = bags.length
  nd : as.Nodup
  np : p ∉ as
  each : ∀ (i : Nat) (a : Addr), as[i]? = some a → H a = none ∧ ∃ b, bags[i]? = some b ∧ H' a = some (.lst (b.map V.int))
def spBags (K : PySem.W.Frag) (bags : List Int → Int → List (List Int)) : Sp := fun vs H Q _ => ∃ (a : Addr) (ns : List Int) (m : Int), vs = [.ref a, .int m] ∧ SqL K H a (ns.map V.int) ∧ ns.length ≤ 1000 ∧ 0 ≤ m ∧ m ≤ 1000 ∧ ∀ H' p as, Laid H H' p as (bags ns m) → Q (.ref p) H'
theorem rpl_ints {w : World} {K : PySem.W.Frag} {H : Hp} {M : Addr → Prop} : ∀ {is : List Int} {xs : List V}, RpL w K H M (is.map PyData.int) xs → xs = is.map V.int
  | [], _, h => by cases h; rfl
  | i :: is, _, h => by
    cases h with
    | cons r rr =>
      cases r
      rw [List.map_cons, rpl_ints rr]
/-- no slot known -/
theorem no_sr {w : World} {K : PySem.W.Frag} {H : Hp} {M : Addr → Prop} {σ : L2.St} (mt : MT M H) : SR w K (List.replicate σ.length .no) M σ H ∧ ∀ a, ¬ OwA (List.replicate σ.length .no) σ a := by
  have no : ∀ {i : Nat} {s : Sl}, (List.replicate σ.length Sl.no)[i]? = some s → s = .no := fun {i s} h => by
    obtain ⟨_, e⟩ := List.getElem?_eq_some_iff.mp h
    rw [List.getElem_replicate] at e
    exact e.symm
  exact ⟨⟨by simp, fun i d h => (by cases no h), fun i d h => (by cases no h), fun i j d e a h => (by cases no h), mt⟩, fun a ⟨i, d, h, _⟩ => (by cases no h)⟩
theorem cut_take (xs : List V) (m : Int) (h : 0 ≤ m) : cutV xs none (some m) = xs.take m.toNat := by
  unfold cutV
  rw [HT.sIx_none]
  have e : HT.sIx xs.length xs.length (some m) = min m.toNat xs.length := by
    obtain ⟨k, rfl⟩ := Int.eq_ofNat_of_zero_le h
    exact HT.sIx_nat xs.length xs.length k
  rw [e]
  simp [List.take_eq_take_iff]
/-- the bags of a script's first m numbers and of one more -/
def bagsOf (well : Int → Int → List Int) (ns : List Int) (m : Int) : List (List Int) := (ns.take m.toNat ++ [0]).mapIdx fun i c => well c (977 * (i : Int))
section
variable {P : Program} {w : World} {K : PySem.W.Frag} {mg : Str → Option Value} {base : Heap} {t : Tb} {fns : List (Str × Nat × Bool)} {cns : List (Str × Nat)} {bs : List Str}
/-- what is to be read in the text of the def that lays the bags -/
structure BagsText (fns : List (Str × Nat × Bool)) (cns : List (Str × Nat)) (bs : List Str) (wid : Nat) (st : Stmt) : Prop where
  ex : ∃ (elt : Expr) (scope : Scope) (p1 p2 p3 p4 p5 p6 p7 p8 p9 p10 p11 p12 p13 p14 : Pos) (k0 j0 : Nat),
    defBody st = [.Return (some (.ListComp elt [⟨.Tuple [.Name "k" p1, .Name "cell" p2] k0 p3, .Call (.Name "enumerate" p4) [.BinOp (.Subscript (.Name "script" p5) (.Slice none (some (.Name "most" p6)) none p7) p8) .Add (.List [.Constant (.int 0) j0 p9] p10) p11] [] p12, [], 0⟩] scope p13)) p14] ∧
    blkC ["script", "most", "k", "cell"] (defScope st) scope [("k", 2), ("cell", 3)] = true ∧
    cpT ((ccOf ["script", "most", "k", "cell"] (defScope st) [] fns cns bs).blk scope) (.Tuple [.Name "k" p1, .Name "cell" p2] k0 p3) = some (.tp [.nm 2, .nm 3]) ∧
    cpE 58 ((ccOf ["script", "most", "k", "cell"] (defScope st) [] fns cns bs).blk scope) elt = some (.call wid [.v 3, .bin .mul (.c (.int 977)) (.v 2)])
  sc : FnScope ["script", "most", "k", "cell"] ["script", "most"] (defScope st)
  lk : (defScope st).names.lookup (Str.ofString "enumerate") = some .globalImplicit
  be : Str.ofString "enumerate" ∈ bs
theorem ok_bags (A : PrHyp K mg t fns cns bs w) {n wid : Nat} {well : Int → Int → List Int} (hW : ∀ c i : Int, 0 ≤ i → i ≤ 1000000 → callF t n wid [.int c, .int i] = some (.list ((well c i).map PyData.int), none)) {x : Str} {st : Stmt} {fa : Addr} {fd : FuncData} (F : Fun K x x st fa fd) (B : BagsText fns cns bs wid st) :
    FnOk P w K mg base CX0 (n + 1) fa fd ["script", "most"] (spBags K (bagsOf well)) := by
  obtain ⟨elt, scope, p1, p2, p3, p4, p5, p6, p7, p8, p9, p10, p11, p12, p13, p14, k0, j0, hb, hbl, hT, hE⟩ := B.ex
  have sc := B.sc
  refine F.ok sc (fun vs H Q E ⟨a, ns, m, e, _⟩ => by rw [e]; rfl) fun cdv A' outer s H vs Q E hr h => ?_
  have ok : Ok7 (ccOf ["script", "most", "k", "cell"] (defScope st) [] fns cns bs) (cxOf CX0 P w K mg base ["script", "most", "k", "cell"] x (defScope st) fa cdv A' outer s H E).nox (callF t n) t.cd :=
    ⟨rfl, sc.nd, rfl, sc.kind, rfl, by have := hr.un; show (A'.deeper (envOfC x (defScope st) s.heap.objs.size fa cdv)).units + 70 < cLine; omega, fun _ _ => rfl, rfl, A.bl,
      fun y g c hl => by
        obtain ⟨fa', fd', F'⟩ := A.fs y g c hl
        exact ⟨n, fa', fd', (t.fn g).ps, fn_ok A n y g c fa' fd' F', hr, F'.gl, F'.ex.choose_spec.choose_spec.1.kp, F'.bi⟩, A.cs⟩
  generalize hX : (cxOf CX0 P w K mg base ["script", "most", "k", "cell"] x (defScope st) fa cdv A' outer s H E).nox = X at ok
  have hXN : X.N = (["script", "most", "k", "cell"] : List Str) := by rw [← hX]; rfl
  have hXs : X.env.scope = defScope st := ok.sc
  have hXw : X.w = w := by rw [← hX]; rfl
  have hXK : X.K = K := by rw [← hX]; rfl
  have bk : BlkOk X.N X.env.scope scope [("k", 2), ("cell", 3)] := by rw [hXN, hXs]; exact blkOk_by hbl
  have ge : Gl X "enumerate" := by
    show X.env.scope.names.lookup (Str.ofString "enumerate") = _
    rw [hXs]; exact B.lk
  have vis : ∀ (y : Str), y ∈ (["script", "most"] : List Str) → Vis X.env.scope y := fun y hy => by
    rw [hXs]
    rcases sc.par y hy with q | q
    · exact .inl q
    · exact .inr (.inl q)
  obtain ⟨a, ns, m, rfl, hS, hl, hm0, hm1, q⟩ := h
  rw [hb]
  have v0 : PE X (.Name "script" p5) (tVar 0) := pe_var (by rw [hXN]; rfl) (vis _ (by simp))
  have v1 : PE X (.Name "most" p6) (tVar 1) := pe_var (by rw [hXN]; rfl) (vis _ (by simp))
  refine ⟨_, pss_one (ps_ret (pe_lc (te := tE X.w X.K (callF t n) t.cd (.call wid [.v 3, .bin .mul (.c (.int 977)) (.v 2)])) (g := gT X.w X.K false (.tp [.nm 2, .nm 3])) ok.calm (by rw [ok.N]; exact ok.nd) (pi_enum ge (ok.bl _ B.be) (pa_cons (pe_op op_cat (pe_slice sl_list v0 po_none (po_some v1)) (pe_lst (pa_cons pe_int pa_nil))) pa_nil))
    bk (fun s H C cl fp => tgOk (ok.blk bk.kind s H C cl fp) hT) (fun _ _ _ _ _ => pts_nil) (fun s H C cl fp => ((all7 (callF t n) t.cd 58).e (ok.blk bk.kind s H C cl fp) hE).1))), ?_⟩
  rw [hXw, hXK]
  -- script[:most] + [0]
  refine ⟨.ref a, rfl, .int m, rfl, m, rfl, a, ns.map V.int, rfl, hS, fun c nc => ⟨by show 1 ≤ sizeLine; decide, fun d nd => ?_⟩⟩
  rw [cut_take _ _ hm0] at nd ⊢
  generalize hL : ns.take m.toNat ++ [0] = L
  have hLl : L.length ≤ 1001 := by
    rw [← hL, List.length_append, List.length_take, List.length_singleton]
    omega
  have hcat : (List.take m.toNat (ns.map V.int)) ++ [V.int 0] = L.map V.int := by
    rw [← hL, List.map_append, List.map_take, List.map_singleton]
  have ncd : c ≠ d := fun z => by
    rw [z, upd_same] at nd
    cases nd
  have bigz : ∀ {k : Nat}, k ≤ 1001 → k < sizeLine := fun h => Nat.lt_of_le_of_lt h (by decide)
  refine ⟨c, d, _, _, rfl, rfl, by rw [upd_ne ncd]; exact upd_same, upd_same, ?_, fun p0 np0 => ?_⟩
  · rw [← List.length_append, hcat, List.length_map]
    exact Nat.le_of_lt (bigz hLl)
  rw [hcat]
  have sm1 : Same H (upd (upd (upd H c (.lst (List.take m.toNat (ns.map V.int)))) d (.lst [V.int 0])) p0 (.lst (L.map V.int))) := fun b o e => same_upd np0 _ _ (same_upd nd _ _ (same_upd nc _ _ e))
  generalize hH1 : upd (upd (upd H c (.lst (List.take m.toNat (ns.map V.int)))) d (.lst [V.int 0])) p0 (.lst (L.map V.int)) = H1 at sm1
  have hp0 : H1 p0 = some (.lst (L.map V.int)) := by rw [← hH1]; exact upd_same
  refine ⟨p0, _, rfl, SqL.of hp0, fun Da hDa => ?_⟩
  have hbl' : ∀ (i : Nat) (c : Int), L[i]? = some c → (bagsOf well ns m)[i]? = some (well c (977 * (i : Int))) := fun i c hc => by
    unfold bagsOf
    rw [hL, List.getElem?_mapIdx, hc]
    rfl
  have hbn : (bagsOf well ns m).length = L.length := by
    unfold bagsOf
    rw [List.length_mapIdx, hL]
  refine ⟨fun i k H2 => k = L.length - i ∧ i ≤ L.length ∧ ∃ as : List Addr, as.length = i ∧ Same H1 H2 ∧ H2 Da = some (.lst (as.map V.ref)) ∧ as.Nodup ∧ ∀ (j : Nat) (a : Addr), as[j]? = some a → H1 a = none ∧ a ≠ Da ∧ ∃ b, (bagsOf well ns m)[j]? = some b ∧ H2 a = some (.lst (b.map V.int)),
    ⟨L.length, rfl, Nat.zero_le _, [], rfl, same_upd hDa, upd_same, List.nodup_nil, fun j a h => by simp at h⟩, ?_⟩
  rintro i k H2 ⟨rfl, hi, as, hal, sm2, hD2, hnd, hea⟩
  have hp2 := sm2 _ _ hp0
  by_cases hlt : i < L.length
  · have hx : L[i]? = some L[i] := List.getElem?_eq_getElem hlt
    have hxv : (L.map V.int)[i]? = some (.int L[i]) := by rw [List.getElem?_map, hx]; rfl
    refine .inr ⟨⟨_, _, SqL.of hp2, hxv⟩, fun H' => ∃ as : List Addr, as.length = i + 1 ∧ Same H1 H' ∧ H' Da = some (.lst (as.map V.ref)) ∧ as.Nodup ∧ ∀ (j : Nat) (a : Addr), as[j]? = some a → H1 a = none ∧ a ≠ Da ∧ ∃ b, (bagsOf well ns m)[j]? = some b ∧ H' a = some (.lst (b.map V.int)),
      fun H' z => ⟨L.length - (i + 1), by omega, rfl, hlt, z⟩, fun v H3 yv => ?_⟩
    obtain ⟨T, x', rfl, hT, rfl, ex⟩ := yv
    have ex := ex _ (SqL.of hp2)
    rw [hxv] at ex
    cases ex
    have sm3 : Same H2 (upd H2 T (.tup [.int (i : Nat), .int L[i]])) := same_upd hT
    generalize hH3 : upd H2 T (.tup [.int (i : Nat), .int L[i]]) = H3 at sm3
    have hT3 : H3 T = some (.tup [.int (i : Nat), .int L[i]]) := by rw [← hH3]; exact upd_same
    -- all that stands is shunned: what is made is new
    obtain ⟨s0, o0⟩ := no_sr (w := w) (K := K) (H := H3) (M := fun b => H3 b ≠ none) (σ := wipe (L2.start ["script", "most", "k", "cell"] [V.ref a, V.int m]) [2, 3]) fun _ h => h
    refine ⟨_, _, .tuple [.int (i : Nat), .int L[i]], [.no, .no, .val (.int (i : Nat)), .val (.int L[i])], s0, .pair (.inl (.inl hT3)) (.cons (.int _) (.cons (.int _) .nil)), rfl, fun σ2 s2 fx => ⟨(fx.wipe (own := [2, 3]) (by simp [Mi.T.js, Mi.T.jss])).trans (wipe_wipe (us := [2, 3]) (vs := [2, 3]) fun _ h => h), ?_⟩⟩
    simp only [tYes, if_true]
    have o2 : ∀ b, ¬ OwA [.no, .no, .val (.int (i : Nat)), .val (.int L[i])] σ2 b := fun b z => o0 b ((fx.ow b).mp z)
    refine ⟨_, _, .list ((well L[i] (977 * (i : Int))).map PyData.int), [.no, .no, .val (.int (i : Nat)), .val (.int L[i])], s2, ?_, fun v H4 M4 s4 e4 r4 => ?_⟩
    · have hw := hW L[i] (977 * (i : Int)) (by omega) (by omega)
      have hg : (decide (-big < 977) && decide ((977 : Int) < big) || decide (-big < (i : Int)) && decide ((i : Int) < big)) = true := by
        have : (decide (-big < 977) && decide ((977 : Int) < big)) = true := by decide
        rw [this, Bool.true_or]
      show bnd (bnd (some (PyData.int L[i], _)) fun d env => bnd (bnd (bnd (bnd (some (PyData.int 977, env)) fun x env => bnd (some (PyData.int (i : Nat), env)) fun y env => lft env (gd (decide (-big < 977) && decide ((977 : Int) < big) || decide (-big < (i : Int)) && decide ((i : Int) < big)) (some (.int (977 * (i : Int)))))) fun d env => bnd (some ([], env)) fun ds env => some (d :: ds, env)) fun ds env => some (ds, env)) fun ds env => some (d :: ds, env)) (fun ds env => match callF t n wid ds with | some (d, none) => some (d, env) | _ => none) = _
      rw [hg]
      simp only [bnd_some, gd_true, lft_some, hw]
    · cases r4 with
      | @lst a' xs' ds' g4 n4 rr =>
        have exs := rpl_ints rr
        subst exs
        have sm4 : Same H3 H4 := fun b o h => e4.keep b o h (o2 b)
        have na : H3 a' = none := by
          cases e : H3 a' with
          | none => rfl
          | some o => exact (n4 (e4.mk' a' (some_ne e) (some_ne e) (o2 a'))).elim
        have back : ∀ {b : Addr}, H3 b = none → H2 b = none := fun {b} h => by
          cases e : H2 b with
          | none => rfl
          | some o => rw [sm3 _ _ e] at h; cases h
        have hD4 := sm4 _ _ (sm3 _ _ hD2)
        have nD : a' ≠ Da := fun z => by rw [z, sm3 _ _ hD2] at na; cases na
        have nin : a' ∉ as := fun z => by
          obtain ⟨j, hj⟩ := List.mem_iff_getElem?.mp z
          obtain ⟨_, _, b, _, hb2⟩ := hea j a' hj
          rw [sm3 _ _ hb2] at na
          cases na
        refine ⟨as.map V.ref, hD4, by rw [List.length_map, hal]; exact bigz (by omega), as ++ [a'], by rw [List.length_append, hal]; rfl, fun b o h => ?_, by rw [upd_same, List.map_append]; rfl, ?_, fun j b h => ?_⟩
        · rw [upd_ne (show b ≠ Da from fun z => by rw [z] at h; rw [hDa] at h; cases h)]
          exact sm4 _ _ (sm3 _ _ (sm2 _ _ h))
        · rw [List.nodup_append]
          refine ⟨hnd, by simp, fun b hb c hc => ?_⟩
          have : c = a' := by simpa using hc
          rw [this]
          exact fun z => nin (z ▸ hb)
        · by_cases hj : j < as.length
          · rw [List.getElem?_append_left hj] at h
            obtain ⟨h1, h2, b', h3, h4⟩ := hea j b h
            exact ⟨h1, h2, b', h3, by rw [upd_ne h2]; exact sm4 _ _ (sm3 _ _ h4)⟩
          · rw [List.getElem?_append_right (by omega)] at h
            have hj0 : j - as.length = 0 := by
              have := (List.getElem?_eq_some_iff.mp h).1
              simp at this
              omega
            rw [hj0] at h
            have eb : a' = b := by simpa using h
            have ej : j = i := by omega
            subst eb
            subst ej
            refine ⟨?_, nD, _, hbl' _ _ hx, by rw [upd_ne nD]; exact g4⟩
            cases e : H1 a' with
            | none => rfl
            | some o => rw [sm3 _ _ (sm2 _ _ e)] at na; cases na
  · have e : i = L.length := by omega
    subst e
    refine .inl ⟨⟨_, SqL.of hp2, by rw [List.length_map]; exact Nat.le_refl _⟩, q H2 Da as ⟨fun b o e => sm2 _ _ (sm1 _ _ e), ?_, hD2, by rw [hal, hbn], hnd, fun z => ?_, fun j a h => ?_⟩⟩
    · cases e : H Da with
      | none => rfl
      | some o => rw [sm1 _ _ e] at hDa; cases hDa
    · obtain ⟨j, hj⟩ := List.mem_iff_getElem?.mp z
      exact (hea j Da hj).2.1 rfl
    · obtain ⟨h1, _, h2⟩ := hea j a h
      refine ⟨?_, h2⟩
      cases e : H a with
      | none => rfl
      | some o => rw [sm1 _ _ e] at h1; cases h1
end
end Mi
end
section
set_option Elab.async false
set_option linter.all false
set_option maxRecDepth 100000
set_option maxHeartbeats 2000000
/-! S8b: the law's own def. -/
namespace Mi
open PySem PySem.Spec PyProof.Rows L2

def scB (N P : List Str) (sc : Scope) : Bool :=
  decide (sc.kind = .function) && decide (sc.isCoroutine = false) && decide (sc.isGenerator = false) && decide N.Nodup && decide (N.take P.length = P) && (P.all fun x => decide (sc.names.lookup x = some .local) || decide (sc.names.lookup x = some .cell)) && sc.names.all fun y => decide (y.2 ≠ .free)
theorem scOk {N P : List Str} {sc : Scope} (h : scB N P sc = true) : FnScope N P sc := by
  unfold scB at h
  simp only [Bool.and_eq_true, decide_eq_true_eq, List.all_eq_true, Bool.or_eq_true] at h
  obtain ⟨⟨⟨⟨⟨⟨h1, h2⟩, h3⟩, h4⟩, h5⟩, h6⟩, h7⟩ := h
  exact ⟨h1, h2, h3, h4, h5, h6, h7⟩
/-- the state in which the body of the loop begins: only the bag is known -/
def bagEnv (k : Nat) (b : List Int) : Ev := (List.replicate k .no).set 1 (.own (.list (b.map PyData.int)))
structure LawText (fns : List (Str × Nat × Bool)) (cns : List (Str × Nat)) (bs : List Str) (N mu : List Str) (m : Int) (ib ir : List S) (st : Stmt) : Prop where
  ex : ∃ (body rest : List Stmt) (p1 p2 p3 p4 p5 p6 : Pos) (j0 : Nat), defBody st = .For (.Name "bag" p1) (.Call (.Name "_law_bags" p2) [.Name "script" p3, .Constant (.int m) j0 p4] [] p5) body [] p6 :: rest ∧
    cpSs 58 (ccOf N (defScope st) mu fns cns bs) body = some ib ∧ cpSs 58 (ccOf N (defScope st) mu fns cns bs) rest = some ir
  sc : FnScope N ["script"] (defScope st)
  n0 : N[0]? = some (Str.ofString "script")
  n1 : N[1]? = some (Str.ofString "bag")
  kb : (ccOf N (defScope st) mu fns cns bs).store "bag" = some 1
  lk : (defScope st).names.lookup (Str.ofString "_law_bags") = some .globalImplicit
def spLaw (K : PySem.W.Frag) : Sp := fun vs H Q _ => ∃ (a : Addr) (ns : List Int), vs = [.ref a] ∧ SqL K H a (ns.map V.int) ∧ ns.length ≤ 63 ∧ ∀ H', Q (.bl true) H'
section
variable {P : Program} {w : World} {K : PySem.W.Frag} {mg : Str → Option Value} {base : Heap} {t : Tb} {fns : List (Str × Nat × Bool)} {cns : List (Str × Nat)} {bs : List Str}
theorem ok_law (A : PrHyp K mg t fns cns bs w) {n : Nat} {N mu : List Str} {m : Int} {ib ir : List S} {bags : List Int → Int → List (List Int)} (hm0 : 0 ≤ m) (hm1 : m ≤ 1000) {st : Stmt} {fa fB : Addr} {fd fdB : FuncData} (F : Fun K "law" "law" st fa fd) (T : LawText fns cns bs N mu m ib ir st)
    (GB : FnOk P w K mg base CX0 n fB fdB ["script", "most"] (spBags K bags)) (bB : Binds K fdB ["script", "most"] []) (gB : mg "_law_bags" = some (.ref fB)) (kB : PySem.W.keepIn K (.ref fB) = true)
    (hB : ∀ ns : List Int, ns.length ≤ 63 → ∀ b ∈ bags ns m, ∃ env', evSs (callF t n) t.cd ib (bagEnv N.length b) = some (.nx env')) (hR : ∃ env', evSs (callF t n) t.cd ir (List.replicate N.length .no) = some (.rt (.bool true) env')) :
    FnOk P w K mg base CX0 (n + 1) fa fd ["script"] (spLaw K) := by
  obtain ⟨body, rest, p1, p2, p3, p4, p5, p6, j0, hb, hc1, hc2⟩ := T.ex
  have sc := T.sc
  refine F.ok sc (fun vs H Q E ⟨a, ns, e, _⟩ => by rw [e]; rfl) fun cdv A' outer s H vs Q E hr h => ?_
  have ok : Ok7 (ccOf N (defScope st) mu fns cns bs) (cxOf CX0 P w K mg base N "law" (defScope st) fa cdv A' outer s H E).nox (callF t n) t.cd :=
    ⟨rfl, sc.nd, rfl, sc.kind, rfl, by have := hr.un; show (A'.deeper (envOfC "law" (defScope st) s.heap.objs.size fa cdv)).units + 70 < cLine; omega, fun _ _ => rfl, rfl, A.bl,
      fun y g c hl => by
        obtain ⟨fa', fd', F'⟩ := A.fs y g c hl
        exact ⟨n, fa', fd', (t.fn g).ps, fn_ok A n y g c fa' fd' F', hr, F'.gl, F'.ex.choose_spec.choose_spec.1.kp, F'.bi⟩, A.cs⟩
  have gl : Gl (cxOf CX0 P w K mg base N "law" (defScope st) fa cdv A' outer s H E).nox "_law_bags" := T.lk
  have vs0 : Vis (defScope st) "script" := by
    rcases sc.par "script" (by simp) with q | q
    · exact .inl q
    · exact .inr (.inl q)
  obtain ⟨a, ns, rfl, hS, hl, q⟩ := h
  rw [hb]
  obtain ⟨g1, g2, g3⟩ := ok.store T.kb
  refine ⟨_, pss_cons (ps_for (never ok) rfl (pi_list (pe_call GB hr gl gB kB bB .nil pass0 (pa_cons (pe_var T.n0 vs0) (pa_cons pe_int pa_nil)))) (pg_name sc.nd g1 g2 g3) ((allS _ _ 58).ss ok hc1)) ((allS _ _ 58).ss ok hc2), ?_⟩
  have st0 : (L2.start N [V.ref a])[0]? = some (some (.ref a)) := rfl
  refine ⟨.ref a, st0, a, ns, m, rfl, hS, by omega, hm0, hm1, fun H1 p as L => ⟨p, rfl, ⟨_, SqL.of L.lst⟩, ?_⟩⟩
  refine ⟨fun i k σ H2 => k = as.length - i ∧ i ≤ as.length ∧ σ.length = N.length ∧ H2 p = some (.lst (as.map V.ref)) ∧ ∀ (j : Nat) (a : Addr), i ≤ j → as[j]? = some a → ∃ b, (bags ns m)[j]? = some b ∧ H2 a = some (.lst (b.map V.int)),
    ⟨as.length, rfl, Nat.zero_le _, ?_, L.lst, fun j a _ h => (L.each j a h).2⟩, ?_⟩
  · have : 1 ≤ N.length := by
      have := (List.getElem?_eq_some_iff.mp T.n0).1
      omega
    simp [L2.start]
    omega
  rintro i k σ H2 ⟨rfl, hi, hσ, hp, hea⟩
  by_cases hlt : i < as.length
  · have hx : as[i]? = some as[i] := List.getElem?_eq_getElem hlt
    have hxv : (as.map V.ref)[i]? = some (.ref as[i]) := by rw [List.getElem?_map, hx]; rfl
    refine .inr ⟨⟨_, _, SqL.of hp, hxv⟩, fun σ' H' => σ'.length = N.length ∧ H' p = some (.lst (as.map V.ref)) ∧ ∀ (j : Nat) (a : Addr), i + 1 ≤ j → as[j]? = some a → ∃ b, (bags ns m)[j]? = some b ∧ H' a = some (.lst (b.map V.int)),
      fun σ' H' z => ⟨as.length - (i + 1), by omega, rfl, hlt, z⟩, fun v H3 yv => ?_⟩
    obtain ⟨rfl, ex⟩ := yv
    have ex := ex _ (SqL.of hp)
    rw [hxv] at ex
    cases ex
    obtain ⟨b, hb1, hb2⟩ := hea i as[i] (Nat.le_refl _) hx
    obtain ⟨env', he⟩ := hB ns hl b (List.mem_iff_getElem?.mpr ⟨i, hb1⟩)
    have h1 : 1 < N.length := (List.getElem?_eq_some_iff.mp T.n1).1
    have only : ∀ {j : Nat} {s : Sl}, (bagEnv N.length b)[j]? = some s → (j = 1 ∧ s = .own (.list (b.map PyData.int))) ∨ s = .no := fun {j s} h => by
      rcases set_get h with ⟨rfl, z, _⟩ | ⟨_, h⟩
      · exact .inl ⟨rfl, z.symm⟩
      · obtain ⟨_, e⟩ := List.getElem?_eq_some_iff.mp h
        rw [List.getElem_replicate] at e
        exact .inr e.symm
    have rint : ∀ {H : Hp} {M : Addr → Prop} (is : List Int), RpL w K H M (is.map PyData.int) (is.map V.int) := fun is => by
      induction is with
      | nil => exact .nil
      | cons i r ih => exact .cons (.int _) ih
    have sg : (σ.set 1 (some (V.ref as[i])))[1]? = some (some (.ref as[i])) := List.getElem?_set_self (by rw [hσ]; exact h1)
    have sr : SR w K (bagEnv N.length b) (fun c => c = as[i]) (σ.set 1 (some (V.ref as[i]))) H3 := by
      refine ⟨by simp [bagEnv, hσ], fun j d h => ?_, fun j d h => ?_, fun j l d e c h1 h2 _ _ => ?_, fun c z => z ▸ some_ne hb2⟩
      · rcases only h with ⟨_, z⟩ | z <;> cases z
      · rcases only h with ⟨rfl, z⟩ | z
        · cases z
          exact ⟨as[i], sg, rfl, .lst hb2 (rint b)⟩
        · cases z
      · rcases only h1 with ⟨rfl, _⟩ | z
        · rcases only h2 with ⟨rfl, _⟩ | z
          · rfl
          · cases z
        · cases z
    have ow : ∀ c, OwA (bagEnv N.length b) (σ.set 1 (some (V.ref as[i]))) c → c = as[i] := fun c ⟨j, d, h1, h2⟩ => by
      rcases only h1 with ⟨rfl, _⟩ | z
      · rw [sg] at h2
        cases h2
        rfl
      · cases z
    refine ⟨_, _, .nx env', sr, he, fun σ' H' M' sr' e' st' => ⟨by rw [st'.1, List.length_set, hσ], ?_, fun j c hj hc => ?_⟩⟩
    · exact e'.keep _ _ hp fun z => by
        have := ow _ z
        exact L.np (this ▸ List.mem_iff_getElem?.mpr ⟨i, hx⟩)
    · obtain ⟨b2, h3, h4⟩ := hea j c (by omega) hc
      refine ⟨b2, h3, e'.keep _ _ h4 fun z => ?_⟩
      have e := ow _ z
      have hj' := (List.getElem?_eq_some_iff.mp hc).1
      have e2 : as[j] = as[i] := by
        rw [← e]
        exact (List.getElem?_eq_some_iff.mp hc).2
      exact List.pairwise_iff_getElem.mp L.nd i j hlt hj' (by omega) e2.symm
  · have e : i = as.length := by omega
    subst e
    refine .inl ⟨⟨_, SqL.of hp, by rw [List.length_map]; exact Nat.le_refl _⟩, ?_⟩
    obtain ⟨env', he⟩ := hR
    obtain ⟨s0, o0⟩ := no_sr (w := w) (K := K) (H := H2) (M := fun b => H2 b ≠ none) (σ := σ) fun _ h => h
    rw [hσ] at s0
    refine ⟨_, _, .rt (.bool true) env', s0, he, fun v σ' H' M' sr' e' st' r' => ?_⟩
    cases r'
    exact q H'
end
end Mi
end
section
set_option Elab.async false
set_option linter.all false
set_option maxRecDepth 100000
set_option maxHeartbeats 2000000
/-! S9: what the top has written, made into the table's hypotheses. -/
namespace Mi
open PySem PySem.Spec PyProof.Rows L2

/-- a constant of the module, as it is written -/
inductive KRep (K : PySem.W.Frag) : D → Value → Prop where
  | non : KRep K .none .none
  | bl (b : Bool) : KRep K (.bool b) (.bool b)
  | int (i : Int) (t : Tok) : KRep K (.int i) (.int i t)
  | str (x : Str) (t : Tok) : KRep K (.str x) (.str x t)
  | nil {a : Addr} {n : Nat} {sl : Array (Option Value)} : K.lookup a = some ⟨.type "tuple", none, .seq #[] n, sl⟩ → KRep K (.tuple []) (.ref a)
  | one {a : Addr} {n : Nat} {sl : Array (Option Value)} {u : Value} {d : D} : K.lookup a = some ⟨.type "tuple", none, .seq #[u] n, sl⟩ → KRep K d u → KRep K (.tuple [d]) (.ref a)
  | two {a : Addr} {n : Nat} {sl : Array (Option Value)} {u v : Value} {d e : D} : K.lookup a = some ⟨.type "tuple", none, .seq #[u, v] n, sl⟩ → KRep K d u → KRep K e v → KRep K (.tuple [d, e]) (.ref a)
  | three {a : Addr} {n : Nat} {sl : Array (Option Value)} {u v z : Value} {d e f : D} : K.lookup a = some ⟨.type "tuple", none, .seq #[u, v, z] n, sl⟩ → KRep K d u → KRep K e v → KRep K f z → KRep K (.tuple [d, e, f]) (.ref a)
  | strs' {a : Addr} {n : Nat} {sl : Array (Option Value)} {its : Array Value} (xs : List Str) : K.lookup a = some ⟨.type "tuple", none, .seq its n, sl⟩ → (its.toList.map fun v => match v with | .str x _ => some x | _ => none) = xs.map some → xs.length ≤ 1000 → KRep K (.tuple (xs.map PyData.str)) (.ref a)
theorem strs_vals {w : World} {K : PySem.W.Frag} {H : Hp} {M : Addr → Prop} : ∀ {vs : List Value} {xs : List Str}, (vs.map fun v => match v with | .str x _ => some x | _ => none) = xs.map some → Vals (xs.map V.str) vs ∧ RpL w K H M (xs.map PyData.str) (xs.map V.str)
  | [], [], _ => ⟨.nil, .nil⟩
  | [], _ :: _, h => by simp at h
  | _ :: _, [], h => by simp at h
  | v :: vs, x :: xs, h => by
    rw [List.map_cons, List.map_cons, List.cons.injEq] at h
    obtain ⟨h1, h2⟩ := strs_vals (w := w) (K := K) (H := H) (M := M) h.2
    have h0 := h.1
    split at h0
    · cases h0
      exact ⟨.cons ⟨_, rfl⟩ h1, .cons (.str _) h2⟩
    · cases h0
theorem KRep.rep {K : PySem.W.Frag} {w : World} {d : D} {u : Value} (r : KRep K d u) : ∃ v, RelV v u ∧ ∀ H M, Rp w K H M d v := by
  induction r with
  | non => exact ⟨.non, rfl, fun _ _ => .non⟩
  | bl b => exact ⟨.bl b, rfl, fun _ _ => .bl b⟩
  | int i t => exact ⟨.int i, ⟨t, rfl⟩, fun _ _ => .int i⟩
  | str x t => exact ⟨.str x, ⟨t, rfl⟩, fun _ _ => .str x⟩
  | @nil a n sl l => exact ⟨.ref a, rfl, fun _ _ => .tup (.inr ⟨_, _, _, l, rfl, rfl, rfl, Nat.zero_le _, .nil⟩) .nil⟩
  | @one a n sl u d l r ih =>
    obtain ⟨v, h1, h2⟩ := ih
    exact ⟨.ref a, rfl, fun H M => .tup (xs := [v]) (.inr ⟨_, _, _, l, rfl, rfl, rfl, (by show 1 ≤ sizeLine; decide), .cons h1 .nil⟩) (.cons (h2 H M) .nil)⟩
  | @two a n sl u u2 d e l r1 r2 ih1 ih2 =>
    obtain ⟨v, h1, h2⟩ := ih1
    obtain ⟨v2, g1, g2⟩ := ih2
    exact ⟨.ref a, rfl, fun H M => .tup (xs := [v, v2]) (.inr ⟨_, _, _, l, rfl, rfl, rfl, (by show 2 ≤ sizeLine; decide), .cons h1 (.cons g1 .nil)⟩) (.cons (h2 H M) (.cons (g2 H M) .nil))⟩
  | @three a n sl u u2 u3 d e f l r1 r2 r3 ih1 ih2 ih3 =>
    obtain ⟨v, h1, h2⟩ := ih1
    obtain ⟨v2, g1, g2⟩ := ih2
    obtain ⟨v3, k1, k2⟩ := ih3
    exact ⟨.ref a, rfl, fun H M => .tup (xs := [v, v2, v3]) (.inr ⟨_, _, _, l, rfl, rfl, rfl, (by show 3 ≤ sizeLine; decide), .cons h1 (.cons g1 (.cons k1 .nil))⟩) (.cons (h2 H M) (.cons (g2 H M) (.cons (k2 H M) .nil)))⟩
  | @strs' a n sl its xs l e hl =>
    refine ⟨.ref a, rfl, fun H M => ?_⟩
    obtain ⟨h1, h2⟩ := strs_vals (w := w) (K := K) (H := H) (M := M) e
    have hz := congrArg List.length e
    rw [List.length_map, List.length_map, Array.length_toList] at hz
    exact .tup (.inr ⟨_, _, _, l, rfl, rfl, rfl, by rw [hz]; exact Nat.le_of_lt (Nat.lt_of_le_of_lt hl (by decide)), h1⟩) h2
inductive AllF (K : PySem.W.Frag) (mg : Str → Option Value) (t : Tb) (fns : List (Str × Nat × Bool)) (cns : List (Str × Nat)) (bs : List Str) : List (Str × Nat × Bool) → Prop where
  | nil : AllF K mg t fns cns bs []
  | cons {x : Str} {f : Nat} {b : Bool} {r : List (Str × Nat × Bool)} : (∃ fa fd, FnHyp K mg t fns cns bs x f b fa fd) → AllF K mg t fns cns bs r → AllF K mg t fns cns bs ((x, f, b) :: r)
theorem AllF.get {K : PySem.W.Frag} {mg : Str → Option Value} {t : Tb} {fns : List (Str × Nat × Bool)} {cns : List (Str × Nat)} {bs : List Str} {l : List (Str × Nat × Bool)} (h : AllF K mg t fns cns bs l) : ∀ x f b, l.lookup x = some (f, b) → ∃ fa fd, FnHyp K mg t fns cns bs x f b fa fd := by
  induction h with
  | nil => intro x f b e; cases e
  | @cons y g c r h t ih =>
    intro x f b e
    rw [List.lookup_cons] at e
    split at e
    · rename_i q
      cases e
      rw [eq_of_beq q]
      exact h
    · exact ih x f b e
inductive AllC (K : PySem.W.Frag) (mg : Str → Option Value) (cd : CD) : List (Str × Nat) → Prop where
  | nil : AllC K mg cd []
  | cons {x : Str} {k : Nat} {u : Value} {r : List (Str × Nat)} : mg x = some u → KRep K (cd k) u → AllC K mg cd r → AllC K mg cd ((x, k) :: r)
theorem AllC.get {K : PySem.W.Frag} {mg : Str → Option Value} {cd : CD} {w : World} {l : List (Str × Nat)} (h : AllC K mg cd l) : ∀ x k, l.lookup x = some k → ∃ v u, mg x = some u ∧ RelV v u ∧ ∀ H M, Rp w K H M (cd k) v := by
  induction h with
  | nil => intro x k e; cases e
  | cons h1 h2 h3 ih =>
    intro x k e
    rw [List.lookup_cons] at e
    split at e
    · rename_i q
      cases e
      rw [eq_of_beq q]
      obtain ⟨v, g1, g2⟩ := h2.rep (w := w)
      exact ⟨v, _, h1, g1, g2⟩
    · exact ih x k e
theorem mkF {K : PySem.W.Frag} {h : Heap} {mg : Str → Option Value} {t : Tb} {fns : List (Str × Nat × Bool)} {cns : List (Str × Nat)} {bs : List Str} {x : Str} {f : Nat} {bor : Bool} {fa : Addr} {st : Stmt} {oc : Value} {od an : Option Addr} {osl : Array (Option Value)} {kV doc pm cdv ct : Value} {mu N ps : List Str} {body : List S}
    (X : K.In h) (G : h.Ns mainGlobals mg) (a : PySem.W.nsIn K mainGlobals x = some (some (.ref fa))) (l : K.lookup fa = some ⟨oc, od, .func (PySem.W.fnOf x x (defArgs st) (defBody st) (defScope st) .none kV doc pm an cdv ct), osl⟩) (c : PySem.W.codeIn K cdv x = true) (k : PySem.W.keepIn K (.ref fa) = true)
    (hf : t.fn f = ⟨ps, N, bor, body⟩) (sc : FnScope N ps (defScope st)) (cp : cpSs 60 (ccOf N (defScope st) mu fns cns bs) (defBody st) = some body)
    (hb : ∀ (kV doc pm : Value) (an : Option Addr) (cdv ct : Value) (us : List Value), us.length = ps.length → bindArgs (PySem.W.fnOf x x (defArgs st) (defBody st) (defScope st) .none kV doc pm an cdv ct) ⟨us, []⟩ = pure (ps.zip us)) (bz : (!bor || !(S.jss body).contains 0) = true) :
    ∃ fa fd, FnHyp K mg t fns cns bs x f bor fa fd := by
  have F := fun_mk (st := st) l c k
  refine ⟨fa, _, ⟨st, mu, F, by rw [hf]; exact sc, by rw [hf]; exact cp⟩, by rw [hf]; exact F.binds hb, PySem.W.mg_of X G a, by rw [hf], fun e => ?_⟩
  rw [hf]
  rw [e] at bz
  simpa using bz
end Mi
end
section
set_option Elab.async false
set_option linter.all false
set_option maxRecDepth 100000
set_option maxHeartbeats 4000000
/-! PL: plain Lean about the evaluator: tools. -/
namespace Mi
open PySem

/-! ### the evaluator's steps, for simp -/
section
variable (cf : CF) (cd : CD) (env : Ev)
@[simp] theorem e_v (i : Nat) : evE cf cd (.v i) env = rd env i := rfl
@[simp] theorem e_c (d : D) : evE cf cd (.c d) env = some (d, env) := rfl
@[simp] theorem e_g (k : Nat) : evE cf cd (.g k) env = some (cd k, env) := rfl
@[simp] theorem e_tup (es : List E) : evE cf cd (.tup es) env = bnd (evEs cf cd es env) fun ds env => gd (decide (ds.length ≤ SZ)) (some (.tuple ds, env)) := rfl
@[simp] theorem e_lst (es : List E) : evE cf cd (.lst es) env = bnd (evEs cf cd es env) fun ds env => gd (decide (ds.length ≤ SZ)) (some (.list ds, env)) := rfl
@[simp] theorem e_bin (o : BO) (a b : E) : evE cf cd (.bin o a b) env = bnd (evE cf cd a env) fun x env => bnd (evE cf cd b env) fun y env => lft env (binD o x y) := rfl
@[simp] theorem e_cmp (o : CO) (a b : E) : evE cf cd (.cmp o a b) env = bnd (evE cf cd a env) fun x env => bnd (evE cf cd b env) fun y env => lft env (cmpD o x y) := rfl
@[simp] theorem e_idx (a b : E) : evE cf cd (.idx a b) env = bnd (evE cf cd a env) fun x env => bnd (evE cf cd b env) fun y env => lft env (idxD x y) := rfl
@[simp] theorem e_slc (a : E) (l h : Option E) : evE cf cd (.slc a l h) env = bnd (evE cf cd a env) fun x env => bnd (evO cf cd l env) fun l env => bnd (evO cf cd h env) fun h env => lft env (slcD x l h) := rfl
@[simp] theorem e_f1 (f : F1) (a : E) : evE cf cd (.f1 f a) env = bnd (evE cf cd a env) fun x env => lft env (f1D f x) := rfl
@[simp] theorem e_f2 (f : F2) (a b : E) : evE cf cd (.f2 f a b) env = bnd (evE cf cd a env) fun x env => bnd (evE cf cd b env) fun y env => lft env (f2D f x y) := rfl
@[simp] theorem e_isi (a : E) (ts : List Ty) : evE cf cd (.isi a ts) env = bnd (evE cf cd a env) fun x env => gd (noDict x) (some (.bool (ts.any (isTy x)), env)) := rfl
@[simp] theorem es_nil' : evEs cf cd [] env = some ([], env) := rfl
@[simp] theorem es_cons' (e : E) (es : List E) : evEs cf cd (e :: es) env = bnd (evE cf cd e env) fun d env => bnd (evEs cf cd es env) fun ds env => some (d :: ds, env) := rfl
@[simp] theorem o_none : evO cf cd none env = some (none, env) := rfl
@[simp] theorem ss_nil' : evSs cf cd [] env = some (.nx env) := rfl
@[simp] theorem os_e' (e : E) : evOs cf cd (.e e) env = bnd (evE cf cd e env) fun d env => some (.val d, env) := rfl
@[simp] theorem s_asg (i : Nat) (o : O) : evS cf cd (.asg i o) env = bnd (evOs cf cd o env) fun s env => some (.nx (env.set i s)) := rfl
@[simp] theorem s_ret (e : E) : evS cf cd (.ret e) env = bnd (evE cf cd e env) fun d env => some (.rt d env) := rfl
end
/-- the steps of a statement list -/
def sq (r : Option Fl) (k : Ev → Option Fl) : Option Fl := match r with
  | some (.nx e) => k e
  | some (.rt d e) => some (.rt d e)
  | none => none
@[simp] theorem sq_nx (e : Ev) (k : Ev → Option Fl) : sq (some (.nx e)) k = k e := rfl
@[simp] theorem sq_rt (d : D) (e : Ev) (k : Ev → Option Fl) : sq (some (.rt d e)) k = some (.rt d e) := rfl
@[simp] theorem ss_cons' (cf : CF) (cd : CD) (env : Ev) (s : S) (r : List S) : evSs cf cd (s :: r) env = sq (evS cf cd s env) (evSs cf cd r) := by
  show evSs cf cd (s :: r) env = _
  unfold sq
  rw [evSs]
  try (rcases evS cf cd s env with _ | ⟨_ | _⟩ <;> rfl)
/-- a branch by a bool -/
def br {α : Type} (x : D) (a b : Option α) : Option α := match x with
  | .bool true => a
  | .bool false => b
  | _ => none
@[simp] theorem br_b {α : Type} (c : Bool) (a b : Option α) : br (.bool c) a b = if c then a else b := by cases c <;> rfl
section
variable (cf : CF) (cd : CD) (env : Ev)
@[simp] theorem s_iff (c : E) (a b : List S) : evS cf cd (.iff c a b) env = bnd (evE cf cd c env) fun x env => br x (evSs cf cd a env) (evSs cf cd b env) := by
  rw [evS]
  congr 1 <;> (funext x e; cases x <;> try rfl) <;> (rename_i b; cases b <;> rfl)
@[simp] theorem e_and (a b : E) : evE cf cd (.and a b) env = bnd (evE cf cd a env) fun x env => br x (evE cf cd b env) (some (.bool false, env)) := by
  rw [evE]
  congr 1 <;> (funext x e; cases x <;> try rfl) <;> (rename_i b; cases b <;> rfl)
@[simp] theorem e_or (a b : E) : evE cf cd (.or a b) env = bnd (evE cf cd a env) fun x env => br x (some (.bool true, env)) (evE cf cd b env) := by
  rw [evE]
  congr 1 <;> (funext x e; cases x <;> try rfl) <;> (rename_i b; cases b <;> rfl)
@[simp] theorem e_ife (c a b : E) : evE cf cd (.ife c a b) env = bnd (evE cf cd c env) fun x env => br x (evE cf cd a env) (evE cf cd b env) := by
  rw [evE]
  congr 1 <;> (funext x e; cases x <;> try rfl) <;> (rename_i b; cases b <;> rfl)
def notD : D → Option D
  | .bool b => some (.bool (!b))
  | _ => none
@[simp] theorem notD_b (b : Bool) : notD (.bool b) = some (.bool (!b)) := rfl
@[simp] theorem e_nt (a : E) : evE cf cd (.nt a) env = bnd (evE cf cd a env) fun x env => lft env (notD x) := by
  rw [evE]
  congr 1 <;> (funext x e; cases x <;> try rfl) <;> (rename_i b; cases b <;> rfl)
def negD : D → Option D
  | .int i => some (.int (-i))
  | _ => none
@[simp] theorem negD_i (i : Int) : negD (.int i) = some (.int (-i)) := rfl
@[simp] theorem e_neg (a : E) : evE cf cd (.neg a) env = bnd (evE cf cd a env) fun x env => lft env (negD x) := by
  rw [evE]
  congr 1 <;> (funext x e; cases x <;> try rfl) <;> (rename_i b; cases b <;> rfl)
end
@[simp] theorem int_add (i j : Int) : binD .add (.int i) (.int j) = some (.int (i + j)) := rfl
@[simp] theorem int_sub (i j : Int) : binD .sub (.int i) (.int j) = some (.int (i - j)) := rfl
@[simp] theorem int_lt (i j : Int) : cmpD .lt (.int i) (.int j) = some (.bool (decide (i < j))) := rfl
@[simp] theorem int_le (i j : Int) : cmpD .le (.int i) (.int j) = some (.bool (decide (i ≤ j))) := rfl
@[simp] theorem int_gt (i j : Int) : cmpD .gt (.int i) (.int j) = some (.bool (decide (j < i))) := rfl
@[simp] theorem int_ge (i j : Int) : cmpD .ge (.int i) (.int j) = some (.bool (decide (j ≤ i))) := rfl
@[simp] theorem int_mod (i j : Int) (h : 0 < j) : binD .mod (.int i) (.int j) = some (.int (i % j)) := by simp [binD, h]
@[simp] theorem int_fdiv (i j : Int) (h : 0 < j) (h2 : j < 1073741824) : binD .fdiv (.int i) (.int j) = some (.int (i / j)) := by simp [binD, h, h2]
theorem int_mul (i j : Int) (h : -big < i ∧ i < big ∨ -big < j ∧ j < big) : binD .mul (.int i) (.int j) = some (.int (i * j)) := by
  have : (decide (-big < i) && decide (i < big) || decide (-big < j) && decide (j < big)) = true := by
    simp only [Bool.or_eq_true, Bool.and_eq_true, decide_eq_true_eq]
    exact h
  show gd _ _ = _
  rw [this]
  rfl
theorem int_pow (i j : Int) (h0 : 0 ≤ j) (h1 : j ≤ 1000000) (h : i.natAbs < 18446744073709551616) : binD .pow (.int i) (.int j) = some (.int (i ^ j.toNat)) := by
  show gd _ _ = _
  rw [decide_eq_true h0, decide_eq_true h1, decide_eq_true h]
  rfl

/-! ### draws -/
/-- a bag that has room for r takes more -/
def Vb (r : Nat) (b : D) : Prop := ∃ x y z : Int, b = .list [.int x, .int y, .int z] ∧ 0 ≤ x ∧ 0 ≤ z ∧ z + r ≤ 1099511627776
theorem Vb.less {r s : Nat} {b : D} (h : Vb r b) (hs : s ≤ r) : Vb s b := by
  obtain ⟨x, y, z, rfl, h1, h2, h3⟩ := h
  exact ⟨x, y, z, rfl, h1, h2, by omega⟩
/-- a def that draws: what it gives is as P says, whatever the bag -/
def DrawOK (cf : CF) (f : Nat) (args : List D) (c : Nat) (P : D → Prop) : Prop := ∀ r b, Vb (r + c) b → ∃ d b', cf f (b :: args) = some (d, some b') ∧ P d ∧ Vb r b'
def b_take : List S := [.iff (.cmp .gt (.idxO 0 (.c (.int 0))) (.c (.int 0))) [.asg 2 (.e (.bin .mod (.idxO 0 (.c (.int 0))) (.v 1))), .seti 0 (.c (.int 0)) (.bin .fdiv (.idxO 0 (.c (.int 0))) (.v 1)), .ret (.v 2)] [], .seti 0 (.c (.int 2)) (.bin .add (.idxO 0 (.c (.int 2))) (.c (.int 1))), .asg 3 (.e (.c (.int 2305843009213693951))), .asg 4 (.e (.bin .mod (.bin .add (.idxO 0 (.c (.int 1))) (.bin .mul (.c (.int 1000003)) (.idxO 0 (.c (.int 2))))) (.v 3))), .asg 4 (.e (.bin .mod (.bin .add (.bin .add (.bin .mul (.v 4) (.v 4)) (.bin .mul (.c (.int 7919)) (.bin .pow (.idxO 0 (.c (.int 2))) (.c (.int 2))))) (.c (.int 5))) (.v 3))), .ret (.bin .mod (.bin .fdiv (.bin .mod (.bin .pow (.v 4) (.c (.int 3))) (.v 3)) (.c (.int 13))) (.v 1))]
theorem take_body (cf : CF) (cd : CD) (x y z m : Int) (hx : 0 ≤ x) (hz : 0 ≤ z) (hz2 : z ≤ 1099511627776) (hm : 0 < m) (hm2 : m < 1073741824) : ∃ i x' z' env, evSs cf cd b_take [.own (.list [.int x, .int y, .int z]), .val (.int m), .no, .no, .no] = some (.rt (.int i) env) ∧ env.getD 0 .no = .own (.list [.int x', .int y, .int z']) ∧ 0 ≤ i ∧ i < m ∧ 0 ≤ x' ∧ 0 ≤ z' ∧ z' ≤ z + 1 := by
  unfold b_take
  by_cases h : 0 < x
  · refine ⟨x % m, x / m, z, [.own (.list [.int (x / m), .int y, .int z]), .val (.int m), .val (.int (x % m)), .no, .no], ?_, rfl, Int.emod_nonneg _ (by omega), Int.emod_lt_of_pos _ hm, Int.ediv_nonneg hx (by omega), hz, by omega⟩
    simp [evE, pk, rd, idxD, L2.ixN, h, hm, hm2, evS, putD]
  · have e0 : x = 0 := by omega
    subst e0
    have bg : big = 18446744073709551616 := rfl
    generalize hn : (y + 1000003 * (z + 1)) % 2305843009213693951 = n1
    have h1 : 0 ≤ n1 := by rw [← hn]; exact Int.emod_nonneg _ (by decide)
    have h2 : n1 < 2305843009213693951 := by rw [← hn]; exact Int.emod_lt_of_pos _ (by decide)
    generalize hn2 : (n1 * n1 + 7919 * (z + 1) ^ 2 + 5) % 2305843009213693951 = n2
    have h3 : 0 ≤ n2 := by rw [← hn2]; exact Int.emod_nonneg _ (by decide)
    have h4 : n2 < 2305843009213693951 := by rw [← hn2]; exact Int.emod_lt_of_pos _ (by decide)
    have m1 := int_mul 1000003 (z + 1) (.inl ⟨by decide, by decide⟩)
    have m2 := int_mul n1 n1 (.inl ⟨by rw [bg]; omega, by rw [bg]; omega⟩)
    have m3 := int_mul 7919 ((z + 1) ^ (2 : Int).toNat) (.inl ⟨by decide, by decide⟩)
    have p1 := int_pow (z + 1) 2 (by decide) (by decide) (by omega)
    have p2 := int_pow n2 3 (by decide) (by decide) (by omega)
    have t2 : (2 : Int).toNat = 2 := rfl
    have t3 : (3 : Int).toNat = 3 := rfl
    rw [t2] at m3 p1
    rw [t3] at p2
    refine ⟨n2 ^ 3 % 2305843009213693951 / 13 % m, 0, z + 1, [.own (.list [.int 0, .int y, .int (z + 1)]), .val (.int m), .no, .val (.int 2305843009213693951), .val (.int n2)], ?_, rfl, Int.emod_nonneg _ (by omega), Int.emod_lt_of_pos _ hm, Int.le_refl _, by omega, Int.le_refl _⟩
    simp [evE, pk, rd, idxD, L2.ixN, evS, putD, m1, hn, m2, p1, m3, hn2, p2, hm]
theorem take_ok {t : Tb} {f n : Nat} (hf : t.fn f = ⟨["bag", "many"], ["bag", "many", "found", "p", "n"], true, b_take⟩) {m : Int} (hm : 0 < m) (hm2 : m < 1073741824) : DrawOK (callF t (n + 1)) f [.int m] 1 fun d => ∃ i, d = .int i ∧ 0 ≤ i ∧ i < m := by
  intro r b ⟨x, y, z, e, hx, hz, hr⟩
  subst e
  obtain ⟨i, x', z', env, h1, h2, h3, h4, h5, h6, h7⟩ := take_body (callF t n) t.cd x y z m hx hz (by omega) hm hm2
  refine ⟨.int i, .list [.int x', .int y, .int z'], ?_, ⟨i, rfl, h3, h4⟩, x', y, z', rfl, h5, h6, by omega⟩
  show gd (decide (_ = (t.fn f).ps.length)) (runB (t.fn f) (evSs (callF t n) t.cd (t.fn f).body (startE (t.fn f) _))) = _
  rw [hf]
  show gd true (match evSs (callF t n) t.cd b_take [.own (.list [.int x, .int y, .int z]), .val (.int m), .no, .no, .no] with
    | some (.nx env) => endE true .none env
    | some (.rt d env) => endE true d env
    | none => none) = _
  rw [h1]
  show endE true (.int i) env = _
  unfold endE
  rw [h2]

/-! ### comprehensions, loops -/
theorem back_wipe {e0 e : Ev} : ∀ own : List Nat, back e0 (wipeE e own) own = back e0 e own := by
  intro own
  apply List.ext_getElem?
  intro j
  by_cases m : j ∈ own
  · have g : ∀ (e : Ev), j < e.length → (back e0 e own)[j]? = some (e0.getD j .no) := fun e hl => by
      have hl2 : j < (back e0 e own).length := by rw [back_len]; exact hl
      have h : (back e0 e own)[j]? = some (back e0 e own)[j] := List.getElem?_eq_getElem hl2
      rcases back_get h with ⟨z, _⟩ | ⟨z, _⟩
      · rw [h, z]
      · exact (z m).elim
    by_cases hl : j < e.length
    · rw [g _ hl, g _ (by rw [wipeE_len]; exact hl)]
    · rw [List.getElem?_eq_none (by rw [back_len, wipeE_len]; omega), List.getElem?_eq_none (by rw [back_len]; omega)]
  · rw [back_out m, back_out m, wipeE_out m]
/-- a comprehension whose items are drawn -/
theorem compL_draw {own : List Nat} {bt : D → Ev → Option Ev} {el : Ev → Option (D × Ev)} {W : D → Ev} {G : D → D → Ev} {c : Nat} {P : D → Prop} (hb : ∀ b x, bt x (W b) = some (G b x)) (hw : ∀ b x, wipeE (G b x) own = W b)
    (he : ∀ r b x, Vb (r + c) b → ∃ d b', el (G b x) = some (d, G b' x) ∧ P d ∧ Vb r b') :
    ∀ (xs : List D) (r : Nat) (b : D) (e : Ev), wipeE e own = W b → Vb (r + c * xs.length) b → ∃ ds b' e', compL own bt (fun e => some (true, e)) el xs e = some (ds, e') ∧ ds.length = xs.length ∧ (∀ d ∈ ds, P d) ∧ Vb r b' ∧ wipeE e' own = W b'
  | [], r, b, e, h1, h2 => ⟨[], b, e, rfl, rfl, fun _ h => (by cases h), h2, h1⟩
  | x :: xs, r, b, e, h1, h2 => by
    obtain ⟨d, b1, g1, g2, g3⟩ := he (r + c * xs.length) b x (h2.less (by rw [List.length_cons, Nat.mul_add]; omega))
    obtain ⟨ds, b', e', k1, k2, k3, k4, k5⟩ := compL_draw hb hw he xs r b1 (G b1 x) (hw b1 x) g3
    refine ⟨d :: ds, b', e', ?_, by rw [List.length_cons, List.length_cons, k2], fun y hy => ?_, k4, k5⟩
    · unfold compL
      rw [h1, hb]
      simp only [bnd_some, g1, k1]
    · rcases List.mem_cons.mp hy with rfl | hy
      · exact g2
      · exact k3 y hy
/-- a comprehension of values -/
theorem compL_pure {own : List Nat} {bt : D → Ev → Option Ev} {cs : Ev → Option (Bool × Ev)} {el : Ev → Option (D × Ev)} {W : Ev} {G : D → Ev} {p : D → Bool} {f : D → D} {xs : List D} (hb : ∀ x ∈ xs, bt x W = some (G x)) (hw : ∀ x ∈ xs, wipeE (G x) own = W)
    (hc : ∀ x ∈ xs, cs (G x) = some (p x, G x)) (he : ∀ x ∈ xs, p x = true → el (G x) = some (f x, G x)) {e : Ev} (h : wipeE e own = W) : ∃ e', compL own bt cs el xs e = some ((xs.filter p).map f, e') ∧ wipeE e' own = W := by
  induction xs generalizing e with
  | nil => exact ⟨e, rfl, h⟩
  | cons x xs ih =>
    have m : x ∈ x :: xs := List.mem_cons_self
    obtain ⟨e', k1, k2⟩ := ih (fun y hy => hb y (List.mem_cons_of_mem _ hy)) (fun y hy => hw y (List.mem_cons_of_mem _ hy)) (fun y hy => hc y (List.mem_cons_of_mem _ hy)) (fun y hy => he y (List.mem_cons_of_mem _ hy)) (hw x m)
    refine ⟨e', ?_, k2⟩
    unfold compL
    rw [h, hb x m]
    simp only [bnd_some, hc x m]
    cases q : p x with
    | true => simp only [he x m q, bnd_some, k1, List.filter_cons, q, if_true, List.map_cons]
    | false => simp only [k1, List.filter_cons, q, Bool.false_eq_true, if_false]
theorem forL_inv {bt : D → Ev → Option Ev} {body : Ev → Option Fl} {I : Nat → Ev → Prop} {xs : List D} (h : ∀ x ∈ xs, ∀ k e, I k e → ∃ e1 e2, bt x e = some e1 ∧ body e1 = some (.nx e2) ∧ I (k + 1) e2) : ∀ {k : Nat} {e : Ev}, I k e → ∃ e', forL bt body xs e = some (.nx e') ∧ I (k + xs.length) e' := by
  induction xs with
  | nil => exact fun hi => ⟨_, rfl, hi⟩
  | cons x xs ih =>
    intro k e hi
    obtain ⟨e1, e2, h1, h2, h3⟩ := h x List.mem_cons_self k e hi
    obtain ⟨e', h4, h5⟩ := ih (fun y hy => h y (List.mem_cons_of_mem _ hy)) h3
    refine ⟨e', ?_, by rw [List.length_cons, Nat.add_comm xs.length 1, ← Nat.add_assoc]; exact h5⟩
    unfold forL
    rw [h1]
    simp only [h2, h4]
theorem idx_mem {xs : List D} {i : Int} (h0 : 0 ≤ i) (h1 : i < xs.length) : ∃ x ∈ xs, idxD (.list xs) (.int i) = some x := by
  have hn : i.toNat < xs.length := by omega
  refine ⟨xs[i.toNat], List.getElem_mem hn, ?_⟩
  have e : L2.ixN xs.length i = some i.toNat := by
    unfold L2.ixN
    simp [h0]
    omega
  show (L2.ixN xs.length i).bind _ = _
  rw [e]
  simp

/-! ### calls -/
theorem call_own {t : Tb} {f n : Nat} {ps N : List Str} {body : List S} {b : D} {args : List D} (hf : t.fn f = ⟨ps, N, true, body⟩) (hl : args.length + 1 = ps.length) {d b' : D} {env : Ev}
    (h : evSs (callF t n) t.cd body (.own b :: args.map Sl.val ++ List.replicate (N.length - (args.length + 1)) .no) = some (.rt d env)) (h0 : env.getD 0 .no = .own b') : callF t (n + 1) f (b :: args) = some (d, some b') := by
  show gd (decide ((b :: args).length = (t.fn f).ps.length)) (runB (t.fn f) (evSs (callF t n) t.cd (t.fn f).body (startE (t.fn f) (b :: args)))) = _
  rw [hf]
  have e : startE ⟨ps, N, true, body⟩ (b :: args) = .own b :: args.map Sl.val ++ List.replicate (N.length - (args.length + 1)) .no := rfl
  rw [e, h]
  rw [decide_eq_true (show (b :: args).length = ps.length from hl)]
  show endE true d env = _
  unfold endE
  rw [h0]
theorem call_val {t : Tb} {f n : Nat} {ps N : List Str} {body : List S} {args : List D} (hf : t.fn f = ⟨ps, N, false, body⟩) (hl : args.length = ps.length) {d : D} {env : Ev}
    (h : evSs (callF t n) t.cd body (args.map Sl.val ++ List.replicate (N.length - args.length) .no) = some (.rt d env)) : callF t (n + 1) f args = some (d, none) := by
  show gd (decide (args.length = (t.fn f).ps.length)) (runB (t.fn f) (evSs (callF t n) t.cd (t.fn f).body (startE (t.fn f) args))) = _
  rw [hf]
  have e : startE ⟨ps, N, false, body⟩ args = args.map Sl.val ++ List.replicate (N.length - args.length) .no := by cases args <;> rfl
  rw [e, h, decide_eq_true hl]
  rfl
/-- a def called with an object of the frame's own that lies in slot 0 -/
theorem e_callB0 {cf : CF} {cd : CD} {f : Nat} {es : List E} {b : D} {r : Ev} {args : List D} (h : evEs cf cd es (.own b :: r) = some (args, .own b :: r)) {d b' : D} (hc : cf f (b :: args) = some (d, some b')) : evE cf cd (.callB f 0 es) (.own b :: r) = some (d, .own b' :: r) := by
  show bnd (evEs cf cd es (.own b :: r)) _ = _
  rw [h]
  show (match cf f (b :: args) with | some (d, some b') => some (d, (Sl.own b :: r).set 0 (.own b')) | _ => none) = _
  rw [hc]
  rfl
theorem e_callB1 {cf : CF} {cd : CD} {f : Nat} {es : List E} {s : Sl} {b : D} {r : Ev} {args : List D} (h : evEs cf cd es (s :: .own b :: r) = some (args, s :: .own b :: r)) {d b' : D} (hc : cf f (b :: args) = some (d, some b')) : evE cf cd (.callB f 1 es) (s :: .own b :: r) = some (d, s :: .own b' :: r) := by
  show bnd (evEs cf cd es (s :: .own b :: r)) _ = _
  rw [h]
  show (match cf f (b :: args) with | some (d, some b') => some (d, (s :: Sl.own b :: r).set 1 (.own b')) | _ => none) = _
  rw [hc]
  rfl
theorem e_call {cf : CF} {cd : CD} {f : Nat} {es : List E} {e e' : Ev} {args : List D} (h : evEs cf cd es e = some (args, e')) {d : D} (hc : cf f args = some (d, none)) : evE cf cd (.call f es) e = some (d, e') := by
  show bnd (evEs cf cd es e) _ = _
  rw [h]
  show (match cf f args with | some (d, none) => some (d, e') | _ => none) = _
  rw [hc]

/-! ### values without dicts, texts short -/
mutual
def nice (m : Nat) : D → Bool
  | .none => true
  | .bool _ => true
  | .int _ => true
  | .str x => PyData.strOk x && decide (x.length ≤ 100)
  | .tuple xs => decide (xs.length ≤ m) && niceL m xs
  | .list xs => decide (xs.length ≤ m) && niceL m xs
  | .dict _ => false
def niceL (m : Nat) : List D → Bool
  | [] => true
  | x :: r => nice m x && niceL m r
end
theorem niceL_all {m : Nat} : ∀ {xs : List D}, niceL m xs = true ↔ ∀ x ∈ xs, nice m x = true
  | [] => by simp [niceL]
  | x :: r => by simp [niceL, niceL_all (xs := r)]
theorem nice_dict {m : Nat} {d : D} (h : nice m d = true) : noDict d = true := by cases d <;> first | rfl | cases h
theorem nice_tup {m : Nat} {xs : List D} (h : nice m (.tuple xs) = true) : xs.length ≤ m ∧ niceL m xs = true := by
  rw [nice, Bool.and_eq_true] at h
  exact ⟨of_decide_eq_true h.1, h.2⟩
theorem nice_lst {m : Nat} {xs : List D} (h : nice m (.list xs) = true) : xs.length ≤ m ∧ niceL m xs = true := by
  rw [nice, Bool.and_eq_true] at h
  exact ⟨of_decide_eq_true h.1, h.2⟩
theorem tup_nice {m : Nat} {xs : List D} (h1 : xs.length ≤ m) (h2 : niceL m xs = true) : nice m (.tuple xs) = true := by
  rw [nice, Bool.and_eq_true]
  exact ⟨decide_eq_true h1, h2⟩
theorem lst_nice {m : Nat} {xs : List D} (h1 : xs.length ≤ m) (h2 : niceL m xs = true) : nice m (.list xs) = true := by
  rw [nice, Bool.and_eq_true]
  exact ⟨decide_eq_true h1, h2⟩
mutual
theorem nice_more {m k : Nat} (h : m ≤ k) : ∀ {d : D}, nice m d = true → nice k d = true
  | .none, _ => by rw [nice]
  | .bool _, _ => by rw [nice]
  | .int _, _ => by rw [nice]
  | .str x, q => by rw [nice] at q ⊢; exact q
  | .tuple xs, q => by
    obtain ⟨q1, q2⟩ := nice_tup q
    exact tup_nice (Nat.le_trans q1 h) (niceL_more h q2)
  | .list xs, q => by
    obtain ⟨q1, q2⟩ := nice_lst q
    exact lst_nice (Nat.le_trans q1 h) (niceL_more h q2)
  | .dict _, q => by rw [nice] at q; cases q
theorem niceL_more {m k : Nat} (h : m ≤ k) : ∀ {xs : List D}, niceL m xs = true → niceL k xs = true
  | [], _ => by rw [niceL]
  | x :: r, q => by
    rw [niceL, Bool.and_eq_true] at q ⊢
    exact ⟨nice_more h q.1, niceL_more h q.2⟩
end
theorem e_comp0 {cf : CF} {cd : CD} {own : List Nat} {e : E} {t : T} {it : It} {env env1 env2 e' : Ev} {xs ys : List D} (hI : evI cf cd it env = some (xs, env1)) (hn : noOwn env1 own = true) (hl : compL own (bindT t) (fun e => some (true, e)) (evE cf cd e) xs env1 = some (ys, e')) (hz : ys.length ≤ SZ) (hb : back env1 e' own = env2) :
    evE cf cd (.comp own e t it []) env = some (.list ys, env2) := by
  show bnd (evI cf cd it env) _ = _
  rw [hI]
  show gd (noOwn env1 own) (bnd (compL own (bindT t) (fun e => some (true, e)) (evE cf cd e) xs env1) _) = _
  rw [hn, hl]
  show gd (decide (ys.length ≤ SZ)) (some (PyData.list ys, back env1 e' own)) = _
  rw [decide_eq_true hz, hb]
  rfl
theorem e_comp1 {cf : CF} {cd : CD} {own : List Nat} {e : E} {t : T} {it : It} {cs : List E} {env env1 env2 e' : Ev} {xs ys : List D} (hI : evI cf cd it env = some (xs, env1)) (hn : noOwn env1 own = true) (hl : compL own (bindT t) (evCs cf cd cs) (evE cf cd e) xs env1 = some (ys, e')) (hz : ys.length ≤ SZ) (hb : back env1 e' own = env2) :
    evE cf cd (.comp own e t it cs) env = some (.list ys, env2) := by
  show bnd (evI cf cd it env) _ = _
  rw [hI]
  show gd (noOwn env1 own) (bnd (compL own (bindT t) (evCs cf cd cs) (evE cf cd e) xs env1) _) = _
  rw [hn, hl]
  show gd (decide (ys.length ≤ SZ)) (some (PyData.list ys, back env1 e' own)) = _
  rw [decide_eq_true hz, hb]
  rfl
theorem i_rng {cf : CF} {cd : CD} {a : E} {env e1 : Ev} {j : Int} (h : evE cf cd a env = some (.int j, e1)) (hs : small j = true) : evI cf cd (.rng a) env = some (rngL 0 j.toNat, e1) := by
  show bnd (evE cf cd a env) _ = _
  rw [h]
  show gd (small j) _ = _
  rw [hs]
  rfl
theorem i_val {cf : CF} {cd : CD} {a : E} {env e1 : Ev} {xs : List D} (h : evE cf cd a env = some (.list xs, e1)) : evI cf cd (.val a) env = some (xs, e1) := by
  show bnd (evE cf cd a env) _ = _
  rw [h]
  rfl
theorem i_valT {cf : CF} {cd : CD} {a : E} {env e1 : Ev} {xs : List D} (h : evE cf cd a env = some (.tuple xs, e1)) : evI cf cd (.val a) env = some (xs, e1) := by
  show bnd (evE cf cd a env) _ = _
  rw [h]
  rfl

theorem okD_int (i : Int) : okD (.int i) = true := rfl
theorem okD_bool (i : Bool) : okD (.bool i) = true := rfl
theorem okD_none : okD .none = true := rfl
theorem okD_str {x : Str} (h : PyData.strOk x = true) : okD (.str x) = true := by
  show (PyData.strOk x && decide (0 ≤ 64)) = true
  rw [h]
  rfl
@[simp] theorem int_eq (i j : Int) : cmpD .eq (.int i) (.int j) = some (.bool (decide (i = j))) := by
  show some (PyData.bool (i == j)) = _
  congr 2
@[simp] theorem int_ne (i j : Int) : cmpD .ne (.int i) (.int j) = some (.bool (!decide (i = j))) := by
  show some (PyData.bool (!(i == j))) = _
  congr 2
theorem cut_mem {α : Type} {xs : List α} {lo hi : Option Int} {x : α} (h : x ∈ cut xs lo hi) : x ∈ xs := List.mem_of_mem_drop (List.mem_of_mem_take h)
theorem cut_nice {m : Nat} {xs : List D} {lo hi : Option Int} (h : niceL m xs = true) : niceL m (cut xs lo hi) = true := niceL_all.mpr fun x hx => niceL_all.mp h x (cut_mem hx)
theorem cut_len {α : Type} (xs : List α) (lo hi : Option Int) : (cut xs lo hi).length ≤ xs.length := by
  unfold cut
  rw [List.length_take, List.length_drop]
  omega
theorem cut_take' {α : Type} (xs : List α) {m : Int} (h : 0 ≤ m) : cut xs none (some m) = xs.take m.toNat := by
  unfold cut
  rw [HT.sIx_none]
  have e : HT.sIx xs.length xs.length (some m) = min m.toNat xs.length := by
    obtain ⟨k, rfl⟩ := Int.eq_ofNat_of_zero_le h
    exact HT.sIx_nat xs.length xs.length k
  rw [e]
  simp [List.take_eq_take_iff]
theorem niceL_append {m : Nat} {xs ys : List D} (h1 : niceL m xs = true) (h2 : niceL m ys = true) : niceL m (xs ++ ys) = true := niceL_all.mpr fun x hx => (List.mem_append.mp hx).elim (niceL_all.mp h1 x) (niceL_all.mp h2 x)
theorem tup_add {xs ys : List D} (h : xs.length + ys.length ≤ SZ) : binD .add (.tuple xs) (.tuple ys) = some (.tuple (xs ++ ys)) := by
  show gd (decide (xs.length + ys.length ≤ SZ)) _ = _
  rw [decide_eq_true h]
  rfl
theorem list_add {xs ys : List D} (h : xs.length + ys.length ≤ SZ) : binD .add (.list xs) (.list ys) = some (.list (xs ++ ys)) := by
  show gd (decide (xs.length + ys.length ≤ SZ)) _ = _
  rw [decide_eq_true h]
  rfl
theorem tup_mul {xs : List D} {k : Int} (h0 : 0 ≤ k) (h1 : k < 1000) (h : xs.length ≤ 1000) : binD .mul (.tuple xs) (.int k) = some (.tuple (List.replicate k.toNat xs).flatten) := by
  show gd (decide (0 ≤ k) && decide (k < 1000) && decide (xs.length ≤ 1000)) _ = _
  rw [decide_eq_true h0, decide_eq_true h1, decide_eq_true h]
  rfl
@[simp] theorem slc_tup (xs : List D) (lo hi : Option Int) : slcD (.tuple xs) lo hi = some (.tuple (cut xs lo hi)) := rfl
@[simp] theorem o_some (cf : CF) (cd : CD) (e : E) (env : Ev) : evO cf cd (some e) env = bnd (evE cf cd e env) fun x env => lft env ((asI x).map some) := by
  rw [evO]
  congr 1 <;> (funext x e; cases x <;> try rfl)
@[simp] theorem asI_i (i : Int) : asI (.int i) = some i := rfl
@[simp] theorem len_tup (xs : List D) : f1D .len (.tuple xs) = some (.int xs.length) := rfl
@[simp] theorem len_lst (xs : List D) : f1D .len (.list xs) = some (.int xs.length) := rfl
@[simp] theorem tup_of_lst (xs : List D) : f1D .tuple (.list xs) = some (.tuple xs) := rfl
@[simp] theorem lst_of_tup (xs : List D) : f1D .list (.tuple xs) = some (.list xs) := rfl

def nxO (x : Option Ev) : Option Fl := x.map Fl.nx
@[simp] theorem nxO_some (e : Ev) : nxO (some e) = some (.nx e) := rfl
@[simp] theorem s_unp (cf : CF) (cd : CD) (t : T) (e : E) (env : Ev) : evS cf cd (.unp t e) env = bnd (evE cf cd e env) fun d env => nxO (bindT t d env) := by
  rw [evS]
  congr 1
  funext d e
  cases bindT t d e <;> rfl
@[simp] theorem int_of_bool (b : Bool) : f1D .int (.bool b) = some (.int (if b then 1 else 0)) := rfl
/-- an object of the frame's own grows -/
theorem s_app {cf : CF} {cd : CD} {i : Nat} {e : E} {env e1 : Ev} {xs ys : List D} {d : D} (h0 : env.getD i .no = .own (.list xs)) (h : evE cf cd e env = some (d, e1)) (h1 : e1.getD i .no = .own (.list ys)) (hz : ys.length < SZ) : evS cf cd (.app i e) env = some (.nx (e1.set i (.own (.list (ys ++ [d]))))) := by
  have p0 : pk env i = some (.list xs) := by unfold pk; rw [h0]
  have p1 : pk e1 i = some (.list ys) := by unfold pk; rw [h1]
  rw [evS, p0]
  show bnd (evE cf cd e env) _ = _
  rw [h]
  show (match pk e1 i with | some (.list xs) => _ | _ => _) = _
  rw [p1]
  show gd (decide (ys.length < SZ)) _ = _
  rw [decide_eq_true hz]
  rfl

def bnm (s : Sl) (i : Nat) (d : D) (env : Ev) : Option Ev := match s with
  | .own _ => none
  | _ => some (env.set i (.val d))
@[simp] theorem bnm_val (x : D) (i : Nat) (d : D) (env : Ev) : bnm (.val x) i d env = some (env.set i (.val d)) := rfl
@[simp] theorem bnm_no (i : Nat) (d : D) (env : Ev) : bnm .no i d env = some (env.set i (.val d)) := rfl
@[simp] theorem bindT_nm (i : Nat) (d : D) (env : Ev) : bindT (.nm i) d env = bnm (env.getD i (.own .none)) i d env := by
  rw [bindT]
  cases env.getD i (.own .none) <;> rfl
@[simp] theorem bindT_tp (ts : List T) (ds : List D) (env : Ev) : bindT (.tp ts) (.tuple ds) env = bindTs ts ds env := by rw [bindT]
@[simp] theorem bindTs_nil (env : Ev) : bindTs [] [] env = some env := by rw [bindTs]
@[simp] theorem bindTs_cons (t : T) (ts : List T) (d : D) (ds : List D) (env : Ev) : bindTs (t :: ts) (d :: ds) env = (bindT t d env).bind fun e => bindTs ts ds e := by
  rw [bindTs]
  cases bindT t d env <;> rfl
/-- two statements known -/
theorem two_s {cf : CF} {cd : CD} {e e2 : Ev} {s1 s2 : S} (h : evSs cf cd [s1, s2] e = some (.nx e2)) (r : List S) : evSs cf cd (s1 :: s2 :: r) e = evSs cf cd r e2 := by
  rw [ss_cons'] at h ⊢
  cases q : evS cf cd s1 e with
  | none => rw [q] at h; cases h
  | some f =>
    rw [q] at h
    cases f with
    | rt d e => cases h
    | nx e =>
      rw [sq_nx, ss_cons'] at h ⊢
      cases q2 : evS cf cd s2 e with
      | none => rw [q2] at h; cases h
      | some f =>
        rw [q2] at h
        cases f with
        | rt d e => cases h
        | nx e => cases h; rfl

@[simp] theorem s_par (cf : CF) (cd : CD) (is : List Nat) (os : List O) (env : Ev) : evS cf cd (.par is os) env = bnd (evOL cf cd os env) fun ss env => some (.nx (setAll is ss env)) := rfl
@[simp] theorem ol_nil (cf : CF) (cd : CD) (env : Ev) : evOL cf cd [] env = some ([], env) := rfl
@[simp] theorem ol_cons (cf : CF) (cd : CD) (o : O) (os : List O) (env : Ev) : evOL cf cd (o :: os) env = bnd (evOs cf cd o env) fun s env => bnd (evOL cf cd os env) fun ss env => some (s :: ss, env) := rfl
@[simp] theorem setAll_cons (i : Nat) (is : List Nat) (s : Sl) (ss : List Sl) (env : Ev) : setAll (i :: is) (s :: ss) env = setAll is ss (env.set i s) := rfl
@[simp] theorem setAll_nil (env : Ev) : setAll [] [] env = env := rfl

theorem cut_drop_len {α : Type} (xs : List α) {m : Int} (h : 0 ≤ m) : (cut xs (some m) none).length = xs.length - m.toNat := by
  unfold cut
  rw [HT.sIx_none]
  have e : HT.sIx xs.length 0 (some m) = min m.toNat xs.length := by
    obtain ⟨k, rfl⟩ := Int.eq_ofNat_of_zero_le h
    exact HT.sIx_nat xs.length 0 k
  rw [e, List.length_take, List.length_drop]
  omega
theorem cut_one_len {α : Type} (xs : List α) {m : Int} (h : 0 ≤ m) : (cut xs (some m) (some (m + 1))).length ≤ 1 := by
  unfold cut
  obtain ⟨k, rfl⟩ := Int.eq_ofNat_of_zero_le h
  have e : HT.sIx xs.length 0 (some ((k : Nat) : Int)) = min k xs.length := HT.sIx_nat xs.length 0 k
  have e2 : HT.sIx xs.length xs.length (some (((k : Nat) : Int) + 1)) = min (k + 1) xs.length := HT.sIx_nat xs.length xs.length (k + 1)
  rw [e, e2, List.length_take, List.length_drop]
  omega

@[simp] theorem forL_nil' (bt : D → Ev → Option Ev) (body : Ev → Option Fl) (env : Ev) : forL bt body [] env = some (.nx env) := rfl
theorem forL_step {bt : D → Ev → Option Ev} {body : Ev → Option Fl} {x : D} {xs : List D} {env e1 : Ev} (h : bt x env = some e1) : forL bt body (x :: xs) env = sq (body e1) (forL bt body xs) := by
  rw [forL, h]
  show (match body e1 with | none => none | some (Fl.rt d e) => some (Fl.rt d e) | some (Fl.nx e) => forL bt body xs e) = _
  cases body e1 with
  | none => rfl
  | some f => cases f <;> rfl
@[simp] theorem s_for (cf : CF) (cd : CD) (t : T) (it : It) (b : List S) (env : Ev) : evS cf cd (.for_ t it b) env = bnd (evI cf cd it env) fun xs env => forL (bindT t) (evSs cf cd b) xs env := rfl
theorem i_enum {cf : CF} {cd : CD} {a : E} {env e1 : Ev} {xs : List D} (h : evE cf cd a env = some (.list xs, e1)) : evI cf cd (.enum a) env = some (enumL 0 xs, e1) := by
  show bnd (evE cf cd a env) _ = _
  rw [h]
  rfl

theorem bools_map (p : D → Bool) : ∀ xs : List D, bools (xs.map fun x => PyData.bool (p x)) = some (xs.map p)
  | [] => rfl
  | x :: r => by
    rw [List.map_cons, List.map_cons, bools, bools_map p r]
theorem all_map (p : D → Bool) (xs : List D) : f1D .all (.list (xs.map fun x => PyData.bool (p x))) = some (.bool (xs.all p)) := by
  show (bools _).map _ = _
  rw [bools_map]
  show some (PyData.bool ((xs.map p).all id)) = _
  rw [List.all_map]
  rfl
theorem any_map (p : D → Bool) (xs : List D) : f1D .any (.list (xs.map fun x => PyData.bool (p x))) = some (.bool (xs.any p)) := by
  show (bools _).map _ = _
  rw [bools_map]
  show some (PyData.bool ((xs.map p).any id)) = _
  rw [List.any_map]
  rfl
/-- [f(x) for x in xs], values only; the frame [v.., no] -/
theorem comp_map {cf : CF} {cd : CD} {own : List Nat} {e : E} {t : T} {it : It} {env env1 : Ev} {xs : List D} {G : D → Ev} {f : D → D} (hI : evI cf cd it env = some (xs, env1)) (hn : noOwn env1 own = true) (hW : wipeE env1 own = env1) (hB : back env1 env1 own = env1)
    (hb : ∀ x ∈ xs, bindT t x env1 = some (G x)) (hw : ∀ x ∈ xs, wipeE (G x) own = env1) (he : ∀ x ∈ xs, evE cf cd e (G x) = some (f x, G x)) (hz : xs.length ≤ SZ) : evE cf cd (.comp own e t it []) env = some (.list (xs.map f), env1) := by
  obtain ⟨e', h1, h2⟩ := compL_pure (own := own) (bt := bindT t) (cs := fun e => some (true, e)) (el := evE cf cd e) (W := env1) (G := G) (p := fun _ => true) (f := f) (xs := xs) hb hw (fun _ _ => rfl) (fun x hx _ => he x hx) hW
  rw [List.filter_eq_self.mpr fun _ _ => rfl] at h1
  exact e_comp0 hI hn h1 (by rw [List.length_map]; exact hz) (by rw [← back_wipe, h2, hB])

theorem cutS_lo (s : Str) (k : Nat) : L2.cutS s none (some (k : Int)) = ⟨(s.cps.toList.take k).toArray⟩ := by
  unfold L2.cutS
  have e : HT.sIx s.length s.length (some ((k : Nat) : Int)) = min k s.length := HT.sIx_nat s.length s.length k
  have hl : s.length = s.cps.toList.length := by simp [Str.length]
  rw [HT.sIx_none, e, List.drop_zero, Nat.sub_zero, hl]
  congr 2
  rw [List.take_eq_take_iff]
  omega
theorem cutS_hi (s : Str) (k : Nat) : L2.cutS s (some (k : Int)) none = ⟨(s.cps.toList.drop k).toArray⟩ := by
  unfold L2.cutS
  have e : HT.sIx s.length 0 (some ((k : Nat) : Int)) = min k s.length := HT.sIx_nat s.length 0 k
  have hl : s.length = s.cps.toList.length := by simp [Str.length]
  rw [HT.sIx_none, e, hl]
  congr 1
  by_cases h : k ≤ s.cps.toList.length
  · rw [Nat.min_eq_left h, List.take_of_length_le (by rw [List.length_drop]; exact Nat.le_refl _)]
  · rw [Nat.min_eq_right (by omega), List.drop_of_length_le (Nat.le_refl _), List.drop_of_length_le (by omega)]
    simp

/-- [1 for x in xs if bad(x)] -/
theorem comp_ones {cf : CF} {cd : CD} {own : List Nat} {c : E} {t : T} {it : It} {env env1 : Ev} {xs : List D} {G : D → Ev} {p : D → Bool} (hI : evI cf cd it env = some (xs, env1)) (hn : noOwn env1 own = true) (hW : wipeE env1 own = env1) (hB : back env1 env1 own = env1)
    (hb : ∀ x ∈ xs, bindT t x env1 = some (G x)) (hw : ∀ x ∈ xs, wipeE (G x) own = env1) (hc : ∀ x ∈ xs, evE cf cd c (G x) = some (.bool (p x), G x)) (hz : xs.length ≤ SZ) : evE cf cd (.comp own (.c (.int 1)) t it [c]) env = some (.list ((xs.filter p).map fun _ => .int 1), env1) := by
  obtain ⟨e', h1, h2⟩ := compL_pure (own := own) (bt := bindT t) (cs := evCs cf cd [c]) (el := evE cf cd (.c (.int 1))) (W := env1) (G := G) (p := p) (f := fun _ => .int 1) (xs := xs) hb hw (fun x hx => by
    show bnd (evE cf cd c (G x)) _ = _
    rw [hc x hx]
    rfl) (fun x hx _ => rfl) hW
  exact e_comp1 hI hn h1 (by rw [List.length_map]; exact Nat.le_trans (List.length_filter_le _ _) hz) (by rw [← back_wipe, h2, hB])
theorem ones_ok : ∀ xs : List D, PyData.canLayAll0 (xs.map fun _ => PyData.int 1) = true ∧ PyData.depthAll (xs.map fun _ => PyData.int 1) = 0
  | [] => ⟨rfl, rfl⟩
  | _ :: r => by
    obtain ⟨h1, h2⟩ := ones_ok r
    rw [List.map_cons]
    exact ⟨by rw [PyData.canLayAll0, h1]; rfl, by rw [PyData.depthAll, h2]; rfl⟩
theorem ones_okD (xs : List D) : okD (.list (xs.map fun _ => .int 1)) = true := by
  obtain ⟨h1, h2⟩ := ones_ok xs
  show (PyData.canLay0 (.list _) && decide (PyData.depth (.list _) ≤ 64)) = true
  rw [PyData.canLay0, PyData.depth, h1, h2]
  rfl
theorem ones_ne (xs : List D) : cmpD .ne (.list (xs.map fun _ => .int 1)) (.list []) = some (.bool (!xs.isEmpty)) := by
  show gd (okD _ && okD _) _ = _
  rw [ones_okD]
  cases xs <;> rfl
theorem ones_eq (xs : List D) : cmpD .eq (.list (xs.map fun _ => .int 1)) (.list []) = some (.bool xs.isEmpty) := by
  show gd (okD _ && okD _) _ = _
  rw [ones_okD]
  cases xs <;> rfl

/-! ### a call is its body -/
def runV (r : Option Fl) : Option (D × Option D) := match r with
  | some (.nx _) => some (.none, none)
  | some (.rt d _) => some (d, none)
  | none => none
@[simp] theorem runV_nx (e : Ev) : runV (some (.nx e)) = some (.none, none) := rfl
@[simp] theorem runV_rt (d : D) (e : Ev) : runV (some (.rt d e)) = some (d, none) := rfl
def ownAt (d : D) (s : Sl) : Option (D × Option D) := match s with
  | .own b => some (d, some b)
  | _ => none
@[simp] theorem ownAt_own (d b : D) : ownAt d (.own b) = some (d, some b) := rfl
def runO (r : Option Fl) : Option (D × Option D) := match r with
  | some (.nx e) => ownAt .none (e.getD 0 .no)
  | some (.rt d e) => ownAt d (e.getD 0 .no)
  | none => none
@[simp] theorem runO_nx (e : Ev) : runO (some (.nx e)) = ownAt .none (e.getD 0 .no) := rfl
@[simp] theorem runO_rt (d : D) (e : Ev) : runO (some (.rt d e)) = ownAt d (e.getD 0 .no) := rfl
theorem call_eqV {t : Tb} {f n : Nat} {ps N : List Str} {body : List S} {args : List D} (hf : t.fn f = ⟨ps, N, false, body⟩) (hl : args.length = ps.length) : callF t (n + 1) f args = runV (evSs (callF t n) t.cd body (args.map Sl.val ++ List.replicate (N.length - args.length) .no)) := by
  show gd (decide (args.length = (t.fn f).ps.length)) (runB (t.fn f) (evSs (callF t n) t.cd (t.fn f).body (startE (t.fn f) args))) = _
  rw [hf]
  have e : startE ⟨ps, N, false, body⟩ args = args.map Sl.val ++ List.replicate (N.length - args.length) .no := by cases args <;> rfl
  rw [e, decide_eq_true hl]
  show runB ⟨ps, N, false, body⟩ (evSs (callF t n) t.cd body _) = _
  cases evSs (callF t n) t.cd body (args.map Sl.val ++ List.replicate (N.length - args.length) .no) with
  | none => rfl
  | some f => cases f <;> rfl
theorem call_eqO {t : Tb} {f n : Nat} {ps N : List Str} {body : List S} {b : D} {args : List D} (hf : t.fn f = ⟨ps, N, true, body⟩) (hl : args.length + 1 = ps.length) : callF t (n + 1) f (b :: args) = runO (evSs (callF t n) t.cd body (.own b :: args.map Sl.val ++ List.replicate (N.length - (args.length + 1)) .no)) := by
  show gd (decide ((b :: args).length = (t.fn f).ps.length)) (runB (t.fn f) (evSs (callF t n) t.cd (t.fn f).body (startE (t.fn f) (b :: args)))) = _
  rw [hf]
  have e : startE ⟨ps, N, true, body⟩ (b :: args) = .own b :: args.map Sl.val ++ List.replicate (N.length - (args.length + 1)) .no := rfl
  rw [e, decide_eq_true (show (b :: args).length = ps.length from hl)]
  show runB ⟨ps, N, true, body⟩ (evSs (callF t n) t.cd body _) = _
  have fin : ∀ (d : D) (env : Ev), endE true d env = ownAt d (env.getD 0 .no) := fun d env => by
    unfold endE
    cases env.getD 0 .no <;> rfl
  cases evSs (callF t n) t.cd body (.own b :: args.map Sl.val ++ List.replicate (N.length - (args.length + 1)) .no) with
  | none => rfl
  | some f =>
    cases f with
    | nx e => exact fin _ _
    | rt d e => exact fin _ _
/-- what a call tells, in an expression -/
def retN (r : Option (D × Option D)) (env : Ev) : Option (D × Ev) := match r with
  | some (d, none) => some (d, env)
  | _ => none
@[simp] theorem retN_some (d : D) (env : Ev) : retN (some (d, none)) env = some (d, env) := rfl
theorem e_callS (cf : CF) (cd : CD) (f : Nat) (es : List E) (env : Ev) : evE cf cd (.call f es) env = bnd (evEs cf cd es env) fun ds env => retN (cf f ds) env := by
  rw [evE]
  try rfl
end Mi
end
section
set_option Elab.async false
set_option linter.all false
set_option maxRecDepth 100000
set_option maxHeartbeats 4000000
namespace Mi
open PySem
/-! Tb: the table of all defs (written by gen2.py). -/
abbrev i_is_within : Nat := 0
abbrev i_power : Nat := 1
abbrev i_is_screen : Nat := 2
abbrev i_is_one_of : Nat := 3
abbrev i_is_test : Nat := 4
abbrev i_is_clause : Nat := 5
abbrev i_is_rule : Nat := 6
abbrev i_L_well : Nat := 7
abbrev i_L_take : Nat := 8
abbrev i_L_same : Nat := 9
abbrev i_L_tests : Nat := 10
abbrev i_L_deeds : Nat := 11
abbrev i_L_test : Nat := 12
abbrev i_L_clause : Nat := 13
abbrev i_L_known : Nat := 14
abbrev i_L_rule : Nat := 15
abbrev i_L_screen : Nat := 16
abbrev i_L_whole : Nat := 17
abbrev i_L_is_screen : Nat := 18
abbrev i_L_is_clause : Nat := 19
abbrev i_L_is_rule : Nat := 20
abbrev i_L_odd_k01 : Nat := 21
abbrev i_look_at_screen : Nat := 22
abbrev i_limit_of : Nat := 23
abbrev i_are_rows : Nat := 24
abbrev i_fits : Nat := 25
abbrev i_is_stand : Nat := 26
abbrev i_look_at_stand : Nat := 27
abbrev i_changes_at : Nat := 28
abbrev i_all_events : Nat := 29
abbrev i_is_like : Nat := 30
abbrev i_rows_behind : Nat := 31
abbrev i_goes : Nat := 32
abbrev i_fits_history : Nat := 33
abbrev i_is_history : Nat := 34
abbrev i_events_at : Nat := 35
abbrev i_L_limit : Nat := 36
abbrev i_L_changes : Nat := 37
abbrev i_L_events : Nat := 38
abbrev i_L_moved : Nat := 39
abbrev i_L_history : Nat := 40
abbrev i_L_stand : Nat := 41
abbrev i_L_is_stand : Nat := 42
abbrev i_L_is_history : Nat := 43
abbrev i_L_odd_k02 : Nat := 44
abbrev i_look_at_change : Nat := 45
abbrev i_begin_of : Nat := 46
abbrev i_seen_at : Nat := 47
abbrev i_place_at : Nat := 48
abbrev i_seen : Nat := 49
abbrev i_place_of : Nat := 50
abbrev i_look_at_rule : Nat := 51
abbrev i_facts_of : Nat := 52
abbrev i_holds : Nat := 53
abbrev i_deciding : Nat := 54
abbrev i_deed_by : Nat := 55
abbrev i_deed_of : Nat := 56
abbrev i_L_seen : Nat := 57
abbrev i_L_place : Nat := 58
abbrev i_L_holds : Nat := 59
abbrev i_L_deed : Nat := 60
abbrev i_look_at_event : Nat := 61
abbrev i_look_at_history : Nat := 62
abbrev i_new_index : Nat := 63
abbrev i_kept_top : Nat := 64
abbrev i_wished_top : Nat := 65
abbrev i_changed : Nat := 66
abbrev i_behind : Nat := 67
abbrev i_jump_between : Nat := 68
abbrev i_played : Nat := 69
abbrev i_after : Nat := 70
abbrev i_stand_behind : Nat := 71
abbrev i_jump_of : Nat := 72
abbrev i_L_anchored : Nat := 73
abbrev i_L_after : Nat := 74
abbrev i_L_jump : Nat := 75
abbrev i_ways_by : Nat := 76
abbrev i_look_at : Nat := 77
abbrev i_reachable : Nat := 78
abbrev i_way_to : Nat := 79
abbrev i_tops_of : Nat := 80
abbrev i_L_ways : Nat := 81
abbrev i_tops_by_hand : Nat := 82
abbrev i_by_hand : Nat := 83
abbrev i_hidden : Nat := 84
abbrev i_all_jumps : Nat := 85
abbrev i_look_at_all : Nat := 86
abbrev i_greatest_jump : Nat := 87
abbrev i_worst_history : Nat := 88
abbrev i_L_rows : Nat := 89
abbrev i_look_at_wish : Nat := 90
abbrev i_breaks_held : Nat := 91
abbrev i_breaks : Nat := 92
abbrev i_breaking_by : Nat := 93
abbrev i_keeps : Nat := 94
abbrev i_breaking : Nat := 95
abbrev i_L_wishes : Nat := 96
abbrev i_L_breaks : Nat := 97
abbrev i_L_broken : Nat := 98
abbrev i_L_first_k10 : Nat := 99
abbrev i_parts_of : Nat := 100
abbrev i_fewest_clauses : Nat := 101
abbrev i_L_parts : Nat := 102
abbrev i_parting_by : Nat := 103
abbrev i_parting : Nat := 104
abbrev i_L_other : Nat := 105
abbrev i_L_apart : Nat := 106
abbrev i_L_end : Nat := 107
abbrev i_needless : Nat := 108
abbrev i_unused : Nat := 109
abbrev i_L_first_k15 : Nat := 110
abbrev i_contrary : Nat := 111
abbrev i_lost_place : Nat := 112
abbrev i_L_back : Nat := 113
abbrev i_L_both : Nat := 114
abbrev i_L_lost : Nat := 115
abbrev i_sights_by : Nat := 116
abbrev i_sights_of : Nat := 117
abbrev i_is_pair : Nat := 118
abbrev i_is_sight : Nat := 119
abbrev i_fitting : Nat := 120
abbrev i_L_sights : Nat := 121
def n_is_within : List Str := ["value", "low", "high"]
def mu_is_within : List Str := []
def b_is_within : List S := [.ret (.and (.isi (.v 0) [.int]) (.and (.nt (.isi (.v 0) [.bool])) (.ch .le .le (.v 1) (.v 0) (.v 2))))]
def fd_is_within : Fd := ⟨["value", "low", "high"], n_is_within, false, b_is_within⟩
def n_power : List Str := ["base", "times", "found", "turn"]
def mu_power : List Str := []
def b_power : List S := [.asg 2 (.e (.c (.int 1))), .for_ (.nm 3) (.rng (.v 1)) [.asg 2 (.e (.bin .mul (.v 2) (.v 0)))], .ret (.v 2)]
def fd_power : Fd := ⟨["base", "times"], n_power, false, b_power⟩
def n_is_screen : List Str := ["value"]
def mu_is_screen : List Str := []
def b_is_screen : List S := [.iff (.or (.nt (.isi (.v 0) [.tup])) (.or (.cmp .ne (.f1 .len (.v 0)) (.c (.int 4))) (.nt (.call i_is_within [(.idx (.v 0) (.c (.int 0))), (.c (.int 1)), (.c (.int 4))])))) [.ret (.c (.bool false))] [], .iff (.or (.nt (.call i_is_within [(.idx (.v 0) (.c (.int 1))), (.c (.int 1)), (.c (.int 4))])) (.or (.nt (.call i_is_within [(.idx (.v 0) (.c (.int 2))), (.c (.int 1)), (.c (.int 3))])) (.nt (.call i_is_within [(.idx (.v 0) (.c (.int 3))), (.c (.int 1)), (.c (.int 4))])))) [.ret (.c (.bool false))] [], .ret (.cmp .le (.call i_power [(.idx (.v 0) (.c (.int 2))), (.idx (.v 0) (.c (.int 3)))]) (.c (.int 16)))]
def fd_is_screen : Fd := ⟨["value"], n_is_screen, false, b_is_screen⟩
def n_is_one_of : List Str := ["value", "some"]
def mu_is_one_of : List Str := []
def b_is_one_of : List S := [.ret (.and (.isi (.v 0) [.str]) (.cmp .inn (.v 0) (.v 1)))]
def fd_is_one_of : Fd := ⟨["value", "some"], n_is_one_of, false, b_is_one_of⟩
def n_is_test : List Str := ["value"]
def mu_is_test : List Str := []
def b_is_test : List S := [.iff (.nt (.isi (.v 0) [.str])) [.ret (.c (.bool false))] [], .ret (.or (.cmp .inn (.v 0) (.g 0)) (.and (.cmp .eq (.slc (.v 0) none (some (.c (.int 3)))) (.c (.str "no "))) (.cmp .inn (.slc (.v 0) (some (.c (.int 3))) none) (.g 0))))]
def fd_is_test : Fd := ⟨["value"], n_is_test, false, b_is_test⟩
def n_is_clause : List Str := ["value", "test"]
def mu_is_clause : List Str := []
def b_is_clause : List S := [.iff (.or (.nt (.isi (.v 0) [.tup])) (.or (.cmp .ne (.f1 .len (.v 0)) (.c (.int 2))) (.nt (.isi (.idx (.v 0) (.c (.int 0))) [.tup])))) [.ret (.c (.bool false))] [], .ret (.and (.cmp .le (.f1 .len (.idx (.v 0) (.c (.int 0)))) (.c (.int 3))) (.and (.f1 .all (.comp [1] (.call i_is_test [(.v 1)]) (.nm 1) (.val (.idx (.v 0) (.c (.int 0)))) [])) (.call i_is_one_of [(.idx (.v 0) (.c (.int 1))), (.g 1)])))]
def fd_is_clause : Fd := ⟨["value"], n_is_clause, false, b_is_clause⟩
def n_is_rule : List Str := ["value", "clause"]
def mu_is_rule : List Str := []
def b_is_rule : List S := [.ret (.and (.isi (.v 0) [.tup]) (.and (.cmp .le (.f1 .len (.v 0)) (.g 4)) (.f1 .all (.comp [1] (.call i_is_clause [(.v 1)]) (.nm 1) (.val (.v 0)) []))))]
def fd_is_rule : Fd := ⟨["value"], n_is_rule, false, b_is_rule⟩
def n_L_well : List Str := ["cell", "turn"]
def mu_L_well : List Str := []
def b_L_well : List S := [.iff (.cmp .ge (.v 0) (.bin .pow (.c (.int 10)) (.c (.int 18)))) [.ret (.lst [(.bin .sub (.v 0) (.bin .pow (.c (.int 10)) (.c (.int 18)))), (.bin .mod (.v 0) (.c (.int 2305843009213693951))), (.v 1)])] [], .ret (.lst [(.c (.int 0)), (.bin .mod (.v 0) (.c (.int 2305843009213693951))), (.v 1)])]
def fd_L_well : Fd := ⟨["cell", "turn"], n_L_well, false, b_L_well⟩
def n_L_take : List Str := ["bag", "many", "found", "p", "n"]
def mu_L_take : List Str := ["bag"]
def b_L_take : List S := [.iff (.cmp .gt (.idxO 0 (.c (.int 0))) (.c (.int 0))) [.asg 2 (.e (.bin .mod (.idxO 0 (.c (.int 0))) (.v 1))), .seti 0 (.c (.int 0)) (.bin .fdiv (.idxO 0 (.c (.int 0))) (.v 1)), .ret (.v 2)] [], .seti 0 (.c (.int 2)) (.bin .add (.idxO 0 (.c (.int 2))) (.c (.int 1))), .asg 3 (.e (.c (.int 2305843009213693951))), .asg 4 (.e (.bin .mod (.bin .add (.idxO 0 (.c (.int 1))) (.bin .mul (.c (.int 1000003)) (.idxO 0 (.c (.int 2))))) (.v 3))), .asg 4 (.e (.bin .mod (.bin .add (.bin .add (.bin .mul (.v 4) (.v 4)) (.bin .mul (.c (.int 7919)) (.bin .pow (.idxO 0 (.c (.int 2))) (.c (.int 2))))) (.c (.int 5))) (.v 3))), .ret (.bin .mod (.bin .fdiv (.bin .mod (.bin .pow (.v 4) (.c (.int 3))) (.v 3)) (.c (.int 13))) (.v 1))]
def fd_L_take : Fd := ⟨["bag", "many"], n_L_take, true, b_L_take⟩
def n_L_same : List Str := ["a", "b", "x", "y"]
def mu_L_same : List Str := []
def b_L_same : List S := [.iff (.or (.and (.isi (.v 0) [.lst]) (.isi (.v 1) [.lst])) (.and (.isi (.v 0) [.tup]) (.isi (.v 1) [.tup]))) [.ret (.and (.cmp .eq (.f1 .len (.v 0)) (.f1 .len (.v 1))) (.f1 .all (.comp [2, 3] (.call i_L_same [(.v 2), (.v 3)]) (.tp [(.nm 2), (.nm 3)]) (.zip (.v 0) (.v 1)) [])))] [], .iff (.or (.isi (.v 0) [.bool, .lst, .tup]) (.isi (.v 1) [.bool, .lst, .tup])) [.ret (.and (.isi (.v 0) [.bool]) (.and (.isi (.v 1) [.bool]) (.cmp .eq (.v 0) (.v 1))))] [], .iff (.or (.isi (.v 0) [.int]) (.isi (.v 1) [.int])) [.ret (.and (.isi (.v 0) [.int]) (.and (.isi (.v 1) [.int]) (.cmp .eq (.v 0) (.v 1))))] [], .iff (.or (.isi (.v 0) [.str]) (.isi (.v 1) [.str])) [.ret (.and (.isi (.v 0) [.str]) (.and (.isi (.v 1) [.str]) (.cmp .eq (.v 0) (.v 1))))] [], .ret (.and (.cmp .is (.v 0) (.c .none)) (.cmp .is (.v 1) (.c .none)))]
def fd_L_same : Fd := ⟨["a", "b"], n_L_same, false, b_L_same⟩
def n_L_tests : List Str := []
def mu_L_tests : List Str := []
def b_L_tests : List S := [.ret (.lst [(.c (.str "above")), (.c (.str "begin")), (.c (.str "below")), (.c (.str "cut")), (.c (.str "end")), (.c (.str "held")), (.c (.str "put")), (.c (.str "short")), (.c (.str "size")), (.c (.str "take")), (.c (.str "within"))])]
def fd_L_tests : Fd := ⟨[], n_L_tests, false, b_L_tests⟩
def n_L_deeds : List Str := []
def mu_L_deeds : List Str := []
def b_L_deeds : List S := [.ret (.lst [(.c (.str "begin")), (.c (.str "end")), (.c (.str "first")), (.c (.str "held")), (.c (.str "last")), (.c (.str "stay"))])]
def fd_L_deeds : Fd := ⟨[], n_L_deeds, false, b_L_deeds⟩
def n_L_test : List Str := ["bag", "some"]
def mu_L_test : List Str := ["bag"]
def b_L_test : List S := [.asg 1 (.e (.call i_L_tests [])), .ret (.bin .add (.idx (.lst [(.c (.str "")), (.c (.str "")), (.c (.str "no "))]) (.callB i_L_take 0 [(.c (.int 3))])) (.idx (.v 1) (.callB i_L_take 0 [(.c (.int 11))])))]
def fd_L_test : Fd := ⟨["bag"], n_L_test, true, b_L_test⟩
def n_L_clause : List Str := ["bag", "tests", "some", "k"]
def mu_L_clause : List Str := ["bag"]
def b_L_clause : List S := [.asg 1 (.e (.f1 .tuple (.comp [3] (.callB i_L_test 0 []) (.nm 3) (.rng (.idx (.lst [(.c (.int 0)), (.c (.int 1)), (.c (.int 1)), (.c (.int 2)), (.c (.int 2)), (.c (.int 3))]) (.callB i_L_take 0 [(.c (.int 6))]))) []))), .asg 2 (.e (.bin .add (.call i_L_deeds []) (.lst [(.c (.str "first")), (.c (.str "last")), (.c (.str "held")), (.c (.str "end"))]))), .ret (.tup [(.v 1), (.idx (.v 2) (.callB i_L_take 0 [(.c (.int 10))]))])]
def fd_L_clause : Fd := ⟨["bag"], n_L_clause, true, b_L_clause⟩
def n_L_known : List Str := ["bag", "some"]
def mu_L_known : List Str := ["bag", "some"]
def b_L_known : List S := [.asg 1 (.lst [(.tup [(.tup [(.tup [(.c (.str "above"))]), (.c (.str "first"))])]), (.tup [(.tup [(.tup []), (.c (.str "first"))])]), (.tup [(.tup [(.tup []), (.c (.str "last"))])]), (.tup [])]), .app 1 (.tup [(.tup [(.tup [(.c (.str "end")), (.c (.str "no short"))]), (.c (.str "end"))]), (.tup [(.tup [(.c (.str "held"))]), (.c (.str "held"))]), (.tup [(.tup []), (.c (.str "first"))])]), .app 1 (.tup [(.tup [(.tup [(.c (.str "begin"))]), (.c (.str "begin"))]), (.tup [(.tup [(.c (.str "held"))]), (.c (.str "held"))]), (.tup [(.tup [(.c (.str "above"))]), (.c (.str "last"))])]), .ret (.idxO 1 (.callB i_L_take 0 [(.c (.int 6))]))]
def fd_L_known : Fd := ⟨["bag"], n_L_known, true, b_L_known⟩
def n_L_rule : List Str := ["bag", "most", "way", "found", "at", "k"]
def mu_L_rule : List Str := ["bag"]
def b_L_rule : List S := [.asg 2 (.e (.callB i_L_take 0 [(.c (.int 4))])), .iff (.cmp .eq (.v 2) (.c (.int 0))) [.ret (.f1 .tuple (.comp [5] (.callB i_L_clause 0 []) (.nm 5) (.rng (.callB i_L_take 0 [(.bin .add (.v 1) (.c (.int 1)))])) []))] [], .asg 3 (.e (.callB i_L_known 0 [])), .asg 4 (.e (.callB i_L_take 0 [(.bin .add (.f1 .len (.v 3)) (.c (.int 1)))])), .iff (.cmp .eq (.v 2) (.c (.int 1))) [.asg 3 (.e (.bin .add (.bin .add (.slc (.v 3) none (some (.v 4))) (.tup [(.callB i_L_clause 0 [])])) (.slc (.v 3) (some (.v 4)) none)))] [.iff (.cmp .eq (.v 2) (.c (.int 2))) [.asg 3 (.e (.bin .add (.bin .add (.slc (.v 3) none (some (.v 4))) (.bin .mul (.tup [(.callB i_L_clause 0 [])]) (.callB i_L_take 0 [(.c (.int 2))]))) (.slc (.v 3) (some (.bin .add (.v 4) (.c (.int 1)))) none)))] []], .ret (.slc (.v 3) none (some (.v 1)))]
def fd_L_rule : Fd := ⟨["bag", "most"], n_L_rule, true, b_L_rule⟩
def n_L_screen : List Str := ["bag", "wide", "tall", "most"]
def mu_L_screen : List Str := ["bag"]
def b_L_screen : List S := [.unp (.tp [(.nm 2), (.nm 3)]) (.idx (.lst [(.tup [(.c (.int 1)), (.c (.int 2))]), (.tup [(.c (.int 1)), (.c (.int 3))]), (.tup [(.c (.int 2)), (.c (.int 2))]), (.tup [(.c (.int 2)), (.c (.int 2))]), (.tup [(.c (.int 2)), (.c (.int 3))]), (.tup [(.c (.int 3)), (.c (.int 2))]), (.tup [(.c (.int 1)), (.c (.int 4))]), (.tup [(.c (.int 2)), (.c (.int 1))]), (.tup [(.c (.int 2)), (.c (.int 4))])]) (.callB i_L_take 0 [(.bin .add (.c (.int 8)) (.f1 .int (.v 1)))])), .ret (.tup [(.bin .add (.c (.int 1)) (.callB i_L_take 0 [(.ife (.v 1) (.c (.int 4)) (.c (.int 3)))])), (.bin .add (.c (.int 1)) (.callB i_L_take 0 [(.c (.int 3))])), (.v 2), (.v 3)])]
def fd_L_screen : Fd := ⟨["bag", "wide"], n_L_screen, true, b_L_screen⟩
def n_L_whole : List Str := ["value", "low", "high"]
def mu_L_whole : List Str := []
def b_L_whole : List S := [.ret (.and (.isi (.v 0) [.int]) (.and (.nt (.isi (.v 0) [.bool])) (.ch .le .le (.v 1) (.v 0) (.v 2))))]
def fd_L_whole : Fd := ⟨["value", "low", "high"], n_L_whole, false, b_L_whole⟩
def n_L_is_screen : List Str := ["value", "at", "most"]
def mu_L_is_screen : List Str := []
def b_L_is_screen : List S := [.iff (.or (.nt (.isi (.v 0) [.tup])) (.cmp .ne (.f1 .len (.v 0)) (.c (.int 4)))) [.ret (.c (.bool false))] [], .for_ (.tp [(.nm 1), (.nm 2)]) (.enum (.lst [(.c (.int 4)), (.c (.int 4)), (.c (.int 3)), (.c (.int 4))])) [.iff (.nt (.call i_L_whole [(.idx (.v 0) (.v 1)), (.c (.int 1)), (.v 2)])) [.ret (.c (.bool false))] []], .ret (.or (.cmp .eq (.idx (.v 0) (.c (.int 2))) (.c (.int 1))) (.cmp .inn (.tup [(.idx (.v 0) (.c (.int 2))), (.idx (.v 0) (.c (.int 3)))]) (.lst [(.tup [(.c (.int 2)), (.c (.int 1))]), (.tup [(.c (.int 2)), (.c (.int 2))]), (.tup [(.c (.int 2)), (.c (.int 3))]), (.tup [(.c (.int 2)), (.c (.int 4))]), (.tup [(.c (.int 3)), (.c (.int 1))]), (.tup [(.c (.int 3)), (.c (.int 2))])])))]
def fd_L_is_screen : Fd := ⟨["value"], n_L_is_screen, false, b_L_is_screen⟩
def n_L_is_clause : List Str := ["value", "words", "word", "test"]
def mu_L_is_clause : List Str := []
def b_L_is_clause : List S := [.asg 1 (.e (.bin .add (.call i_L_tests []) (.comp [2] (.bin .add (.c (.str "no ")) (.v 2)) (.nm 2) (.val (.call i_L_tests [])) []))), .iff (.or (.nt (.isi (.v 0) [.tup])) (.or (.cmp .ne (.f1 .len (.v 0)) (.c (.int 2))) (.or (.nt (.isi (.idx (.v 0) (.c (.int 0))) [.tup])) (.cmp .gt (.f1 .len (.idx (.v 0) (.c (.int 0)))) (.c (.int 3)))))) [.ret (.c (.bool false))] [], .iff (.cmp .ne (.comp [3] (.c (.int 1)) (.nm 3) (.val (.idx (.v 0) (.c (.int 0)))) [(.or (.nt (.isi (.v 3) [.str])) (.cmp .nin (.v 3) (.v 1)))]) (.lst [])) [.ret (.c (.bool false))] [], .ret (.and (.isi (.idx (.v 0) (.c (.int 1))) [.str]) (.cmp .inn (.idx (.v 0) (.c (.int 1))) (.call i_L_deeds [])))]
def fd_L_is_clause : Fd := ⟨["value"], n_L_is_clause, false, b_L_is_clause⟩
def n_L_is_rule : List Str := ["value", "clause"]
def mu_L_is_rule : List Str := []
def b_L_is_rule : List S := [.iff (.or (.nt (.isi (.v 0) [.tup])) (.cmp .gt (.f1 .len (.v 0)) (.c (.int 8)))) [.ret (.c (.bool false))] [], .ret (.cmp .eq (.comp [1] (.c (.int 1)) (.nm 1) (.val (.v 0)) [(.nt (.call i_L_is_clause [(.v 1)]))]) (.lst []))]
def fd_L_is_rule : Fd := ⟨["value"], n_L_is_rule, false, b_L_is_rule⟩
def n_L_odd_k01 : List Str := ["bag", "value", "some", "at", "way"]
def mu_L_odd_k01 : List Str := ["bag"]
def b_L_odd_k01 : List S := [.iff (.or (.nt (.isi (.v 1) [.tup])) (.cmp .eq (.callB i_L_take 0 [(.c (.int 4))]) (.c (.int 0)))) [.asg 2 (.e (.lst [(.c .none), (.c (.bool true)), (.c (.int 0)), (.c (.int 1)), (.c (.int 2)), (.c (.int 3)), (.c (.int 4)), (.c (.int 5)), (.neg (.c (.int 1))), (.bin .pow (.c (.int 10)) (.c (.int 20))), (.c (.str "")), (.c (.str "no")), (.c (.str "no end")), (.c (.str "noxend")), (.c (.str "no  end")), (.c (.str "End")), (.c (.str "end"))])), .asg 2 (.e (.bin .add (.v 2) (.lst [(.c (.str "first")), (.c (.str "above")), (.c (.str "high")), (.c (.str "stay")), (.c (.str "no stay")), (.c (.str "no no end")), (.tup []), (.lst []), (.tup [(.c (.str "end"))]), (.tup [(.tup []), (.c (.str "end"))]), (.tup [(.c (.int 1)), (.c (.int 2))])]))), .ret (.idx (.v 2) (.callB i_L_take 0 [(.c (.int 28))]))] [], .par [3, 4] [(.e (.callB i_L_take 0 [(.bin .add (.f1 .len (.v 1)) (.c (.int 1)))])), (.e (.callB i_L_take 0 [(.c (.int 5))]))], .iff (.cmp .eq (.v 4) (.c (.int 0))) [.ret (.f1 .list (.v 1))] [], .iff (.or (.cmp .eq (.v 4) (.c (.int 1))) (.cmp .eq (.v 3) (.f1 .len (.v 1)))) [.ret (.bin .add (.bin .add (.slc (.v 1) none (some (.v 3))) (.tup [(.callB i_L_odd_k01 0 [(.c .none)])])) (.slc (.v 1) (some (.v 3)) none))] [], .iff (.cmp .eq (.v 4) (.c (.int 2))) [.ret (.bin .add (.bin .add (.slc (.v 1) none (some (.v 3))) (.slc (.v 1) (some (.v 3)) (some (.bin .add (.v 3) (.c (.int 1)))))) (.slc (.v 1) (some (.v 3)) none))] [], .iff (.cmp .eq (.v 4) (.c (.int 3))) [.ret (.bin .add (.slc (.v 1) none (some (.v 3))) (.slc (.v 1) (some (.bin .add (.v 3) (.c (.int 1)))) none))] [], .ret (.bin .add (.bin .add (.slc (.v 1) none (some (.v 3))) (.tup [(.callB i_L_odd_k01 0 [(.idx (.v 1) (.v 3))])])) (.slc (.v 1) (some (.bin .add (.v 3) (.c (.int 1)))) none))]
def fd_L_odd_k01 : Fd := ⟨["bag", "value"], n_L_odd_k01, true, b_L_odd_k01⟩
def n_look_at_screen : List Str := ["screen"]
def mu_look_at_screen : List Str := []
def b_look_at_screen : List S := [.iff (.nt (.call i_is_screen [(.v 0)])) [.rse] []]
def fd_look_at_screen : Fd := ⟨["screen"], n_look_at_screen, false, b_look_at_screen⟩
def n_limit_of : List Str := ["screen", "rows"]
def mu_limit_of : List Str := []
def b_limit_of : List S := [.ret (.f2 .max (.c (.int 0)) (.bin .sub (.f1 .sum (.v 1)) (.idx (.v 0) (.c (.int 0)))))]
def fd_limit_of : Fd := ⟨["screen", "rows"], n_limit_of, false, b_limit_of⟩
def n_are_rows : List Str := ["screen", "value", "high"]
def mu_are_rows : List Str := []
def b_are_rows : List S := [.iff (.or (.nt (.isi (.v 1) [.tup])) (.cmp .gt (.f1 .len (.v 1)) (.idx (.v 0) (.c (.int 3))))) [.ret (.c (.bool false))] [], .ret (.f1 .all (.comp [2] (.call i_is_within [(.v 2), (.c (.int 1)), (.idx (.v 0) (.c (.int 2)))]) (.nm 2) (.val (.v 1)) []))]
def fd_are_rows : Fd := ⟨["screen", "value"], n_are_rows, false, b_are_rows⟩
def n_fits : List Str := ["screen", "value"]
def mu_fits : List Str := []
def b_fits : List S := [.iff (.or (.nt (.isi (.v 1) [.tup])) (.or (.cmp .ne (.f1 .len (.v 1)) (.c (.int 3))) (.nt (.call i_are_rows [(.v 0), (.idx (.v 1) (.c (.int 0)))])))) [.ret (.c (.bool false))] [], .ret (.and (.call i_is_within [(.idx (.v 1) (.c (.int 1))), (.c (.int 0)), (.call i_limit_of [(.v 0), (.idx (.v 1) (.c (.int 0)))])]) (.call i_is_within [(.idx (.v 1) (.c (.int 2))), (.neg (.c (.int 1))), (.bin .sub (.f1 .len (.idx (.v 1) (.c (.int 0)))) (.c (.int 1)))]))]
def fd_fits : Fd := ⟨["screen", "value"], n_fits, false, b_fits⟩
def n_is_stand : List Str := ["screen", "value"]
def mu_is_stand : List Str := []
def b_is_stand : List S := [.ex (.call i_look_at_screen [(.v 0)]), .ret (.call i_fits [(.v 0), (.v 1)])]
def fd_is_stand : Fd := ⟨["screen", "value"], n_is_stand, false, b_is_stand⟩
def n_look_at_stand : List Str := ["screen", "stand"]
def mu_look_at_stand : List Str := []
def b_look_at_stand : List S := [.iff (.nt (.call i_fits [(.v 0), (.v 1)])) [.rse] []]
def fd_look_at_stand : Fd := ⟨["screen", "stand"], n_look_at_stand, false, b_look_at_stand⟩
def n_changes_at : List Str := ["screen", "rows", "heights", "found", "index", "other", "high"]
def mu_changes_at : List Str := []
def b_changes_at : List S := [.asg 2 (.e (.listI (.rng2 (.c (.int 1)) (.bin .add (.idx (.v 0) (.c (.int 2))) (.c (.int 1)))))), .asg 3 (.e (.lst [])), .iff (.cmp .lt (.f1 .len (.v 1)) (.idx (.v 0) (.c (.int 3)))) [.asg 3 (.e (.comp2 [4, 6] [6] (.tup [(.c (.str "put")), (.v 4), (.v 6)]) (.nm 4) (.rng (.bin .add (.f1 .len (.v 1)) (.c (.int 1)))) (.nm 6) (.val (.v 2))))] [], .for_ (.tp [(.nm 4), (.nm 5)]) (.enum (.v 1)) [.asg 3 (.e (.bin .add (.v 3) (.comp [6] (.tup [(.c (.str "size")), (.v 4), (.v 6)]) (.nm 6) (.val (.v 2)) [(.cmp .ne (.v 6) (.v 5))])))], .ret (.bin .add (.v 3) (.comp [4] (.tup [(.c (.str "take")), (.v 4)]) (.nm 4) (.rng (.f1 .len (.v 1))) []))]
def fd_changes_at : Fd := ⟨["screen", "rows"], n_changes_at, false, b_changes_at⟩
def n_all_events : List Str := ["screen", "rows", "found", "index"]
def mu_all_events : List Str := []
def b_all_events : List S := [.asg 2 (.e (.bin .add (.bin .add (.lst [(.tup [(.c (.str "by")), (.neg (.c (.int 1)))]), (.tup [(.c (.str "by")), (.c (.int 1))])]) (.comp [3] (.tup [(.c (.str "choose")), (.v 3)]) (.nm 3) (.rng (.f1 .len (.v 1))) [])) (.lst [(.tup [(.c (.str "leave"))])]))), .ret (.f1 .sorted (.bin .add (.v 2) (.call i_changes_at [(.v 0), (.v 1)])))]
def fd_all_events : Fd := ⟨["screen", "rows"], n_all_events, false, b_all_events⟩
def n_is_like : List Str := ["value", "some", "part"]
def mu_is_like : List Str := []
def b_is_like : List S := [.iff (.or (.nt (.isi (.v 0) [.tup])) (.or (.cmp .eq (.v 0) (.tup [])) (.nt (.isi (.idx (.v 0) (.c (.int 0))) [.str])))) [.ret (.c (.bool false))] [], .iff (.nt (.f1 .all (.comp [2] (.and (.isi (.v 2) [.int]) (.nt (.isi (.v 2) [.bool]))) (.nm 2) (.val (.slc (.v 0) (some (.c (.int 1))) none)) []))) [.ret (.c (.bool false))] [], .ret (.cmp .inn (.v 0) (.v 1))]
def fd_is_like : Fd := ⟨["value", "some"], n_is_like, false, b_is_like⟩
def n_rows_behind : List Str := ["rows", "event"]
def mu_rows_behind : List Str := []
def b_rows_behind : List S := [.iff (.cmp .eq (.idx (.v 1) (.c (.int 0))) (.c (.str "put"))) [.ret (.bin .add (.bin .add (.slc (.v 0) none (some (.idx (.v 1) (.c (.int 1))))) (.tup [(.idx (.v 1) (.c (.int 2)))])) (.slc (.v 0) (some (.idx (.v 1) (.c (.int 1)))) none))] [], .iff (.cmp .eq (.idx (.v 1) (.c (.int 0))) (.c (.str "take"))) [.ret (.bin .add (.slc (.v 0) none (some (.idx (.v 1) (.c (.int 1))))) (.slc (.v 0) (some (.bin .add (.idx (.v 1) (.c (.int 1))) (.c (.int 1)))) none))] [], .iff (.cmp .eq (.idx (.v 1) (.c (.int 0))) (.c (.str "size"))) [.ret (.bin .add (.bin .add (.slc (.v 0) none (some (.idx (.v 1) (.c (.int 1))))) (.tup [(.idx (.v 1) (.c (.int 2)))])) (.slc (.v 0) (some (.bin .add (.idx (.v 1) (.c (.int 1))) (.c (.int 1)))) none))] [], .ret (.v 0)]
def fd_rows_behind : Fd := ⟨["rows", "event"], n_rows_behind, false, b_rows_behind⟩
def n_goes : List Str := ["screen", "rows", "events", "event"]
def mu_goes : List Str := []
def b_goes : List S := [.for_ (.nm 3) (.val (.v 2)) [.iff (.nt (.call i_is_like [(.v 3), (.call i_all_events [(.v 0), (.v 1)])])) [.ret (.c (.bool false))] [], .asg 1 (.e (.call i_rows_behind [(.v 1), (.v 3)]))], .ret (.c (.bool true))]
def fd_goes : Fd := ⟨["screen", "rows", "events"], n_goes, false, b_goes⟩
def n_fits_history : List Str := ["screen", "value"]
def mu_fits_history : List Str := []
def b_fits_history : List S := [.ret (.and (.isi (.v 1) [.tup]) (.and (.cmp .le (.f1 .len (.v 1)) (.g 5)) (.call i_goes [(.v 0), (.tup []), (.v 1)])))]
def fd_fits_history : Fd := ⟨["screen", "value"], n_fits_history, false, b_fits_history⟩
def n_is_history : List Str := ["screen", "value"]
def mu_is_history : List Str := []
def b_is_history : List S := [.ex (.call i_look_at_screen [(.v 0)]), .ret (.call i_fits_history [(.v 0), (.v 1)])]
def fd_is_history : Fd := ⟨["screen", "value"], n_is_history, false, b_is_history⟩
def n_events_at : List Str := ["screen", "stand"]
def mu_events_at : List Str := []
def b_events_at : List S := [.ex (.call i_look_at_screen [(.v 0)]), .ex (.call i_look_at_stand [(.v 0), (.v 1)]), .ret (.call i_all_events [(.v 0), (.idx (.v 1) (.c (.int 0)))])]
def fd_events_at : Fd := ⟨["screen", "stand"], n_events_at, false, b_events_at⟩
def n_L_limit : List Str := ["screen", "rows"]
def mu_L_limit : List Str := []
def b_L_limit : List S := [.ret (.f2 .max (.c (.int 0)) (.bin .sub (.f1 .sum (.v 1)) (.idx (.v 0) (.c (.int 0)))))]
def fd_L_limit : Fd := ⟨["screen", "rows"], n_L_limit, false, b_L_limit⟩
def n_L_changes : List Str := ["screen", "rows", "found", "all_so", "index", "high"]
def mu_L_changes : List Str := []
def b_L_changes : List S := [.par [2, 3] [(.e (.lst [])), (.e (.listI (.rng2 (.c (.int 1)) (.bin .add (.idx (.v 0) (.c (.int 2))) (.c (.int 1))))))], .iff (.cmp .lt (.f1 .len (.v 1)) (.idx (.v 0) (.c (.int 3)))) [.for_ (.nm 4) (.rng (.bin .add (.f1 .len (.v 1)) (.c (.int 1)))) [.asg 2 (.e (.bin .add (.v 2) (.comp [5] (.tup [(.c (.str "put")), (.v 4), (.v 5)]) (.nm 5) (.val (.v 3)) [])))]] [], .for_ (.nm 4) (.rng (.f1 .len (.v 1))) [.asg 2 (.e (.bin .add (.bin .add (.v 2) (.comp [5] (.tup [(.c (.str "size")), (.v 4), (.v 5)]) (.nm 5) (.val (.v 3)) [(.cmp .ne (.v 5) (.idx (.v 1) (.v 4)))])) (.lst [(.tup [(.c (.str "take")), (.v 4)])])))], .ret (.f1 .sorted (.v 2))]
def fd_L_changes : Fd := ⟨["screen", "rows"], n_L_changes, false, b_L_changes⟩
def n_L_events : List Str := ["screen", "rows", "found", "index"]
def mu_L_events : List Str := []
def b_L_events : List S := [.asg 2 (.e (.bin .add (.lst [(.tup [(.c (.str "by")), (.neg (.c (.int 1)))]), (.tup [(.c (.str "by")), (.c (.int 1))]), (.tup [(.c (.str "leave"))])]) (.comp [3] (.tup [(.c (.str "choose")), (.v 3)]) (.nm 3) (.rng (.f1 .len (.v 1))) []))), .ret (.f1 .sorted (.bin .add (.v 2) (.call i_L_changes [(.v 0), (.v 1)])))]
def fd_L_events : Fd := ⟨["screen", "rows"], n_L_events, false, b_L_events⟩
def n_L_moved : List Str := ["rows", "change", "old"]
def mu_L_moved : List Str := []
def b_L_moved : List S := [.asg 2 (.e (.listI (.rng (.f1 .len (.v 0))))), .iff (.cmp .eq (.idx (.v 1) (.c (.int 0))) (.c (.str "put"))) [.ret (.tup [(.bin .add (.bin .add (.slc (.v 0) none (some (.idx (.v 1) (.c (.int 1))))) (.tup [(.idx (.v 1) (.c (.int 2)))])) (.slc (.v 0) (some (.idx (.v 1) (.c (.int 1)))) none)), (.bin .add (.bin .add (.slc (.v 2) none (some (.idx (.v 1) (.c (.int 1))))) (.lst [(.neg (.c (.int 1)))])) (.slc (.v 2) (some (.idx (.v 1) (.c (.int 1)))) none))])] [], .iff (.cmp .eq (.idx (.v 1) (.c (.int 0))) (.c (.str "take"))) [.ret (.tup [(.bin .add (.slc (.v 0) none (some (.idx (.v 1) (.c (.int 1))))) (.slc (.v 0) (some (.bin .add (.idx (.v 1) (.c (.int 1))) (.c (.int 1)))) none)), (.bin .add (.slc (.v 2) none (some (.idx (.v 1) (.c (.int 1))))) (.slc (.v 2) (some (.bin .add (.idx (.v 1) (.c (.int 1))) (.c (.int 1)))) none))])] [], .ret (.tup [(.bin .add (.bin .add (.slc (.v 0) none (some (.idx (.v 1) (.c (.int 1))))) (.tup [(.idx (.v 1) (.c (.int 2)))])) (.slc (.v 0) (some (.bin .add (.idx (.v 1) (.c (.int 1))) (.c (.int 1)))) none)), (.v 2)])]
def fd_L_moved : Fd := ⟨["rows", "change"], n_L_moved, false, b_L_moved⟩
def n_L_history : List Str := ["bag", "screen", "most", "rows", "found", "turn", "some", "event"]
def mu_L_history : List Str := ["bag"]
def b_L_history : List S := [.rse]
def fd_L_history : Fd := ⟨["bag", "screen", "most"], n_L_history, true, b_L_history⟩
def n_L_stand : List Str := ["bag", "screen", "rows", "k"]
def mu_L_stand : List Str := ["bag"]
def b_L_stand : List S := [.asg 2 (.e (.f1 .tuple (.comp [3] (.bin .add (.c (.int 1)) (.callB i_L_take 0 [(.idx (.v 1) (.c (.int 2)))])) (.nm 3) (.rng (.callB i_L_take 0 [(.bin .add (.idx (.v 1) (.c (.int 3))) (.c (.int 1)))])) []))), .ret (.tup [(.v 2), (.callB i_L_take 0 [(.bin .add (.call i_L_limit [(.v 1), (.v 2)]) (.c (.int 1)))]), (.bin .sub (.callB i_L_take 0 [(.bin .add (.f1 .len (.v 2)) (.c (.int 1)))]) (.c (.int 1)))])]
def fd_L_stand : Fd := ⟨["bag", "screen"], n_L_stand, true, b_L_stand⟩
def n_L_is_stand : List Str := ["screen", "value", "high"]
def mu_L_is_stand : List Str := []
def b_L_is_stand : List S := [.iff (.or (.nt (.isi (.v 1) [.tup])) (.or (.cmp .ne (.f1 .len (.v 1)) (.c (.int 3))) (.nt (.isi (.idx (.v 1) (.c (.int 0))) [.tup])))) [.ret (.c (.bool false))] [], .iff (.or (.cmp .gt (.f1 .len (.idx (.v 1) (.c (.int 0)))) (.idx (.v 0) (.c (.int 3)))) (.cmp .ne (.comp [2] (.c (.int 1)) (.nm 2) (.val (.idx (.v 1) (.c (.int 0)))) [(.nt (.call i_L_whole [(.v 2), (.c (.int 1)), (.idx (.v 0) (.c (.int 2)))]))]) (.lst []))) [.ret (.c (.bool false))] [], .ret (.and (.call i_L_whole [(.idx (.v 1) (.c (.int 1))), (.c (.int 0)), (.call i_L_limit [(.v 0), (.idx (.v 1) (.c (.int 0)))])]) (.call i_L_whole [(.idx (.v 1) (.c (.int 2))), (.neg (.c (.int 1))), (.bin .sub (.f1 .len (.idx (.v 1) (.c (.int 0)))) (.c (.int 1)))]))]
def fd_L_is_stand : Fd := ⟨["screen", "value"], n_L_is_stand, false, b_L_is_stand⟩
def n_L_is_history : List Str := ["screen", "value", "rows", "event", "one"]
def mu_L_is_history : List Str := []
def b_L_is_history : List S := [.iff (.or (.nt (.isi (.v 1) [.tup])) (.cmp .gt (.f1 .len (.v 1)) (.c (.int 60)))) [.ret (.c (.bool false))] [], .asg 2 (.e (.tup [])), .for_ (.nm 3) (.val (.v 1)) [.iff (.cmp .eq (.comp [4] (.c (.int 1)) (.nm 4) (.val (.call i_L_events [(.v 0), (.v 2)])) [(.call i_L_same [(.v 4), (.v 3)])]) (.lst [])) [.ret (.c (.bool false))] [], .iff (.cmp .inn (.idx (.v 3) (.c (.int 0))) (.lst [(.c (.str "put")), (.c (.str "size")), (.c (.str "take"))])) [.asg 2 (.e (.idx (.call i_L_moved [(.v 2), (.v 3)]) (.c (.int 0))))] []], .ret (.c (.bool true))]
def fd_L_is_history : Fd := ⟨["screen", "value"], n_L_is_history, false, b_L_is_history⟩
def n_L_odd_k02 : List Str := ["bag", "value", "some", "at", "way"]
def mu_L_odd_k02 : List Str := ["bag"]
def b_L_odd_k02 : List S := [.iff (.or (.nt (.isi (.v 1) [.tup])) (.cmp .eq (.callB i_L_take 0 [(.c (.int 4))]) (.c (.int 0)))) [.asg 2 (.e (.lst [(.c .none), (.c (.bool true)), (.c (.bool false)), (.c (.int 0)), (.c (.int 1)), (.c (.int 2)), (.c (.int 3)), (.neg (.c (.int 1))), (.neg (.c (.int 2))), (.c (.int 7)), (.bin .pow (.c (.int 10)) (.c (.int 20))), (.c (.str "")), (.c (.str "put")), (.c (.str "take")), (.c (.str "leave")), (.c (.str "by")), (.c (.str "choose")), (.c (.str "go"))])), .asg 2 (.e (.bin .add (.v 2) (.lst [(.tup []), (.lst []), (.tup [(.c (.str "leave"))]), (.tup [(.c (.str "by")), (.c (.int 2))]), (.tup [(.c (.str "by")), (.c (.bool true))]), (.tup [(.c (.str "take")), (.c (.int 0))]), (.tup [(.c (.str "put")), (.c (.int 0))]), (.tup [(.c (.str "choose")), (.neg (.c (.int 1)))])]))), .ret (.idx (.v 2) (.callB i_L_take 0 [(.c (.int 26))]))] [], .par [3, 4] [(.e (.callB i_L_take 0 [(.bin .add (.f1 .len (.v 1)) (.c (.int 1)))])), (.e (.callB i_L_take 0 [(.c (.int 5))]))], .iff (.cmp .eq (.v 4) (.c (.int 0))) [.ret (.f1 .list (.v 1))] [], .iff (.or (.cmp .eq (.v 4) (.c (.int 1))) (.cmp .eq (.v 3) (.f1 .len (.v 1)))) [.ret (.bin .add (.bin .add (.slc (.v 1) none (some (.v 3))) (.tup [(.callB i_L_odd_k02 0 [(.c .none)])])) (.slc (.v 1) (some (.v 3)) none))] [], .iff (.cmp .eq (.v 4) (.c (.int 2))) [.ret (.bin .add (.bin .add (.slc (.v 1) none (some (.v 3))) (.slc (.v 1) (some (.v 3)) (some (.bin .add (.v 3) (.c (.int 1)))))) (.slc (.v 1) (some (.v 3)) none))] [], .iff (.cmp .eq (.v 4) (.c (.int 3))) [.ret (.bin .add (.slc (.v 1) none (some (.v 3))) (.slc (.v 1) (some (.bin .add (.v 3) (.c (.int 1)))) none))] [], .ret (.bin .add (.bin .add (.slc (.v 1) none (some (.v 3))) (.tup [(.callB i_L_odd_k02 0 [(.idx (.v 1) (.v 3))])])) (.slc (.v 1) (some (.bin .add (.v 3) (.c (.int 1)))) none))]
def fd_L_odd_k02 : Fd := ⟨["bag", "value"], n_L_odd_k02, true, b_L_odd_k02⟩
def n_look_at_change : List Str := ["screen", "stand", "change"]
def mu_look_at_change : List Str := []
def b_look_at_change : List S := [.iff (.nt (.call i_is_like [(.v 2), (.call i_changes_at [(.v 0), (.idx (.v 1) (.c (.int 0)))])])) [.rse] []]
def fd_look_at_change : Fd := ⟨["screen", "stand", "change"], n_look_at_change, false, b_look_at_change⟩
def n_begin_of : List Str := ["rows", "index"]
def mu_begin_of : List Str := []
def b_begin_of : List S := [.ret (.f1 .sum (.slc (.v 0) none (some (.v 1))))]
def fd_begin_of : Fd := ⟨["rows", "index"], n_begin_of, false, b_begin_of⟩
def n_seen_at : List Str := ["screen", "rows", "top", "found", "index", "high", "begin"]
def mu_seen_at : List Str := ["found"]
def b_seen_at : List S := [.asg 3 (.lst []), .for_ (.tp [(.nm 4), (.nm 5)]) (.enum (.v 1)) [.asg 6 (.e (.call i_begin_of [(.v 1), (.v 4)])), .iff (.and (.cmp .lt (.v 6) (.bin .add (.v 2) (.idx (.v 0) (.c (.int 0))))) (.cmp .gt (.bin .add (.v 6) (.v 5)) (.v 2))) [.app 3 (.tup [(.v 4), (.bin .sub (.v 6) (.v 2))])] []], .ret (.f1 .tuple (.v 3))]
def fd_seen_at : Fd := ⟨["screen", "rows", "top"], n_seen_at, false, b_seen_at⟩
def n_place_at : List Str := ["screen", "stand", "change", "rows", "top", "begin"]
def mu_place_at : List Str := []
def b_place_at : List S := [.par [3, 4] [(.e (.idx (.v 1) (.c (.int 0)))), (.e (.idx (.v 1) (.c (.int 1))))], .asg 5 (.e (.call i_begin_of [(.v 3), (.idx (.v 2) (.c (.int 1)))])), .iff (.cmp .ge (.v 5) (.bin .add (.v 4) (.idx (.v 0) (.c (.int 0))))) [.ret (.c (.str "below"))] [], .iff (.cmp .eq (.idx (.v 2) (.c (.int 0))) (.c (.str "put"))) [.ret (.ife (.cmp .lt (.v 5) (.v 4)) (.c (.str "above")) (.c (.str "within")))] [], .ret (.ife (.cmp .le (.bin .add (.v 5) (.idx (.v 3) (.idx (.v 2) (.c (.int 1))))) (.v 4)) (.c (.str "above")) (.c (.str "within")))]
def fd_place_at : Fd := ⟨["screen", "stand", "change"], n_place_at, false, b_place_at⟩
def n_seen : List Str := ["screen", "stand"]
def mu_seen : List Str := []
def b_seen : List S := [.ex (.call i_look_at_screen [(.v 0)]), .ex (.call i_look_at_stand [(.v 0), (.v 1)]), .ret (.call i_seen_at [(.v 0), (.idx (.v 1) (.c (.int 0))), (.idx (.v 1) (.c (.int 1)))])]
def fd_seen : Fd := ⟨["screen", "stand"], n_seen, false, b_seen⟩
def n_place_of : List Str := ["screen", "stand", "change"]
def mu_place_of : List Str := []
def b_place_of : List S := [.ex (.call i_look_at_screen [(.v 0)]), .ex (.call i_look_at_stand [(.v 0), (.v 1)]), .ex (.call i_look_at_change [(.v 0), (.v 1), (.v 2)]), .ret (.call i_place_at [(.v 0), (.v 1), (.v 2)])]
def fd_place_of : Fd := ⟨["screen", "stand", "change"], n_place_of, false, b_place_of⟩
def n_look_at_rule : List Str := ["rule"]
def mu_look_at_rule : List Str := []
def b_look_at_rule : List S := [.iff (.nt (.call i_is_rule [(.v 0)])) [.rse] []]
def fd_look_at_rule : Fd := ⟨["rule"], n_look_at_rule, false, b_look_at_rule⟩
def n_facts_of : List Str := ["screen", "stand", "change", "rows", "top", "chosen", "shown", "found", "index", "distance"]
def mu_facts_of : List Str := ["found"]
def b_facts_of : List S := [.unp (.tp [(.nm 3), (.nm 4), (.nm 5)]) (.v 1), .asg 6 (.e (.call i_seen_at [(.v 0), (.v 3), (.v 4)])), .asg 7 (.lst [(.idx (.v 2) (.c (.int 0))), (.call i_place_at [(.v 0), (.v 1), (.v 2)])]), .iff (.cmp .eq (.v 4) (.c (.int 0))) [.app 7 (.c (.str "begin"))] [], .iff (.cmp .eq (.v 4) (.call i_limit_of [(.v 0), (.v 3)])) [.app 7 (.c (.str "end"))] [], .iff (.cmp .le (.f1 .sum (.v 3)) (.idx (.v 0) (.c (.int 0)))) [.app 7 (.c (.str "short"))] [], .iff (.and (.cmp .ne (.v 6) (.tup [])) (.cmp .lt (.idx (.idx (.v 6) (.c (.int 0))) (.c (.int 1))) (.c (.int 0)))) [.app 7 (.c (.str "cut"))] [], .iff (.cmp .inn (.v 5) (.comp [8, 9] (.v 8) (.tp [(.nm 8), (.nm 9)]) (.val (.v 6)) [])) [.app 7 (.c (.str "held"))] [], .ret (.v 7)]
def fd_facts_of : Fd := ⟨["screen", "stand", "change"], n_facts_of, false, b_facts_of⟩
def n_holds : List Str := ["test", "facts"]
def mu_holds : List Str := []
def b_holds : List S := [.ret (.ife (.cmp .eq (.slc (.v 0) none (some (.c (.int 3)))) (.c (.str "no "))) (.cmp .nin (.slc (.v 0) (some (.c (.int 3))) none) (.v 1)) (.cmp .inn (.v 0) (.v 1)))]
def fd_holds : Fd := ⟨["test", "facts"], n_holds, false, b_holds⟩
def n_deciding : List Str := ["rule", "screen", "stand", "change", "facts", "index", "tests", "deed", "test"]
def mu_deciding : List Str := []
def b_deciding : List S := [.asg 4 (.e (.call i_facts_of [(.v 1), (.v 2), (.v 3)])), .for_ (.tp [(.nm 5), (.tp [(.nm 6), (.nm 7)])]) (.enum (.v 0)) [.iff (.f1 .all (.comp [8] (.call i_holds [(.v 8), (.v 4)]) (.nm 8) (.val (.v 6)) [])) [.ret (.v 5)] []], .ret (.c .none)]
def fd_deciding : Fd := ⟨["rule", "screen", "stand", "change"], n_deciding, false, b_deciding⟩
def n_deed_by : List Str := ["rule", "screen", "stand", "change", "index"]
def mu_deed_by : List Str := []
def b_deed_by : List S := [.asg 4 (.e (.call i_deciding [(.v 0), (.v 1), (.v 2), (.v 3)])), .ret (.ife (.cmp .is (.v 4) (.c .none)) (.c (.str "stay")) (.idx (.idx (.v 0) (.v 4)) (.c (.int 1))))]
def fd_deed_by : Fd := ⟨["rule", "screen", "stand", "change"], n_deed_by, false, b_deed_by⟩
def n_deed_of : List Str := ["rule", "screen", "stand", "change"]
def mu_deed_of : List Str := []
def b_deed_of : List S := [.ex (.call i_look_at_rule [(.v 0)]), .ex (.call i_look_at_screen [(.v 1)]), .ex (.call i_look_at_stand [(.v 1), (.v 2)]), .ex (.call i_look_at_change [(.v 1), (.v 2), (.v 3)]), .ret (.call i_deed_by [(.v 0), (.v 1), (.v 2), (.v 3)])]
def fd_deed_of : Fd := ⟨["rule", "screen", "stand", "change"], n_deed_of, false, b_deed_of⟩
def n_L_seen : List Str := ["screen", "rows", "top", "found", "begin", "index", "high"]
def mu_L_seen : List Str := ["found"]
def b_L_seen : List S := [.par [3, 4] [(.dct []), (.e (.c (.int 0)))], .for_ (.tp [(.nm 5), (.nm 6)]) (.enum (.v 1)) [.iff (.and (.cmp .lt (.bin .sub (.v 4) (.v 2)) (.idx (.v 0) (.c (.int 0)))) (.cmp .gt (.bin .sub (.bin .add (.v 4) (.v 6)) (.v 2)) (.c (.int 0)))) [.seti 3 (.v 5) (.bin .sub (.v 4) (.v 2))] [], .asg 4 (.e (.bin .add (.v 4) (.v 6)))], .ret (.v 3)]
def fd_L_seen : Fd := ⟨["screen", "rows", "top"], n_L_seen, false, b_L_seen⟩
def n_L_place : List Str := ["screen", "stand", "change", "rows", "top", "begin", "end"]
def mu_L_place : List Str := []
def b_L_place : List S := [.par [3, 4] [(.e (.idx (.v 1) (.c (.int 0)))), (.e (.idx (.v 1) (.c (.int 1))))], .asg 5 (.e (.f1 .sum (.slc (.v 3) none (some (.idx (.v 2) (.c (.int 1))))))), .iff (.cmp .ge (.bin .sub (.v 5) (.v 4)) (.idx (.v 0) (.c (.int 0)))) [.ret (.c (.str "below"))] [], .asg 6 (.e (.ife (.cmp .eq (.idx (.v 2) (.c (.int 0))) (.c (.str "put"))) (.bin .add (.v 5) (.c (.int 1))) (.bin .add (.v 5) (.idx (.v 3) (.idx (.v 2) (.c (.int 1))))))), .ret (.ife (.cmp .le (.v 6) (.v 4)) (.c (.str "above")) (.c (.str "within")))]
def fd_L_place : Fd := ⟨["screen", "stand", "change"], n_L_place, false, b_L_place⟩
def n_L_holds : List Str := ["test", "screen", "stand", "change", "rows", "top", "chosen", "here", "far"]
def mu_L_holds : List Str := []
def b_L_holds : List S := [.iff (.cmp .eq (.slc (.v 0) none (some (.c (.int 3)))) (.c (.str "no "))) [.ret (.nt (.call i_L_holds [(.slc (.v 0) (some (.c (.int 3))) none), (.v 1), (.v 2), (.v 3)]))] [], .unp (.tp [(.nm 4), (.nm 5), (.nm 6)]) (.v 2), .iff (.cmp .inn (.v 0) (.lst [(.c (.str "put")), (.c (.str "size")), (.c (.str "take"))])) [.ret (.cmp .eq (.idx (.v 3) (.c (.int 0))) (.v 0))] [], .iff (.cmp .inn (.v 0) (.lst [(.c (.str "above")), (.c (.str "below")), (.c (.str "within"))])) [.ret (.cmp .eq (.call i_L_place [(.v 1), (.v 2), (.v 3)]) (.v 0))] [], .iff (.or (.cmp .eq (.v 0) (.c (.str "begin"))) (.cmp .eq (.v 0) (.c (.str "end")))) [.ret (.cmp .eq (.v 5) (.ife (.cmp .eq (.v 0) (.c (.str "begin"))) (.c (.int 0)) (.call i_L_limit [(.v 1), (.v 4)])))] [], .iff (.cmp .eq (.v 0) (.c (.str "short"))) [.ret (.cmp .le (.f1 .sum (.v 4)) (.idx (.v 1) (.c (.int 0))))] [], .asg 7 (.e (.call i_L_seen [(.v 1), (.v 4), (.v 5)])), .ret (.ife (.cmp .eq (.v 0) (.c (.str "held"))) (.cmp .inn (.v 6) (.v 7)) (.cmp .ne (.comp [8] (.v 8) (.nm 8) (.vals (.v 7)) [(.cmp .lt (.v 8) (.c (.int 0)))]) (.lst [])))]
def fd_L_holds : Fd := ⟨["test", "screen", "stand", "change"], n_L_holds, false, b_L_holds⟩
def n_L_deed : List Str := ["rule", "screen", "stand", "change", "tests", "deed", "test"]
def mu_L_deed : List Str := []
def b_L_deed : List S := [.for_ (.tp [(.nm 4), (.nm 5)]) (.val (.v 0)) [.iff (.cmp .eq (.comp [6] (.v 6) (.nm 6) (.val (.v 4)) [(.nt (.call i_L_holds [(.v 6), (.v 1), (.v 2), (.v 3)]))]) (.lst [])) [.ret (.v 5)] []], .ret (.c (.str "stay"))]
def fd_L_deed : Fd := ⟨["rule", "screen", "stand", "change"], n_L_deed, false, b_L_deed⟩
def n_look_at_event : List Str := ["screen", "stand", "event"]
def mu_look_at_event : List Str := []
def b_look_at_event : List S := [.iff (.nt (.call i_is_like [(.v 2), (.call i_all_events [(.v 0), (.idx (.v 1) (.c (.int 0)))])])) [.rse] []]
def fd_look_at_event : Fd := ⟨["screen", "stand", "event"], n_look_at_event, false, b_look_at_event⟩
def n_look_at_history : List Str := ["screen", "history"]
def mu_look_at_history : List Str := []
def b_look_at_history : List S := [.iff (.nt (.call i_fits_history [(.v 0), (.v 1)])) [.rse] []]
def fd_look_at_history : Fd := ⟨["screen", "history"], n_look_at_history, false, b_look_at_history⟩
def n_new_index : List Str := ["event", "index"]
def mu_new_index : List Str := []
def b_new_index : List S := [.iff (.cmp .eq (.idx (.v 0) (.c (.int 0))) (.c (.str "put"))) [.ret (.bin .add (.v 1) (.f1 .int (.cmp .ge (.v 1) (.idx (.v 0) (.c (.int 1))))))] [], .iff (.cmp .eq (.idx (.v 0) (.c (.int 0))) (.c (.str "take"))) [.ret (.ife (.cmp .eq (.v 1) (.idx (.v 0) (.c (.int 1)))) (.c .none) (.bin .sub (.v 1) (.f1 .int (.cmp .gt (.v 1) (.idx (.v 0) (.c (.int 1)))))))] [], .ret (.v 1)]
def fd_new_index : Fd := ⟨["event", "index"], n_new_index, false, b_new_index⟩
def n_kept_top : List Str := ["stand", "rows", "event", "index", "by_end", "old", "top", "chosen", "later"]
def mu_kept_top : List Str := []
def b_kept_top : List S := [.unp (.tp [(.nm 5), (.nm 6), (.nm 7)]) (.v 0), .asg 8 (.e (.call i_new_index [(.v 2), (.v 3)])), .iff (.v 4) [.ret (.bin .sub (.bin .add (.v 6) (.call i_begin_of [(.v 1), (.bin .add (.v 8) (.c (.int 1)))])) (.call i_begin_of [(.v 5), (.bin .add (.v 3) (.c (.int 1)))]))] [], .ret (.bin .sub (.bin .add (.v 6) (.call i_begin_of [(.v 1), (.v 8)])) (.call i_begin_of [(.v 5), (.v 3)]))]
def fd_kept_top : Fd := ⟨["stand", "rows", "event", "index", "by_end"], n_kept_top, false, b_kept_top⟩
def n_wished_top : List Str := ["screen", "stand", "rows", "event", "deed", "old", "top", "chosen", "left", "index", "distance"]
def mu_wished_top : List Str := []
def b_wished_top : List S := [.unp (.tp [(.nm 5), (.nm 6), (.nm 7)]) (.v 1), .asg 8 (.e (.comp [9, 10] (.v 9) (.tp [(.nm 9), (.nm 10)]) (.val (.call i_seen_at [(.v 0), (.v 5), (.v 6)])) [(.cmp .isn (.call i_new_index [(.v 3), (.v 9)]) (.c .none))])), .iff (.cmp .eq (.v 4) (.c (.str "begin"))) [.ret (.c (.int 0))] [], .iff (.cmp .eq (.v 4) (.c (.str "end"))) [.ret (.call i_limit_of [(.v 0), (.v 2)])] [], .iff (.and (.cmp .eq (.v 4) (.c (.str "first"))) (.cmp .ne (.v 8) (.lst []))) [.ret (.call i_kept_top [(.v 1), (.v 2), (.v 3), (.idx (.v 8) (.c (.int 0))), (.c (.bool false))])] [], .iff (.and (.cmp .eq (.v 4) (.c (.str "last"))) (.cmp .ne (.v 8) (.lst []))) [.ret (.call i_kept_top [(.v 1), (.v 2), (.v 3), (.idx (.v 8) (.neg (.c (.int 1)))), (.c (.bool true))])] [], .iff (.and (.cmp .eq (.v 4) (.c (.str "held"))) (.and (.cmp .ge (.v 7) (.c (.int 0))) (.cmp .isn (.call i_new_index [(.v 3), (.v 7)]) (.c .none)))) [.ret (.call i_kept_top [(.v 1), (.v 2), (.v 3), (.v 7), (.c (.bool false))])] [], .ret (.v 6)]
def fd_wished_top : Fd := ⟨["screen", "stand", "rows", "event", "deed"], n_wished_top, false, b_wished_top⟩
def n_changed : List Str := ["rule", "screen", "stand", "change", "rows", "top", "chosen"]
def mu_changed : List Str := []
def b_changed : List S := [.asg 4 (.e (.call i_rows_behind [(.idx (.v 2) (.c (.int 0))), (.v 3)])), .asg 5 (.e (.call i_wished_top [(.v 1), (.v 2), (.v 4), (.v 3), (.call i_deed_by [(.v 0), (.v 1), (.v 2), (.v 3)])])), .asg 6 (.e (.ife (.cmp .lt (.idx (.v 2) (.c (.int 2))) (.c (.int 0))) (.neg (.c (.int 1))) (.call i_new_index [(.v 3), (.idx (.v 2) (.c (.int 2)))]))), .ret (.tup [(.v 4), (.f2 .min (.call i_limit_of [(.v 1), (.v 4)]) (.f2 .max (.c (.int 0)) (.v 5))), (.ife (.cmp .is (.v 6) (.c .none)) (.neg (.c (.int 1))) (.v 6))])]
def fd_changed : Fd := ⟨["rule", "screen", "stand", "change"], n_changed, false, b_changed⟩
def n_behind : List Str := ["rule", "screen", "stand", "event", "rows", "top", "chosen"]
def mu_behind : List Str := []
def b_behind : List S := [.unp (.tp [(.nm 4), (.nm 5), (.nm 6)]) (.v 2), .iff (.cmp .eq (.idx (.v 3) (.c (.int 0))) (.c (.str "by"))) [.ret (.tup [(.v 4), (.f2 .min (.call i_limit_of [(.v 1), (.v 4)]) (.f2 .max (.c (.int 0)) (.bin .add (.v 5) (.bin .mul (.idx (.v 3) (.c (.int 1))) (.idx (.v 1) (.c (.int 1))))))), (.v 6)])] [], .iff (.cmp .eq (.idx (.v 3) (.c (.int 0))) (.c (.str "choose"))) [.ret (.tup [(.v 4), (.v 5), (.idx (.v 3) (.c (.int 1)))])] [], .iff (.cmp .eq (.idx (.v 3) (.c (.int 0))) (.c (.str "leave"))) [.ret (.tup [(.v 4), (.v 5), (.neg (.c (.int 1)))])] [], .ret (.call i_changed [(.v 0), (.v 1), (.v 2), (.v 3)])]
def fd_behind : Fd := ⟨["rule", "screen", "stand", "event"], n_behind, false, b_behind⟩
def n_jump_between : List Str := ["screen", "stand", "change", "later", "old", "new", "found", "index", "there"]
def mu_jump_between : List Str := ["found"]
def b_jump_between : List S := [.rse]
def fd_jump_between : Fd := ⟨["screen", "stand", "change", "later"], n_jump_between, false, b_jump_between⟩
def n_played : List Str := ["rule", "screen", "stand", "events", "found", "event"]
def mu_played : List Str := ["found"]
def b_played : List S := [.asg 4 (.lst []), .for_ (.nm 5) (.val (.v 3)) [.asg 2 (.e (.call i_behind [(.v 0), (.v 1), (.v 2), (.v 5)])), .app 4 (.v 2)], .ret (.v 4)]
def fd_played : Fd := ⟨["rule", "screen", "stand", "events"], n_played, false, b_played⟩
def n_after : List Str := ["rule", "screen", "stand", "event"]
def mu_after : List Str := []
def b_after : List S := [.ex (.call i_look_at_rule [(.v 0)]), .ex (.call i_look_at_screen [(.v 1)]), .ex (.call i_look_at_stand [(.v 1), (.v 2)]), .ex (.call i_look_at_event [(.v 1), (.v 2), (.v 3)]), .ret (.call i_behind [(.v 0), (.v 1), (.v 2), (.v 3)])]
def fd_after : Fd := ⟨["rule", "screen", "stand", "event"], n_after, false, b_after⟩
def n_stand_behind : List Str := ["rule", "screen", "history"]
def mu_stand_behind : List Str := []
def b_stand_behind : List S := [.ex (.call i_look_at_rule [(.v 0)]), .ex (.call i_look_at_screen [(.v 1)]), .ex (.call i_look_at_history [(.v 1), (.v 2)]), .ret (.idx (.bin .add (.lst [(.g 6)]) (.call i_played [(.v 0), (.v 1), (.g 6), (.v 2)])) (.neg (.c (.int 1))))]
def fd_stand_behind : Fd := ⟨["rule", "screen", "history"], n_stand_behind, false, b_stand_behind⟩
def n_jump_of : List Str := ["rule", "screen", "stand", "change"]
def mu_jump_of : List Str := []
def b_jump_of : List S := [.ex (.call i_look_at_rule [(.v 0)]), .ex (.call i_look_at_screen [(.v 1)]), .ex (.call i_look_at_stand [(.v 1), (.v 2)]), .ex (.call i_look_at_change [(.v 1), (.v 2), (.v 3)]), .ret (.call i_jump_between [(.v 1), (.v 2), (.v 3), (.call i_changed [(.v 0), (.v 1), (.v 2), (.v 3)])])]
def fd_jump_of : Fd := ⟨["rule", "screen", "stand", "change"], n_jump_of, false, b_jump_of⟩
def n_L_anchored : List Str := ["screen", "stand", "change", "deed", "rows", "top", "chosen", "later", "old", "left", "at", "more", "index"]
def mu_L_anchored : List Str := []
def b_L_anchored : List S := [.unp (.tp [(.nm 4), (.nm 5), (.nm 6)]) (.v 1), .unp (.tp [(.nm 7), (.nm 8)]) (.call i_L_moved [(.v 4), (.v 2)]), .iff (.or (.cmp .eq (.v 3) (.c (.str "begin"))) (.cmp .eq (.v 3) (.c (.str "end")))) [.ret (.ife (.cmp .eq (.v 3) (.c (.str "begin"))) (.c (.int 0)) (.call i_L_limit [(.v 0), (.v 7)]))] [], .asg 9 (.e (.comp [10, 12] (.v 10) (.tp [(.nm 10), (.nm 12)]) (.enum (.v 8)) [(.cmp .inn (.v 12) (.call i_L_seen [(.v 0), (.v 4), (.v 5)]))])), .iff (.cmp .eq (.v 3) (.c (.str "held"))) [.asg 9 (.e (.comp [10, 12] (.v 10) (.tp [(.nm 10), (.nm 12)]) (.enum (.v 8)) [(.and (.cmp .eq (.v 12) (.v 6)) (.cmp .ge (.v 12) (.c (.int 0))))]))] [], .iff (.or (.cmp .eq (.v 3) (.c (.str "stay"))) (.cmp .eq (.v 9) (.lst []))) [.ret (.v 5)] [], .asg 10 (.e (.ife (.cmp .eq (.v 3) (.c (.str "last"))) (.idx (.v 9) (.neg (.c (.int 1)))) (.idx (.v 9) (.c (.int 0))))), .asg 11 (.e (.f1 .int (.cmp .eq (.v 3) (.c (.str "last"))))), .ret (.bin .sub (.bin .add (.v 5) (.f1 .sum (.slc (.v 7) none (some (.bin .add (.v 10) (.v 11)))))) (.f1 .sum (.slc (.v 4) none (some (.bin .add (.idx (.v 8) (.v 10)) (.v 11))))))]
def fd_L_anchored : Fd := ⟨["screen", "stand", "change", "deed"], n_L_anchored, false, b_L_anchored⟩
def n_L_after : List Str := ["rule", "screen", "stand", "event", "rows", "top", "chosen", "later", "old", "here"]
def mu_L_after : List Str := []
def b_L_after : List S := [.rse]
def fd_L_after : Fd := ⟨["rule", "screen", "stand", "event"], n_L_after, false, b_L_after⟩
def n_L_jump : List Str := ["screen", "stand", "change", "later", "ahead", "found", "old", "at", "far"]
def mu_L_jump : List Str := []
def b_L_jump : List S := [.par [4, 5] [(.e (.call i_L_seen [(.v 0), (.idx (.v 1) (.c (.int 0))), (.idx (.v 1) (.c (.int 1)))])), (.e (.c (.int 0)))], .asg 6 (.e (.idx (.call i_L_moved [(.idx (.v 1) (.c (.int 0))), (.v 2)]) (.c (.int 1)))), .for_ (.tp [(.nm 7), (.nm 8)]) (.items (.call i_L_seen [(.v 0), (.idx (.v 3) (.c (.int 0))), (.idx (.v 3) (.c (.int 1)))])) [.iff (.cmp .inn (.idx (.v 6) (.v 7)) (.v 4)) [.asg 5 (.e (.f2 .max (.v 5) (.f1 .abs (.bin .sub (.v 8) (.idx (.v 4) (.idx (.v 6) (.v 7)))))))] []], .ret (.v 5)]
def fd_L_jump : Fd := ⟨["screen", "stand", "change", "later"], n_L_jump, false, b_L_jump⟩
def n_ways_by : List Str := ["rule", "screen", "found", "waiting", "at", "stand", "event", "later"]
def mu_ways_by : List Str := ["found", "waiting"]
def b_ways_by : List S := [.par [2, 3, 4] [(.dct [((.g 6), (.tup []))]), (.lst [(.g 6)]), (.e (.c (.int 0)))], .whl fuelW (.cmp .lt (.v 4) (.lenO 3)) [.asg 5 (.e (.idxO 3 (.v 4))), .asg 4 (.e (.bin .add (.v 4) (.c (.int 1)))), .for_ (.nm 6) (.val (.call i_all_events [(.v 1), (.idx (.v 5) (.c (.int 0)))])) [.asg 7 (.e (.call i_behind [(.v 0), (.v 1), (.v 5), (.v 6)])), .iff (.inO (.v 7) 2 true) [.seti 2 (.v 7) (.bin .add (.idxO 2 (.v 5)) (.tup [(.v 6)])), .app 3 (.v 7)] []]], .ret (.v 2)]
def fd_ways_by : Fd := ⟨["rule", "screen"], n_ways_by, false, b_ways_by⟩
def n_look_at : List Str := ["rule", "screen"]
def mu_look_at : List Str := []
def b_look_at : List S := [.ex (.call i_look_at_rule [(.v 0)]), .ex (.call i_look_at_screen [(.v 1)])]
def fd_look_at : Fd := ⟨["rule", "screen"], n_look_at, false, b_look_at⟩
def n_reachable : List Str := ["rule", "screen"]
def mu_reachable : List Str := []
def b_reachable : List S := [.ex (.call i_look_at [(.v 0), (.v 1)]), .ret (.f1 .sorted (.f1 .list (.call i_ways_by [(.v 0), (.v 1)])))]
def fd_reachable : Fd := ⟨["rule", "screen"], n_reachable, false, b_reachable⟩
def n_way_to : List Str := ["rule", "screen", "stand"]
def mu_way_to : List Str := []
def b_way_to : List S := [.ex (.call i_look_at [(.v 0), (.v 1)]), .ex (.call i_look_at_stand [(.v 1), (.v 2)]), .ret (.get (.call i_ways_by [(.v 0), (.v 1)]) (.v 2))]
def fd_way_to : Fd := ⟨["rule", "screen", "stand"], n_way_to, false, b_way_to⟩
def n_tops_of : List Str := ["rule", "screen", "stand", "other"]
def mu_tops_of : List Str := []
def b_tops_of : List S := [.rse]
def fd_tops_of : Fd := ⟨["rule", "screen", "stand"], n_tops_of, false, b_tops_of⟩
def n_L_ways : List Str := ["rule", "screen", "first", "found", "row", "at", "stand", "event", "later"]
def mu_L_ways : List Str := ["found", "row"]
def b_L_ways : List S := [.asg 2 (.e (.tup [(.tup []), (.c (.int 0)), (.neg (.c (.int 1)))])), .par [3, 4, 5] [(.dct [((.v 2), (.tup []))]), (.lst [(.v 2)]), (.e (.c (.int 0)))], .whl fuelW (.cmp .lt (.v 5) (.lenO 4)) [.asg 6 (.e (.idxO 4 (.v 5))), .asg 5 (.e (.bin .add (.v 5) (.c (.int 1)))), .for_ (.nm 7) (.val (.call i_L_events [(.v 1), (.idx (.v 6) (.c (.int 0)))])) [.asg 8 (.e (.call i_L_after [(.v 0), (.v 1), (.v 6), (.v 7)])), .iff (.inO (.v 8) 3 true) [.seti 3 (.v 8) (.bin .add (.idxO 3 (.v 6)) (.tup [(.v 7)])), .app 4 (.v 8)] []]], .ret (.v 3)]
def fd_L_ways : Fd := ⟨["rule", "screen"], n_L_ways, false, b_L_ways⟩
def n_tops_by_hand : List Str := ["screen", "stand", "limit", "step", "found", "waiting", "top", "other"]
def mu_tops_by_hand : List Str := ["found", "waiting"]
def b_tops_by_hand : List S := [.par [2, 3] [(.e (.call i_limit_of [(.v 0), (.idx (.v 1) (.c (.int 0)))])), (.e (.idx (.v 0) (.c (.int 1))))], .par [4, 5] [(.lst [(.idx (.v 1) (.c (.int 1)))]), (.lst [(.idx (.v 1) (.c (.int 1)))])], .whl fuelW (.nilO 5 true) [.pop 6 5, .for_ (.nm 7) (.val (.tup [(.f2 .min (.v 2) (.bin .add (.v 6) (.v 3))), (.f2 .max (.c (.int 0)) (.bin .sub (.v 6) (.v 3)))])) [.iff (.inO (.v 7) 4 true) [.app 4 (.v 7), .app 5 (.v 7)] []]], .ret (.f1 .sorted (.v 4))]
def fd_tops_by_hand : Fd := ⟨["screen", "stand"], n_tops_by_hand, false, b_tops_by_hand⟩
def n_by_hand : List Str := ["screen", "stand"]
def mu_by_hand : List Str := []
def b_by_hand : List S := [.ex (.call i_look_at_screen [(.v 0)]), .ex (.call i_look_at_stand [(.v 0), (.v 1)]), .ret (.call i_tops_by_hand [(.v 0), (.v 1)])]
def fd_by_hand : Fd := ⟨["screen", "stand"], n_by_hand, false, b_by_hand⟩
def n_hidden : List Str := ["screen", "stand", "rows", "tops", "found", "index", "high", "begin", "top"]
def mu_hidden : List Str := ["found"]
def b_hidden : List S := [.ex (.call i_look_at_screen [(.v 0)]), .ex (.call i_look_at_stand [(.v 0), (.v 1)]), .par [2, 3] [(.e (.idx (.v 1) (.c (.int 0)))), (.e (.call i_tops_by_hand [(.v 0), (.v 1)]))], .asg 4 (.lst []), .for_ (.tp [(.nm 5), (.nm 6)]) (.enum (.v 2)) [.asg 7 (.e (.call i_begin_of [(.v 2), (.v 5)])), .iff (.nt (.f1 .any (.comp [8] (.and (.cmp .le (.v 8) (.v 7)) (.cmp .le (.bin .add (.v 7) (.v 6)) (.bin .add (.v 8) (.idx (.v 0) (.c (.int 0)))))) (.nm 8) (.val (.v 3)) []))) [.app 4 (.v 5)] []], .ret (.v 4)]
def fd_hidden : Fd := ⟨["screen", "stand"], n_hidden, false, b_hidden⟩
def n_all_jumps : List Str := ["rule", "screen", "place", "found", "stand", "history", "change", "later"]
def mu_all_jumps : List Str := ["found"]
def b_all_jumps : List S := [.asg 3 (.lst []), .for_ (.tp [(.nm 4), (.nm 5)]) (.items (.call i_ways_by [(.v 0), (.v 1)])) [.for_ (.nm 6) (.val (.f1 .sorted (.call i_changes_at [(.v 1), (.idx (.v 4) (.c (.int 0)))]))) [.iff (.or (.cmp .is (.v 2) (.c .none)) (.cmp .eq (.call i_place_at [(.v 1), (.v 4), (.v 6)]) (.v 2))) [.asg 7 (.e (.call i_changed [(.v 0), (.v 1), (.v 4), (.v 6)])), .app 3 (.tup [(.v 5), (.v 6), (.call i_jump_between [(.v 1), (.v 4), (.v 6), (.v 7)])])] []]], .ret (.v 3)]
def fd_all_jumps : Fd := ⟨["rule", "screen", "place"], n_all_jumps, false, b_all_jumps⟩
def n_look_at_all : List Str := ["rule", "screen", "place"]
def mu_look_at_all : List Str := []
def b_look_at_all : List S := [.ex (.call i_look_at [(.v 0), (.v 1)]), .iff (.and (.cmp .isn (.v 2) (.c .none)) (.nt (.call i_is_one_of [(.v 2), (.g 7)]))) [.rse] []]
def fd_look_at_all : Fd := ⟨["rule", "screen", "place"], n_look_at_all, false, b_look_at_all⟩
def n_greatest_jump : List Str := ["rule", "screen", "place", "history", "change", "jump"]
def mu_greatest_jump : List Str := []
def b_greatest_jump : List S := [.ex (.call i_look_at_all [(.v 0), (.v 1), (.v 2)]), .ret (.f1 .max (.bin .add (.lst [(.c (.int 0))]) (.comp [3, 4, 5] (.v 5) (.tp [(.nm 3), (.nm 4), (.nm 5)]) (.val (.call i_all_jumps [(.v 0), (.v 1), (.v 2)])) [])))]
def fd_greatest_jump : Fd := ⟨["rule", "screen", "place"], n_greatest_jump, false, b_greatest_jump⟩
def n_worst_history : List Str := ["rule", "screen", "place", "rows", "most", "history", "change", "jump"]
def mu_worst_history : List Str := []
def b_worst_history : List S := [.ex (.call i_look_at_all [(.v 0), (.v 1), (.v 2)]), .asg 3 (.e (.call i_all_jumps [(.v 0), (.v 1), (.v 2)])), .asg 4 (.e (.f1 .max (.bin .add (.lst [(.c (.int 0))]) (.comp [5, 6, 7] (.v 7) (.tp [(.nm 5), (.nm 6), (.nm 7)]) (.val (.v 3)) [])))), .iff (.cmp .eq (.v 4) (.c (.int 0))) [.ret (.c .none)] [], .ret (.idx (.comp [5, 6, 7] (.bin .add (.v 5) (.tup [(.v 6)])) (.tp [(.nm 5), (.nm 6), (.nm 7)]) (.val (.v 3)) [(.cmp .eq (.v 7) (.v 4))]) (.c (.int 0)))]
def fd_worst_history : Fd := ⟨["rule", "screen", "place"], n_worst_history, false, b_worst_history⟩
def n_L_rows : List Str := ["rule", "screen", "found", "stand", "history", "change", "jump"]
def mu_L_rows : List Str := ["found"]
def b_L_rows : List S := [.asg 2 (.lst []), .for_ (.tp [(.nm 3), (.nm 4)]) (.items (.call i_L_ways [(.v 0), (.v 1)])) [.for_ (.nm 5) (.val (.call i_L_changes [(.v 1), (.idx (.v 3) (.c (.int 0)))])) [.asg 6 (.e (.call i_L_jump [(.v 1), (.v 3), (.v 5), (.call i_L_after [(.v 0), (.v 1), (.v 3), (.v 5)])])), .app 2 (.tup [(.call i_L_place [(.v 1), (.v 3), (.v 5)]), (.v 6), (.bin .add (.v 4) (.tup [(.v 5)]))])]], .ret (.v 2)]
def fd_L_rows : Fd := ⟨["rule", "screen"], n_L_rows, false, b_L_rows⟩
def n_look_at_wish : List Str := ["wish"]
def mu_look_at_wish : List Str := []
def b_look_at_wish : List S := [.iff (.nt (.call i_is_one_of [(.v 0), (.g 9)])) [.rse] []]
def fd_look_at_wish : Fd := ⟨["wish"], n_look_at_wish, false, b_look_at_wish⟩
def n_breaks_held : List Str := ["screen", "stand", "change", "later", "wish", "old", "there", "new"]
def mu_breaks_held : List Str := []
def b_breaks_held : List S := [.rse]
def fd_breaks_held : Fd := ⟨["screen", "stand", "change", "later", "wish"], n_breaks_held, false, b_breaks_held⟩
def n_breaks : List Str := ["screen", "stand", "change", "later", "wish"]
def mu_breaks : List Str := []
def b_breaks : List S := [.iff (.cmp .inn (.v 4) (.g 8)) [.iff (.cmp .ne (.bin .add (.call i_place_at [(.v 0), (.v 1), (.v 2)]) (.c (.str " still"))) (.v 4)) [.ret (.c (.bool false))] [], .ret (.cmp .gt (.call i_jump_between [(.v 0), (.v 1), (.v 2), (.v 3)]) (.c (.int 0)))] [], .iff (.cmp .eq (.v 4) (.c (.str "begin kept"))) [.ret (.and (.cmp .eq (.idx (.v 1) (.c (.int 1))) (.c (.int 0))) (.cmp .ne (.idx (.v 3) (.c (.int 1))) (.c (.int 0))))] [], .iff (.cmp .eq (.v 4) (.c (.str "end kept"))) [.ret (.and (.cmp .eq (.idx (.v 1) (.c (.int 1))) (.call i_limit_of [(.v 0), (.idx (.v 1) (.c (.int 0)))])) (.cmp .ne (.idx (.v 3) (.c (.int 1))) (.call i_limit_of [(.v 0), (.idx (.v 3) (.c (.int 0)))])))] [], .ret (.call i_breaks_held [(.v 0), (.v 1), (.v 2), (.v 3), (.v 4)])]
def fd_breaks : Fd := ⟨["screen", "stand", "change", "later", "wish"], n_breaks, false, b_breaks⟩
def n_breaking_by : List Str := ["rule", "screen", "wishes", "stand", "history", "change", "later", "wish"]
def mu_breaking_by : List Str := []
def b_breaking_by : List S := [.for_ (.tp [(.nm 3), (.nm 4)]) (.items (.call i_ways_by [(.v 0), (.v 1)])) [.for_ (.nm 5) (.val (.f1 .sorted (.call i_changes_at [(.v 1), (.idx (.v 3) (.c (.int 0)))]))) [.asg 6 (.e (.call i_changed [(.v 0), (.v 1), (.v 3), (.v 5)])), .iff (.f1 .any (.comp [7] (.call i_breaks [(.v 1), (.v 3), (.v 5), (.v 6), (.v 7)]) (.nm 7) (.val (.v 2)) [])) [.ret (.bin .add (.v 4) (.tup [(.v 5)]))] []]], .ret (.c .none)]
def fd_breaking_by : Fd := ⟨["rule", "screen", "wishes"], n_breaking_by, false, b_breaking_by⟩
def n_keeps : List Str := ["rule", "screen", "wish"]
def mu_keeps : List Str := []
def b_keeps : List S := [.ex (.call i_look_at [(.v 0), (.v 1)]), .ex (.call i_look_at_wish [(.v 2)]), .ret (.cmp .is (.call i_breaking_by [(.v 0), (.v 1), (.lst [(.v 2)])]) (.c .none))]
def fd_keeps : Fd := ⟨["rule", "screen", "wish"], n_keeps, false, b_keeps⟩
def n_breaking : List Str := ["rule", "screen", "wish"]
def mu_breaking : List Str := []
def b_breaking : List S := [.ex (.call i_look_at [(.v 0), (.v 1)]), .ex (.call i_look_at_wish [(.v 2)]), .ret (.call i_breaking_by [(.v 0), (.v 1), (.lst [(.v 2)])])]
def fd_breaking : Fd := ⟨["rule", "screen", "wish"], n_breaking, false, b_breaking⟩
def n_L_wishes : List Str := []
def mu_L_wishes : List Str := []
def b_L_wishes : List S := [.ret (.lst [(.c (.str "above still")), (.c (.str "below still")), (.c (.str "within still")), (.c (.str "begin kept")), (.c (.str "end kept")), (.c (.str "held seen")), (.c (.str "held still"))])]
def fd_L_wishes : Fd := ⟨[], n_L_wishes, false, b_L_wishes⟩
def n_L_breaks : List Str := ["screen", "stand", "change", "later", "wish", "here", "ahead", "there"]
def mu_L_breaks : List Str := []
def b_L_breaks : List S := [.iff (.and (.cmp .eq (.slc (.v 4) (some (.neg (.c (.int 5)))) none) (.c (.str "still"))) (.cmp .ne (.slc (.v 4) none (some (.c (.int 4)))) (.c (.str "held")))) [.asg 5 (.e (.cmp .eq (.call i_L_place [(.v 0), (.v 1), (.v 2)]) (.slc (.v 4) none (some (.neg (.c (.int 6))))))), .ret (.and (.v 5) (.cmp .gt (.call i_L_jump [(.v 0), (.v 1), (.v 2), (.v 3)]) (.c (.int 0))))] [], .iff (.cmp .eq (.v 4) (.c (.str "begin kept"))) [.ret (.and (.cmp .eq (.idx (.v 1) (.c (.int 1))) (.c (.int 0))) (.cmp .gt (.idx (.v 3) (.c (.int 1))) (.c (.int 0))))] [], .iff (.cmp .eq (.v 4) (.c (.str "end kept"))) [.ret (.and (.cmp .eq (.idx (.v 1) (.c (.int 1))) (.call i_L_limit [(.v 0), (.idx (.v 1) (.c (.int 0)))])) (.cmp .ne (.idx (.v 3) (.c (.int 1))) (.call i_L_limit [(.v 0), (.idx (.v 3) (.c (.int 0)))])))] [], .par [6, 7] [(.e (.call i_L_seen [(.v 0), (.idx (.v 1) (.c (.int 0))), (.idx (.v 1) (.c (.int 1)))])), (.e (.call i_L_seen [(.v 0), (.idx (.v 3) (.c (.int 0))), (.idx (.v 3) (.c (.int 1)))]))], .iff (.or (.cmp .nin (.idx (.v 1) (.c (.int 2))) (.v 6)) (.cmp .lt (.idx (.v 3) (.c (.int 2))) (.c (.int 0)))) [.ret (.c (.bool false))] [], .iff (.cmp .eq (.v 4) (.c (.str "held seen"))) [.ret (.cmp .nin (.idx (.v 3) (.c (.int 2))) (.v 7))] [], .ret (.cmp .ne (.get (.v 7) (.idx (.v 3) (.c (.int 2)))) (.idx (.v 6) (.idx (.v 1) (.c (.int 2)))))]
def fd_L_breaks : Fd := ⟨["screen", "stand", "change", "later", "wish"], n_L_breaks, false, b_L_breaks⟩
def n_L_broken : List Str := ["rule", "screen", "wishes", "stand", "history", "change", "later", "wish"]
def mu_L_broken : List Str := []
def b_L_broken : List S := [.for_ (.tp [(.nm 3), (.nm 4)]) (.items (.call i_L_ways [(.v 0), (.v 1)])) [.for_ (.nm 5) (.val (.call i_L_changes [(.v 1), (.idx (.v 3) (.c (.int 0)))])) [.asg 6 (.e (.call i_L_after [(.v 0), (.v 1), (.v 3), (.v 5)])), .iff (.cmp .ne (.comp [7] (.v 7) (.nm 7) (.val (.v 2)) [(.call i_L_breaks [(.v 1), (.v 3), (.v 5), (.v 6), (.v 7)])]) (.lst [])) [.ret (.bin .add (.v 4) (.tup [(.v 5)]))] []]], .ret (.c .none)]
def fd_L_broken : Fd := ⟨["rule", "screen", "wishes"], n_L_broken, false, b_L_broken⟩
def n_L_first_k10 : List Str := ["rule", "screen", "history", "wish", "stand", "at", "event", "later"]
def mu_L_first_k10 : List Str := []
def b_L_first_k10 : List S := [.asg 4 (.e (.tup [(.tup []), (.c (.int 0)), (.neg (.c (.int 1)))])), .for_ (.tp [(.nm 5), (.nm 6)]) (.enum (.v 2)) [.asg 7 (.e (.call i_L_after [(.v 0), (.v 1), (.v 4), (.v 6)])), .iff (.and (.cmp .inn (.idx (.v 6) (.c (.int 0))) (.lst [(.c (.str "put")), (.c (.str "size")), (.c (.str "take"))])) (.call i_L_breaks [(.v 1), (.v 4), (.v 6), (.v 7), (.v 3)])) [.ret (.v 5)] [], .asg 4 (.e (.v 7))], .ret (.c .none)]
def fd_L_first_k10 : Fd := ⟨["rule", "screen", "history", "wish"], n_L_first_k10, false, b_L_first_k10⟩
def n_parts_of : List Str := ["many", "rows", "index", "size", "row"]
def mu_parts_of : List Str := []
def b_parts_of : List S := [.asg 1 (.e (.lst [(.tup [])])), .for_ (.nm 2) (.rng (.v 0)) [.asg 1 (.e (.bin .add (.v 1) (.comp [4] (.bin .add (.v 4) (.tup [(.v 2)])) (.nm 4) (.val (.v 1)) [])))], .ret (.comp [3, 4] (.v 4) (.tp [(.nm 3), (.nm 4)]) (.val (.f1 .sorted (.comp [4] (.tup [(.f1 .len (.v 4)), (.v 4)]) (.nm 4) (.val (.v 1)) []))) [])]
def fd_parts_of : Fd := ⟨["many"], n_parts_of, false, b_parts_of⟩
def n_fewest_clauses : List Str := ["rule", "screen", "wishes", "wish", "row", "index"]
def mu_fewest_clauses : List Str := []
def b_fewest_clauses : List S := [.ex (.call i_look_at [(.v 0), (.v 1)]), .iff (.or (.nt (.isi (.v 2) [.tup])) (.cmp .gt (.f1 .len (.v 2)) (.g 10))) [.rse] [], .for_ (.nm 3) (.val (.v 2)) [.ex (.call i_look_at_wish [(.v 3)])], .for_ (.nm 4) (.val (.call i_parts_of [(.f1 .len (.v 0))])) [.iff (.cmp .is (.call i_breaking_by [(.f1 .tuple (.comp [5] (.idx (.v 0) (.v 5)) (.nm 5) (.val (.v 4)) [])), (.v 1), (.v 2)]) (.c .none)) [.ret (.v 4)] []], .ret (.c .none)]
def fd_fewest_clauses : Fd := ⟨["rule", "screen", "wishes"], n_fewest_clauses, false, b_fewest_clauses⟩
def n_L_parts : List Str := ["many", "rows", "found", "index", "size", "row"]
def mu_L_parts : List Str := []
def b_L_parts : List S := [.par [1, 2] [(.e (.lst [(.tup [])])), (.e (.lst []))], .for_ (.nm 3) (.rng (.v 0)) [.asg 1 (.e (.bin .add (.v 1) (.comp [5] (.bin .add (.v 5) (.tup [(.v 3)])) (.nm 5) (.val (.v 1)) [])))], .for_ (.nm 4) (.rng (.bin .add (.v 0) (.c (.int 1)))) [.asg 2 (.e (.bin .add (.v 2) (.f1 .sorted (.comp [5] (.v 5) (.nm 5) (.val (.v 1)) [(.cmp .eq (.f1 .len (.v 5)) (.v 4))]))))], .ret (.v 2)]
def fd_L_parts : Fd := ⟨["many"], n_L_parts, false, b_L_parts⟩
def n_parting_by : List Str := ["one", "other", "screen", "stand", "history", "change"]
def mu_parting_by : List Str := []
def b_parting_by : List S := [.for_ (.tp [(.nm 3), (.nm 4)]) (.items (.call i_ways_by [(.v 0), (.v 2)])) [.for_ (.nm 5) (.val (.f1 .sorted (.call i_changes_at [(.v 2), (.idx (.v 3) (.c (.int 0)))]))) [.iff (.cmp .ne (.call i_changed [(.v 0), (.v 2), (.v 3), (.v 5)]) (.call i_changed [(.v 1), (.v 2), (.v 3), (.v 5)])) [.ret (.bin .add (.v 4) (.tup [(.v 5)]))] []]], .ret (.c .none)]
def fd_parting_by : Fd := ⟨["one", "other", "screen"], n_parting_by, false, b_parting_by⟩
def n_parting : List Str := ["one", "other", "screen"]
def mu_parting : List Str := []
def b_parting : List S := [.ex (.call i_look_at_rule [(.v 0)]), .ex (.call i_look_at_rule [(.v 1)]), .ex (.call i_look_at_screen [(.v 2)]), .ret (.call i_parting_by [(.v 0), (.v 1), (.v 2)])]
def fd_parting : Fd := ⟨["one", "other", "screen"], n_parting, false, b_parting⟩
def n_L_other : List Str := ["bag", "rule", "way", "at"]
def mu_L_other : List Str := ["bag"]
def b_L_other : List S := [.par [2, 3] [(.e (.callB i_L_take 0 [(.c (.int 5))])), (.e (.callB i_L_take 0 [(.bin .add (.f1 .len (.v 1)) (.c (.int 1)))]))], .iff (.cmp .eq (.v 2) (.c (.int 0))) [.ret (.callB i_L_rule 0 [(.c (.int 5))])] [], .iff (.cmp .eq (.v 2) (.c (.int 1))) [.ret (.bin .add (.slc (.v 1) none (some (.v 3))) (.slc (.v 1) (some (.bin .add (.v 3) (.c (.int 1)))) none))] [], .iff (.cmp .eq (.v 2) (.c (.int 2))) [.ret (.bin .add (.bin .add (.slc (.v 1) none (some (.v 3))) (.tup [(.callB i_L_clause 0 [])])) (.slc (.v 1) (some (.bin .add (.v 3) (.c (.int 1)))) none))] [], .ret (.slc (.bin .add (.bin .add (.slc (.v 1) none (some (.v 3))) (.tup [(.callB i_L_clause 0 [])])) (.slc (.v 1) (some (.v 3)) none)) none (some (.c (.int 8))))]
def fd_L_other : Fd := ⟨["bag", "rule"], n_L_other, true, b_L_other⟩
def n_L_apart : List Str := ["one", "other", "screen", "stand", "history", "change"]
def mu_L_apart : List Str := []
def b_L_apart : List S := [.for_ (.tp [(.nm 3), (.nm 4)]) (.items (.call i_L_ways [(.v 0), (.v 2)])) [.for_ (.nm 5) (.val (.call i_L_changes [(.v 2), (.idx (.v 3) (.c (.int 0)))])) [.iff (.cmp .ne (.call i_L_after [(.v 0), (.v 2), (.v 3), (.v 5)]) (.call i_L_after [(.v 1), (.v 2), (.v 3), (.v 5)])) [.ret (.bin .add (.v 4) (.tup [(.v 5)]))] []]], .ret (.c .none)]
def fd_L_apart : Fd := ⟨["one", "other", "screen"], n_L_apart, false, b_L_apart⟩
def n_L_end : List Str := ["rule", "screen", "history", "stand", "event"]
def mu_L_end : List Str := []
def b_L_end : List S := [.asg 3 (.e (.tup [(.tup []), (.c (.int 0)), (.neg (.c (.int 1)))])), .for_ (.nm 4) (.val (.v 2)) [.asg 3 (.e (.call i_L_after [(.v 0), (.v 1), (.v 3), (.v 4)]))], .ret (.v 3)]
def fd_L_end : Fd := ⟨["rule", "screen", "history"], n_L_end, false, b_L_end⟩
def n_needless : List Str := ["rule", "screen", "found", "index"]
def mu_needless : List Str := ["found"]
def b_needless : List S := [.ex (.call i_look_at [(.v 0), (.v 1)]), .asg 2 (.lst []), .for_ (.nm 3) (.rng (.f1 .len (.v 0))) [.iff (.cmp .is (.call i_parting_by [(.v 0), (.bin .add (.slc (.v 0) none (some (.v 3))) (.slc (.v 0) (some (.bin .add (.v 3) (.c (.int 1)))) none)), (.v 1)]) (.c .none)) [.app 2 (.v 3)] []], .ret (.v 2)]
def fd_needless : Fd := ⟨["rule", "screen"], n_needless, false, b_needless⟩
def n_unused : List Str := ["rule", "screen", "used", "stand", "change", "index"]
def mu_unused : List Str := ["used"]
def b_unused : List S := [.ex (.call i_look_at [(.v 0), (.v 1)]), .asg 2 (.dct []), .for_ (.nm 3) (.val (.call i_ways_by [(.v 0), (.v 1)])) [.for_ (.nm 4) (.val (.call i_changes_at [(.v 1), (.idx (.v 3) (.c (.int 0)))])) [.seti 2 (.call i_deciding [(.v 0), (.v 1), (.v 3), (.v 4)]) (.c (.bool true))]], .ret (.comp [5] (.v 5) (.nm 5) (.rng (.f1 .len (.v 0))) [(.inO (.v 5) 2 true)])]
def fd_unused : Fd := ⟨["rule", "screen"], n_unused, false, b_unused⟩
def n_L_first_k15 : List Str := ["rule", "screen", "stand", "change", "index", "clause", "test"]
def mu_L_first_k15 : List Str := []
def b_L_first_k15 : List S := [.for_ (.tp [(.nm 4), (.nm 5)]) (.enum (.v 0)) [.iff (.cmp .eq (.comp [6] (.v 6) (.nm 6) (.val (.idx (.v 5) (.c (.int 0)))) [(.nt (.call i_L_holds [(.v 6), (.v 1), (.v 2), (.v 3)]))]) (.lst [])) [.ret (.v 4)] []], .ret (.c .none)]
def fd_L_first_k15 : Fd := ⟨["rule", "screen", "stand", "change"], n_L_first_k15, false, b_L_first_k15⟩
def n_contrary : List Str := ["rows", "change"]
def mu_contrary : List Str := []
def b_contrary : List S := [.iff (.cmp .eq (.idx (.v 1) (.c (.int 0))) (.c (.str "put"))) [.ret (.tup [(.c (.str "take")), (.idx (.v 1) (.c (.int 1)))])] [], .ret (.ife (.cmp .eq (.idx (.v 1) (.c (.int 0))) (.c (.str "size"))) (.tup [(.c (.str "size")), (.idx (.v 1) (.c (.int 1))), (.idx (.v 0) (.idx (.v 1) (.c (.int 1))))]) (.c .none))]
def fd_contrary : Fd := ⟨["rows", "change"], n_contrary, false, b_contrary⟩
def n_lost_place : List Str := ["rule", "screen", "stand", "history", "change", "back", "later"]
def mu_lost_place : List Str := []
def b_lost_place : List S := [.ex (.call i_look_at [(.v 0), (.v 1)]), .for_ (.tp [(.nm 2), (.nm 3)]) (.items (.call i_ways_by [(.v 0), (.v 1)])) [.for_ (.nm 4) (.val (.f1 .sorted (.call i_changes_at [(.v 1), (.idx (.v 2) (.c (.int 0)))]))) [.asg 5 (.e (.call i_contrary [(.idx (.v 2) (.c (.int 0))), (.v 4)])), .iff (.cmp .isn (.v 5) (.c .none)) [.asg 6 (.e (.call i_changed [(.v 0), (.v 1), (.call i_changed [(.v 0), (.v 1), (.v 2), (.v 4)]), (.v 5)])), .iff (.cmp .ne (.v 6) (.v 2)) [.ret (.bin .add (.v 3) (.tup [(.v 4), (.v 5)]))] []] []]], .ret (.c .none)]
def fd_lost_place : Fd := ⟨["rule", "screen"], n_lost_place, false, b_lost_place⟩
def n_L_back : List Str := ["stand", "change"]
def mu_L_back : List Str := []
def b_L_back : List S := [.iff (.cmp .eq (.idx (.v 1) (.c (.int 0))) (.c (.str "take"))) [.ret (.c .none)] [], .ret (.ife (.cmp .eq (.idx (.v 1) (.c (.int 0))) (.c (.str "put"))) (.tup [(.c (.str "take")), (.idx (.v 1) (.c (.int 1)))]) (.tup [(.c (.str "size")), (.idx (.v 1) (.c (.int 1))), (.idx (.idx (.v 0) (.c (.int 0))) (.idx (.v 1) (.c (.int 1))))]))]
def fd_L_back : Fd := ⟨["stand", "change"], n_L_back, false, b_L_back⟩
def n_L_both : List Str := ["rule", "screen", "stand", "change"]
def mu_L_both : List Str := []
def b_L_both : List S := [.ret (.call i_L_after [(.v 0), (.v 1), (.call i_L_after [(.v 0), (.v 1), (.v 2), (.v 3)]), (.call i_L_back [(.v 2), (.v 3)])])]
def fd_L_both : Fd := ⟨["rule", "screen", "stand", "change"], n_L_both, false, b_L_both⟩
def n_L_lost : List Str := ["rule", "screen", "stand", "history", "change"]
def mu_L_lost : List Str := []
def b_L_lost : List S := [.for_ (.tp [(.nm 2), (.nm 3)]) (.items (.call i_L_ways [(.v 0), (.v 1)])) [.for_ (.nm 4) (.val (.call i_L_changes [(.v 1), (.idx (.v 2) (.c (.int 0)))])) [.iff (.and (.cmp .ne (.idx (.v 4) (.c (.int 0))) (.c (.str "take"))) (.cmp .ne (.call i_L_both [(.v 0), (.v 1), (.v 2), (.v 4)]) (.v 2))) [.ret (.bin .add (.v 3) (.tup [(.v 4), (.call i_L_back [(.v 2), (.v 4)])]))] []]], .ret (.c .none)]
def fd_L_lost : Fd := ⟨["rule", "screen"], n_L_lost, false, b_L_lost⟩
def n_sights_by : List Str := ["rule", "screen", "history", "stand"]
def mu_sights_by : List Str := []
def b_sights_by : List S := [.ret (.f1 .tuple (.comp [3] (.call i_seen_at [(.v 1), (.idx (.v 3) (.c (.int 0))), (.idx (.v 3) (.c (.int 1)))]) (.nm 3) (.val (.call i_played [(.v 0), (.v 1), (.g 6), (.v 2)])) []))]
def fd_sights_by : Fd := ⟨["rule", "screen", "history"], n_sights_by, false, b_sights_by⟩
def n_sights_of : List Str := ["rule", "screen", "history"]
def mu_sights_of : List Str := []
def b_sights_of : List S := [.ex (.call i_look_at_rule [(.v 0)]), .ex (.call i_look_at_screen [(.v 1)]), .ex (.call i_look_at_history [(.v 1), (.v 2)]), .ret (.call i_sights_by [(.v 0), (.v 1), (.v 2)])]
def fd_sights_of : Fd := ⟨["rule", "screen", "history"], n_sights_of, false, b_sights_of⟩
def n_is_pair : List Str := ["value", "part"]
def mu_is_pair : List Str := []
def b_is_pair : List S := [.iff (.or (.nt (.isi (.v 0) [.tup])) (.cmp .ne (.f1 .len (.v 0)) (.c (.int 2)))) [.ret (.c (.bool false))] [], .ret (.f1 .all (.comp [1] (.and (.isi (.v 1) [.int]) (.nt (.isi (.v 1) [.bool]))) (.nm 1) (.val (.v 0)) []))]
def fd_is_pair : Fd := ⟨["value"], n_is_pair, false, b_is_pair⟩
def n_is_sight : List Str := ["value", "pair"]
def mu_is_sight : List Str := []
def b_is_sight : List S := [.ret (.and (.isi (.v 0) [.tup]) (.and (.cmp .le (.f1 .len (.v 0)) (.c (.int 4))) (.f1 .all (.comp [1] (.call i_is_pair [(.v 1)]) (.nm 1) (.val (.v 0)) []))))]
def fd_is_sight : Fd := ⟨["value"], n_is_sight, false, b_is_sight⟩
def n_fitting : List Str := ["screen", "history", "sights", "candidates", "index", "one"]
def mu_fitting : List Str := []
def b_fitting : List S := [.ex (.call i_look_at_screen [(.v 0)]), .ex (.call i_look_at_history [(.v 0), (.v 1)]), .iff (.or (.nt (.isi (.v 2) [.tup])) (.or (.cmp .ne (.f1 .len (.v 2)) (.f1 .len (.v 1))) (.nt (.f1 .all (.comp [5] (.call i_is_sight [(.v 5)]) (.nm 5) (.val (.v 2)) []))))) [.rse] [], .iff (.or (.nt (.isi (.v 3) [.tup])) (.nt (.ch .le .le (.c (.int 1)) (.f1 .len (.v 3)) (.c (.int 4))))) [.rse] [], .iff (.nt (.f1 .all (.comp [5] (.call i_is_rule [(.v 5)]) (.nm 5) (.val (.v 3)) []))) [.rse] [], .ret (.comp [4, 5] (.v 4) (.tp [(.nm 4), (.nm 5)]) (.enum (.v 3)) [(.cmp .eq (.call i_sights_by [(.v 5), (.v 0), (.v 1)]) (.v 2))])]
def fd_fitting : Fd := ⟨["screen", "history", "sights", "candidates"], n_fitting, false, b_fitting⟩
def n_L_sights : List Str := ["rule", "screen", "history", "stand", "found", "event"]
def mu_L_sights : List Str := []
def b_L_sights : List S := [.rse]
def fd_L_sights : Fd := ⟨["rule", "screen", "history"], n_L_sights, false, b_L_sights⟩
def tb : Tb where
  nm := fun _ => ""
  fn := fun k => ([fd_is_within, fd_power, fd_is_screen, fd_is_one_of, fd_is_test, fd_is_clause, fd_is_rule, fd_L_well, fd_L_take, fd_L_same, fd_L_tests, fd_L_deeds, fd_L_test, fd_L_clause, fd_L_known, fd_L_rule, fd_L_screen, fd_L_whole, fd_L_is_screen, fd_L_is_clause, fd_L_is_rule, fd_L_odd_k01, fd_look_at_screen, fd_limit_of, fd_are_rows, fd_fits, fd_is_stand, fd_look_at_stand, fd_changes_at, fd_all_events, fd_is_like, fd_rows_behind, fd_goes, fd_fits_history, fd_is_history, fd_events_at, fd_L_limit, fd_L_changes, fd_L_events, fd_L_moved, fd_L_history, fd_L_stand, fd_L_is_stand, fd_L_is_history, fd_L_odd_k02, fd_look_at_change, fd_begin_of, fd_seen_at, fd_place_at, fd_seen, fd_place_of, fd_look_at_rule, fd_facts_of, fd_holds, fd_deciding, fd_deed_by, fd_deed_of, fd_L_seen, fd_L_place, fd_L_holds, fd_L_deed, fd_look_at_event, fd_look_at_history, fd_new_index, fd_kept_top, fd_wished_top, fd_changed, fd_behind, fd_jump_between, fd_played, fd_after, fd_stand_behind, fd_jump_of, fd_L_anchored, fd_L_after, fd_L_jump, fd_ways_by, fd_look_at, fd_reachable, fd_way_to, fd_tops_of, fd_L_ways, fd_tops_by_hand, fd_by_hand, fd_hidden, fd_all_jumps, fd_look_at_all, fd_greatest_jump, fd_worst_history, fd_L_rows, fd_look_at_wish, fd_breaks_held, fd_breaks, fd_breaking_by, fd_keeps, fd_breaking, fd_L_wishes, fd_L_breaks, fd_L_broken, fd_L_first_k10, fd_parts_of, fd_fewest_clauses, fd_L_parts, fd_parting_by, fd_parting, fd_L_other, fd_L_apart, fd_L_end, fd_needless, fd_unused, fd_L_first_k15, fd_contrary, fd_lost_place, fd_L_back, fd_L_both, fd_L_lost, fd_sights_by, fd_sights_of, fd_is_pair, fd_is_sight, fd_fitting, fd_L_sights] : List Fd).getD k ⟨[], [], false, []⟩
  cn := fun _ => ""
  cd := fun k => ([(.tuple [(.str "put"), (.str "size"), (.str "take"), (.str "above"), (.str "below"), (.str "within"), (.str "begin"), (.str "end"), (.str "short"), (.str "cut"), (.str "held")]), (.tuple [(.str "begin"), (.str "end"), (.str "first"), (.str "held"), (.str "last"), (.str "stay")]), (.tuple [(.tuple [(.tuple [(.str "above")]), (.str "first")])]), (.tuple [(.tuple [(.tuple [(.str "end"), (.str "no short")]), (.str "end")]), (.tuple [(.tuple [(.str "held")]), (.str "held")]), (.tuple [(.tuple []), (.str "first")])]), (.int 8), (.int 60), (.tuple [(.tuple []), (.int 0), (.int (-1))]), (.tuple [(.str "above"), (.str "below"), (.str "within")]), (.tuple [(.str "above still"), (.str "below still"), (.str "within still")]), (.tuple [(.str "above still"), (.str "below still"), (.str "within still"), (.str "begin kept"), (.str "end kept"), (.str "held seen"), (.str "held still")]), (.int 7)] : List D).getD k .none
theorem g_TESTS : tb.cd 0 = (.tuple [(.str "put"), (.str "size"), (.str "take"), (.str "above"), (.str "below"), (.str "within"), (.str "begin"), (.str "end"), (.str "short"), (.str "cut"), (.str "held")]) := rfl
theorem g_DEEDS : tb.cd 1 = (.tuple [(.str "begin"), (.str "end"), (.str "first"), (.str "held"), (.str "last"), (.str "stay")]) := rfl
theorem g_READER : tb.cd 2 = (.tuple [(.tuple [(.tuple [(.str "above")]), (.str "first")])]) := rfl
theorem g_TALK : tb.cd 3 = (.tuple [(.tuple [(.tuple [(.str "end"), (.str "no short")]), (.str "end")]), (.tuple [(.tuple [(.str "held")]), (.str "held")]), (.tuple [(.tuple []), (.str "first")])]) := rfl
theorem g_MOST_CLAUSES : tb.cd 4 = (.int 8) := rfl
theorem g_MOST_EVENTS : tb.cd 5 = (.int 60) := rfl
theorem g_FIRST : tb.cd 6 = (.tuple [(.tuple []), (.int 0), (.int (-1))]) := rfl
theorem g_PLACES : tb.cd 7 = (.tuple [(.str "above"), (.str "below"), (.str "within")]) := rfl
theorem g_STILL : tb.cd 8 = (.tuple [(.str "above still"), (.str "below still"), (.str "within still")]) := rfl
theorem g_WISHES : tb.cd 9 = (.tuple [(.str "above still"), (.str "below still"), (.str "within still"), (.str "begin kept"), (.str "end kept"), (.str "held seen"), (.str "held still")]) := rfl
theorem g_MOST_WISHES : tb.cd 10 = (.int 7) := rfl
theorem q_is_within (n : Nat) (a0 a1 a2 : D) : callF tb (n + 1) i_is_within [a0, a1, a2] = runV (evSs (callF tb n) tb.cd b_is_within [.val a0, .val a1, .val a2]) := call_eqV (t := tb) (f := i_is_within) (n := n) (ps := ["value", "low", "high"]) (N := n_is_within) (body := b_is_within) (args := [a0, a1, a2]) rfl rfl
theorem q_power (n : Nat) (a0 a1 : D) : callF tb (n + 1) i_power [a0, a1] = runV (evSs (callF tb n) tb.cd b_power [.val a0, .val a1, .no, .no]) := call_eqV (t := tb) (f := i_power) (n := n) (ps := ["base", "times"]) (N := n_power) (body := b_power) (args := [a0, a1]) rfl rfl
theorem q_is_screen (n : Nat) (a0 : D) : callF tb (n + 1) i_is_screen [a0] = runV (evSs (callF tb n) tb.cd b_is_screen [.val a0]) := call_eqV (t := tb) (f := i_is_screen) (n := n) (ps := ["value"]) (N := n_is_screen) (body := b_is_screen) (args := [a0]) rfl rfl
theorem q_is_one_of (n : Nat) (a0 a1 : D) : callF tb (n + 1) i_is_one_of [a0, a1] = runV (evSs (callF tb n) tb.cd b_is_one_of [.val a0, .val a1]) := call_eqV (t := tb) (f := i_is_one_of) (n := n) (ps := ["value", "some"]) (N := n_is_one_of) (body := b_is_one_of) (args := [a0, a1]) rfl rfl
theorem q_is_test (n : Nat) (a0 : D) : callF tb (n + 1) i_is_test [a0] = runV (evSs (callF tb n) tb.cd b_is_test [.val a0]) := call_eqV (t := tb) (f := i_is_test) (n := n) (ps := ["value"]) (N := n_is_test) (body := b_is_test) (args := [a0]) rfl rfl
theorem q_is_clause (n : Nat) (a0 : D) : callF tb (n + 1) i_is_clause [a0] = runV (evSs (callF tb n) tb.cd b_is_clause [.val a0, .no]) := call_eqV (t := tb) (f := i_is_clause) (n := n) (ps := ["value"]) (N := n_is_clause) (body := b_is_clause) (args := [a0]) rfl rfl
theorem q_is_rule (n : Nat) (a0 : D) : callF tb (n + 1) i_is_rule [a0] = runV (evSs (callF tb n) tb.cd b_is_rule [.val a0, .no]) := call_eqV (t := tb) (f := i_is_rule) (n := n) (ps := ["value"]) (N := n_is_rule) (body := b_is_rule) (args := [a0]) rfl rfl
theorem q_L_well (n : Nat) (a0 a1 : D) : callF tb (n + 1) i_L_well [a0, a1] = runV (evSs (callF tb n) tb.cd b_L_well [.val a0, .val a1]) := call_eqV (t := tb) (f := i_L_well) (n := n) (ps := ["cell", "turn"]) (N := n_L_well) (body := b_L_well) (args := [a0, a1]) rfl rfl
theorem q_L_take (n : Nat) (a0 a1 : D) : callF tb (n + 1) i_L_take [a0, a1] = runO (evSs (callF tb n) tb.cd b_L_take [.own a0, .val a1, .no, .no, .no]) := call_eqO (t := tb) (f := i_L_take) (n := n) (ps := ["bag", "many"]) (N := n_L_take) (body := b_L_take) (b := a0) (args := [a1]) rfl rfl
theorem q_L_same (n : Nat) (a0 a1 : D) : callF tb (n + 1) i_L_same [a0, a1] = runV (evSs (callF tb n) tb.cd b_L_same [.val a0, .val a1, .no, .no]) := call_eqV (t := tb) (f := i_L_same) (n := n) (ps := ["a", "b"]) (N := n_L_same) (body := b_L_same) (args := [a0, a1]) rfl rfl
theorem q_L_tests (n : Nat) : callF tb (n + 1) i_L_tests [] = runV (evSs (callF tb n) tb.cd b_L_tests []) := call_eqV (t := tb) (f := i_L_tests) (n := n) (ps := []) (N := n_L_tests) (body := b_L_tests) (args := []) rfl rfl
theorem q_L_deeds (n : Nat) : callF tb (n + 1) i_L_deeds [] = runV (evSs (callF tb n) tb.cd b_L_deeds []) := call_eqV (t := tb) (f := i_L_deeds) (n := n) (ps := []) (N := n_L_deeds) (body := b_L_deeds) (args := []) rfl rfl
theorem q_L_test (n : Nat) (a0 : D) : callF tb (n + 1) i_L_test [a0] = runO (evSs (callF tb n) tb.cd b_L_test [.own a0, .no]) := call_eqO (t := tb) (f := i_L_test) (n := n) (ps := ["bag"]) (N := n_L_test) (body := b_L_test) (b := a0) (args := []) rfl rfl
theorem q_L_clause (n : Nat) (a0 : D) : callF tb (n + 1) i_L_clause [a0] = runO (evSs (callF tb n) tb.cd b_L_clause [.own a0, .no, .no, .no]) := call_eqO (t := tb) (f := i_L_clause) (n := n) (ps := ["bag"]) (N := n_L_clause) (body := b_L_clause) (b := a0) (args := []) rfl rfl
theorem q_L_known (n : Nat) (a0 : D) : callF tb (n + 1) i_L_known [a0] = runO (evSs (callF tb n) tb.cd b_L_known [.own a0, .no]) := call_eqO (t := tb) (f := i_L_known) (n := n) (ps := ["bag"]) (N := n_L_known) (body := b_L_known) (b := a0) (args := []) rfl rfl
theorem q_L_rule (n : Nat) (a0 a1 : D) : callF tb (n + 1) i_L_rule [a0, a1] = runO (evSs (callF tb n) tb.cd b_L_rule [.own a0, .val a1, .no, .no, .no, .no]) := call_eqO (t := tb) (f := i_L_rule) (n := n) (ps := ["bag", "most"]) (N := n_L_rule) (body := b_L_rule) (b := a0) (args := [a1]) rfl rfl
theorem q_L_screen (n : Nat) (a0 a1 : D) : callF tb (n + 1) i_L_screen [a0, a1] = runO (evSs (callF tb n) tb.cd b_L_screen [.own a0, .val a1, .no, .no]) := call_eqO (t := tb) (f := i_L_screen) (n := n) (ps := ["bag", "wide"]) (N := n_L_screen) (body := b_L_screen) (b := a0) (args := [a1]) rfl rfl
theorem q_L_whole (n : Nat) (a0 a1 a2 : D) : callF tb (n + 1) i_L_whole [a0, a1, a2] = runV (evSs (callF tb n) tb.cd b_L_whole [.val a0, .val a1, .val a2]) := call_eqV (t := tb) (f := i_L_whole) (n := n) (ps := ["value", "low", "high"]) (N := n_L_whole) (body := b_L_whole) (args := [a0, a1, a2]) rfl rfl
theorem q_L_is_screen (n : Nat) (a0 : D) : callF tb (n + 1) i_L_is_screen [a0] = runV (evSs (callF tb n) tb.cd b_L_is_screen [.val a0, .no, .no]) := call_eqV (t := tb) (f := i_L_is_screen) (n := n) (ps := ["value"]) (N := n_L_is_screen) (body := b_L_is_screen) (args := [a0]) rfl rfl
theorem q_L_is_clause (n : Nat) (a0 : D) : callF tb (n + 1) i_L_is_clause [a0] = runV (evSs (callF tb n) tb.cd b_L_is_clause [.val a0, .no, .no, .no]) := call_eqV (t := tb) (f := i_L_is_clause) (n := n) (ps := ["value"]) (N := n_L_is_clause) (body := b_L_is_clause) (args := [a0]) rfl rfl
theorem q_L_is_rule (n : Nat) (a0 : D) : callF tb (n + 1) i_L_is_rule [a0] = runV (evSs (callF tb n) tb.cd b_L_is_rule [.val a0, .no]) := call_eqV (t := tb) (f := i_L_is_rule) (n := n) (ps := ["value"]) (N := n_L_is_rule) (body := b_L_is_rule) (args := [a0]) rfl rfl
theorem q_L_odd_k01 (n : Nat) (a0 a1 : D) : callF tb (n + 1) i_L_odd_k01 [a0, a1] = runO (evSs (callF tb n) tb.cd b_L_odd_k01 [.own a0, .val a1, .no, .no, .no]) := call_eqO (t := tb) (f := i_L_odd_k01) (n := n) (ps := ["bag", "value"]) (N := n_L_odd_k01) (body := b_L_odd_k01) (b := a0) (args := [a1]) rfl rfl
theorem q_look_at_screen (n : Nat) (a0 : D) : callF tb (n + 1) i_look_at_screen [a0] = runV (evSs (callF tb n) tb.cd b_look_at_screen [.val a0]) := call_eqV (t := tb) (f := i_look_at_screen) (n := n) (ps := ["screen"]) (N := n_look_at_screen) (body := b_look_at_screen) (args := [a0]) rfl rfl
theorem q_limit_of (n : Nat) (a0 a1 : D) : callF tb (n + 1) i_limit_of [a0, a1] = runV (evSs (callF tb n) tb.cd b_limit_of [.val a0, .val a1]) := call_eqV (t := tb) (f := i_limit_of) (n := n) (ps := ["screen", "rows"]) (N := n_limit_of) (body := b_limit_of) (args := [a0, a1]) rfl rfl
theorem q_are_rows (n : Nat) (a0 a1 : D) : callF tb (n + 1) i_are_rows [a0, a1] = runV (evSs (callF tb n) tb.cd b_are_rows [.val a0, .val a1, .no]) := call_eqV (t := tb) (f := i_are_rows) (n := n) (ps := ["screen", "value"]) (N := n_are_rows) (body := b_are_rows) (args := [a0, a1]) rfl rfl
theorem q_fits (n : Nat) (a0 a1 : D) : callF tb (n + 1) i_fits [a0, a1] = runV (evSs (callF tb n) tb.cd b_fits [.val a0, .val a1]) := call_eqV (t := tb) (f := i_fits) (n := n) (ps := ["screen", "value"]) (N := n_fits) (body := b_fits) (args := [a0, a1]) rfl rfl
theorem q_is_stand (n : Nat) (a0 a1 : D) : callF tb (n + 1) i_is_stand [a0, a1] = runV (evSs (callF tb n) tb.cd b_is_stand [.val a0, .val a1]) := call_eqV (t := tb) (f := i_is_stand) (n := n) (ps := ["screen", "value"]) (N := n_is_stand) (body := b_is_stand) (args := [a0, a1]) rfl rfl
theorem q_look_at_stand (n : Nat) (a0 a1 : D) : callF tb (n + 1) i_look_at_stand [a0, a1] = runV (evSs (callF tb n) tb.cd b_look_at_stand [.val a0, .val a1]) := call_eqV (t := tb) (f := i_look_at_stand) (n := n) (ps := ["screen", "stand"]) (N := n_look_at_stand) (body := b_look_at_stand) (args := [a0, a1]) rfl rfl
theorem q_changes_at (n : Nat) (a0 a1 : D) : callF tb (n + 1) i_changes_at [a0, a1] = runV (evSs (callF tb n) tb.cd b_changes_at [.val a0, .val a1, .no, .no, .no, .no, .no]) := call_eqV (t := tb) (f := i_changes_at) (n := n) (ps := ["screen", "rows"]) (N := n_changes_at) (body := b_changes_at) (args := [a0, a1]) rfl rfl
theorem q_all_events (n : Nat) (a0 a1 : D) : callF tb (n + 1) i_all_events [a0, a1] = runV (evSs (callF tb n) tb.cd b_all_events [.val a0, .val a1, .no, .no]) := call_eqV (t := tb) (f := i_all_events) (n := n) (ps := ["screen", "rows"]) (N := n_all_events) (body := b_all_events) (args := [a0, a1]) rfl rfl
theorem q_is_like (n : Nat) (a0 a1 : D) : callF tb (n + 1) i_is_like [a0, a1] = runV (evSs (callF tb n) tb.cd b_is_like [.val a0, .val a1, .no]) := call_eqV (t := tb) (f := i_is_like) (n := n) (ps := ["value", "some"]) (N := n_is_like) (body := b_is_like) (args := [a0, a1]) rfl rfl
theorem q_rows_behind (n : Nat) (a0 a1 : D) : callF tb (n + 1) i_rows_behind [a0, a1] = runV (evSs (callF tb n) tb.cd b_rows_behind [.val a0, .val a1]) := call_eqV (t := tb) (f := i_rows_behind) (n := n) (ps := ["rows", "event"]) (N := n_rows_behind) (body := b_rows_behind) (args := [a0, a1]) rfl rfl
theorem q_goes (n : Nat) (a0 a1 a2 : D) : callF tb (n + 1) i_goes [a0, a1, a2] = runV (evSs (callF tb n) tb.cd b_goes [.val a0, .val a1, .val a2, .no]) := call_eqV (t := tb) (f := i_goes) (n := n) (ps := ["screen", "rows", "events"]) (N := n_goes) (body := b_goes) (args := [a0, a1, a2]) rfl rfl
theorem q_fits_history (n : Nat) (a0 a1 : D) : callF tb (n + 1) i_fits_history [a0, a1] = runV (evSs (callF tb n) tb.cd b_fits_history [.val a0, .val a1]) := call_eqV (t := tb) (f := i_fits_history) (n := n) (ps := ["screen", "value"]) (N := n_fits_history) (body := b_fits_history) (args := [a0, a1]) rfl rfl
theorem q_is_history (n : Nat) (a0 a1 : D) : callF tb (n + 1) i_is_history [a0, a1] = runV (evSs (callF tb n) tb.cd b_is_history [.val a0, .val a1]) := call_eqV (t := tb) (f := i_is_history) (n := n) (ps := ["screen", "value"]) (N := n_is_history) (body := b_is_history) (args := [a0, a1]) rfl rfl
theorem q_events_at (n : Nat) (a0 a1 : D) : callF tb (n + 1) i_events_at [a0, a1] = runV (evSs (callF tb n) tb.cd b_events_at [.val a0, .val a1]) := call_eqV (t := tb) (f := i_events_at) (n := n) (ps := ["screen", "stand"]) (N := n_events_at) (body := b_events_at) (args := [a0, a1]) rfl rfl
theorem q_L_limit (n : Nat) (a0 a1 : D) : callF tb (n + 1) i_L_limit [a0, a1] = runV (evSs (callF tb n) tb.cd b_L_limit [.val a0, .val a1]) := call_eqV (t := tb) (f := i_L_limit) (n := n) (ps := ["screen", "rows"]) (N := n_L_limit) (body := b_L_limit) (args := [a0, a1]) rfl rfl
theorem q_L_changes (n : Nat) (a0 a1 : D) : callF tb (n + 1) i_L_changes [a0, a1] = runV (evSs (callF tb n) tb.cd b_L_changes [.val a0, .val a1, .no, .no, .no, .no]) := call_eqV (t := tb) (f := i_L_changes) (n := n) (ps := ["screen", "rows"]) (N := n_L_changes) (body := b_L_changes) (args := [a0, a1]) rfl rfl
theorem q_L_events (n : Nat) (a0 a1 : D) : callF tb (n + 1) i_L_events [a0, a1] = runV (evSs (callF tb n) tb.cd b_L_events [.val a0, .val a1, .no, .no]) := call_eqV (t := tb) (f := i_L_events) (n := n) (ps := ["screen", "rows"]) (N := n_L_events) (body := b_L_events) (args := [a0, a1]) rfl rfl
theorem q_L_moved (n : Nat) (a0 a1 : D) : callF tb (n + 1) i_L_moved [a0, a1] = runV (evSs (callF tb n) tb.cd b_L_moved [.val a0, .val a1, .no]) := call_eqV (t := tb) (f := i_L_moved) (n := n) (ps := ["rows", "change"]) (N := n_L_moved) (body := b_L_moved) (args := [a0, a1]) rfl rfl
theorem q_L_stand (n : Nat) (a0 a1 : D) : callF tb (n + 1) i_L_stand [a0, a1] = runO (evSs (callF tb n) tb.cd b_L_stand [.own a0, .val a1, .no, .no]) := call_eqO (t := tb) (f := i_L_stand) (n := n) (ps := ["bag", "screen"]) (N := n_L_stand) (body := b_L_stand) (b := a0) (args := [a1]) rfl rfl
theorem q_L_is_stand (n : Nat) (a0 a1 : D) : callF tb (n + 1) i_L_is_stand [a0, a1] = runV (evSs (callF tb n) tb.cd b_L_is_stand [.val a0, .val a1, .no]) := call_eqV (t := tb) (f := i_L_is_stand) (n := n) (ps := ["screen", "value"]) (N := n_L_is_stand) (body := b_L_is_stand) (args := [a0, a1]) rfl rfl
theorem q_L_is_history (n : Nat) (a0 a1 : D) : callF tb (n + 1) i_L_is_history [a0, a1] = runV (evSs (callF tb n) tb.cd b_L_is_history [.val a0, .val a1, .no, .no, .no]) := call_eqV (t := tb) (f := i_L_is_history) (n := n) (ps := ["screen", "value"]) (N := n_L_is_history) (body := b_L_is_history) (args := [a0, a1]) rfl rfl
theorem q_L_odd_k02 (n : Nat) (a0 a1 : D) : callF tb (n + 1) i_L_odd_k02 [a0, a1] = runO (evSs (callF tb n) tb.cd b_L_odd_k02 [.own a0, .val a1, .no, .no, .no]) := call_eqO (t := tb) (f := i_L_odd_k02) (n := n) (ps := ["bag", "value"]) (N := n_L_odd_k02) (body := b_L_odd_k02) (b := a0) (args := [a1]) rfl rfl
theorem q_look_at_change (n : Nat) (a0 a1 a2 : D) : callF tb (n + 1) i_look_at_change [a0, a1, a2] = runV (evSs (callF tb n) tb.cd b_look_at_change [.val a0, .val a1, .val a2]) := call_eqV (t := tb) (f := i_look_at_change) (n := n) (ps := ["screen", "stand", "change"]) (N := n_look_at_change) (body := b_look_at_change) (args := [a0, a1, a2]) rfl rfl
theorem q_begin_of (n : Nat) (a0 a1 : D) : callF tb (n + 1) i_begin_of [a0, a1] = runV (evSs (callF tb n) tb.cd b_begin_of [.val a0, .val a1]) := call_eqV (t := tb) (f := i_begin_of) (n := n) (ps := ["rows", "index"]) (N := n_begin_of) (body := b_begin_of) (args := [a0, a1]) rfl rfl
theorem q_seen_at (n : Nat) (a0 a1 a2 : D) : callF tb (n + 1) i_seen_at [a0, a1, a2] = runV (evSs (callF tb n) tb.cd b_seen_at [.val a0, .val a1, .val a2, .no, .no, .no, .no]) := call_eqV (t := tb) (f := i_seen_at) (n := n) (ps := ["screen", "rows", "top"]) (N := n_seen_at) (body := b_seen_at) (args := [a0, a1, a2]) rfl rfl
theorem q_place_at (n : Nat) (a0 a1 a2 : D) : callF tb (n + 1) i_place_at [a0, a1, a2] = runV (evSs (callF tb n) tb.cd b_place_at [.val a0, .val a1, .val a2, .no, .no, .no]) := call_eqV (t := tb) (f := i_place_at) (n := n) (ps := ["screen", "stand", "change"]) (N := n_place_at) (body := b_place_at) (args := [a0, a1, a2]) rfl rfl
theorem q_seen (n : Nat) (a0 a1 : D) : callF tb (n + 1) i_seen [a0, a1] = runV (evSs (callF tb n) tb.cd b_seen [.val a0, .val a1]) := call_eqV (t := tb) (f := i_seen) (n := n) (ps := ["screen", "stand"]) (N := n_seen) (body := b_seen) (args := [a0, a1]) rfl rfl
theorem q_place_of (n : Nat) (a0 a1 a2 : D) : callF tb (n + 1) i_place_of [a0, a1, a2] = runV (evSs (callF tb n) tb.cd b_place_of [.val a0, .val a1, .val a2]) := call_eqV (t := tb) (f := i_place_of) (n := n) (ps := ["screen", "stand", "change"]) (N := n_place_of) (body := b_place_of) (args := [a0, a1, a2]) rfl rfl
theorem q_look_at_rule (n : Nat) (a0 : D) : callF tb (n + 1) i_look_at_rule [a0] = runV (evSs (callF tb n) tb.cd b_look_at_rule [.val a0]) := call_eqV (t := tb) (f := i_look_at_rule) (n := n) (ps := ["rule"]) (N := n_look_at_rule) (body := b_look_at_rule) (args := [a0]) rfl rfl
theorem q_facts_of (n : Nat) (a0 a1 a2 : D) : callF tb (n + 1) i_facts_of [a0, a1, a2] = runV (evSs (callF tb n) tb.cd b_facts_of [.val a0, .val a1, .val a2, .no, .no, .no, .no, .no, .no, .no]) := call_eqV (t := tb) (f := i_facts_of) (n := n) (ps := ["screen", "stand", "change"]) (N := n_facts_of) (body := b_facts_of) (args := [a0, a1, a2]) rfl rfl
theorem q_holds (n : Nat) (a0 a1 : D) : callF tb (n + 1) i_holds [a0, a1] = runV (evSs (callF tb n) tb.cd b_holds [.val a0, .val a1]) := call_eqV (t := tb) (f := i_holds) (n := n) (ps := ["test", "facts"]) (N := n_holds) (body := b_holds) (args := [a0, a1]) rfl rfl
theorem q_deciding (n : Nat) (a0 a1 a2 a3 : D) : callF tb (n + 1) i_deciding [a0, a1, a2, a3] = runV (evSs (callF tb n) tb.cd b_deciding [.val a0, .val a1, .val a2, .val a3, .no, .no, .no, .no, .no]) := call_eqV (t := tb) (f := i_deciding) (n := n) (ps := ["rule", "screen", "stand", "change"]) (N := n_deciding) (body := b_deciding) (args := [a0, a1, a2, a3]) rfl rfl
theorem q_deed_by (n : Nat) (a0 a1 a2 a3 : D) : callF tb (n + 1) i_deed_by [a0, a1, a2, a3] = runV (evSs (callF tb n) tb.cd b_deed_by [.val a0, .val a1, .val a2, .val a3, .no]) := call_eqV (t := tb) (f := i_deed_by) (n := n) (ps := ["rule", "screen", "stand", "change"]) (N := n_deed_by) (body := b_deed_by) (args := [a0, a1, a2, a3]) rfl rfl
theorem q_deed_of (n : Nat) (a0 a1 a2 a3 : D) : callF tb (n + 1) i_deed_of [a0, a1, a2, a3] = runV (evSs (callF tb n) tb.cd b_deed_of [.val a0, .val a1, .val a2, .val a3]) := call_eqV (t := tb) (f := i_deed_of) (n := n) (ps := ["rule", "screen", "stand", "change"]) (N := n_deed_of) (body := b_deed_of) (args := [a0, a1, a2, a3]) rfl rfl
theorem q_L_seen (n : Nat) (a0 a1 a2 : D) : callF tb (n + 1) i_L_seen [a0, a1, a2] = runV (evSs (callF tb n) tb.cd b_L_seen [.val a0, .val a1, .val a2, .no, .no, .no, .no]) := call_eqV (t := tb) (f := i_L_seen) (n := n) (ps := ["screen", "rows", "top"]) (N := n_L_seen) (body := b_L_seen) (args := [a0, a1, a2]) rfl rfl
theorem q_L_place (n : Nat) (a0 a1 a2 : D) : callF tb (n + 1) i_L_place [a0, a1, a2] = runV (evSs (callF tb n) tb.cd b_L_place [.val a0, .val a1, .val a2, .no, .no, .no, .no]) := call_eqV (t := tb) (f := i_L_place) (n := n) (ps := ["screen", "stand", "change"]) (N := n_L_place) (body := b_L_place) (args := [a0, a1, a2]) rfl rfl
theorem q_L_holds (n : Nat) (a0 a1 a2 a3 : D) : callF tb (n + 1) i_L_holds [a0, a1, a2, a3] = runV (evSs (callF tb n) tb.cd b_L_holds [.val a0, .val a1, .val a2, .val a3, .no, .no, .no, .no, .no]) := call_eqV (t := tb) (f := i_L_holds) (n := n) (ps := ["test", "screen", "stand", "change"]) (N := n_L_holds) (body := b_L_holds) (args := [a0, a1, a2, a3]) rfl rfl
theorem q_L_deed (n : Nat) (a0 a1 a2 a3 : D) : callF tb (n + 1) i_L_deed [a0, a1, a2, a3] = runV (evSs (callF tb n) tb.cd b_L_deed [.val a0, .val a1, .val a2, .val a3, .no, .no, .no]) := call_eqV (t := tb) (f := i_L_deed) (n := n) (ps := ["rule", "screen", "stand", "change"]) (N := n_L_deed) (body := b_L_deed) (args := [a0, a1, a2, a3]) rfl rfl
theorem q_look_at_event (n : Nat) (a0 a1 a2 : D) : callF tb (n + 1) i_look_at_event [a0, a1, a2] = runV (evSs (callF tb n) tb.cd b_look_at_event [.val a0, .val a1, .val a2]) := call_eqV (t := tb) (f := i_look_at_event) (n := n) (ps := ["screen", "stand", "event"]) (N := n_look_at_event) (body := b_look_at_event) (args := [a0, a1, a2]) rfl rfl
theorem q_look_at_history (n : Nat) (a0 a1 : D) : callF tb (n + 1) i_look_at_history [a0, a1] = runV (evSs (callF tb n) tb.cd b_look_at_history [.val a0, .val a1]) := call_eqV (t := tb) (f := i_look_at_history) (n := n) (ps := ["screen", "history"]) (N := n_look_at_history) (body := b_look_at_history) (args := [a0, a1]) rfl rfl
theorem q_new_index (n : Nat) (a0 a1 : D) : callF tb (n + 1) i_new_index [a0, a1] = runV (evSs (callF tb n) tb.cd b_new_index [.val a0, .val a1]) := call_eqV (t := tb) (f := i_new_index) (n := n) (ps := ["event", "index"]) (N := n_new_index) (body := b_new_index) (args := [a0, a1]) rfl rfl
theorem q_kept_top (n : Nat) (a0 a1 a2 a3 a4 : D) : callF tb (n + 1) i_kept_top [a0, a1, a2, a3, a4] = runV (evSs (callF tb n) tb.cd b_kept_top [.val a0, .val a1, .val a2, .val a3, .val a4, .no, .no, .no, .no]) := call_eqV (t := tb) (f := i_kept_top) (n := n) (ps := ["stand", "rows", "event", "index", "by_end"]) (N := n_kept_top) (body := b_kept_top) (args := [a0, a1, a2, a3, a4]) rfl rfl
theorem q_wished_top (n : Nat) (a0 a1 a2 a3 a4 : D) : callF tb (n + 1) i_wished_top [a0, a1, a2, a3, a4] = runV (evSs (callF tb n) tb.cd b_wished_top [.val a0, .val a1, .val a2, .val a3, .val a4, .no, .no, .no, .no, .no, .no]) := call_eqV (t := tb) (f := i_wished_top) (n := n) (ps := ["screen", "stand", "rows", "event", "deed"]) (N := n_wished_top) (body := b_wished_top) (args := [a0, a1, a2, a3, a4]) rfl rfl
theorem q_changed (n : Nat) (a0 a1 a2 a3 : D) : callF tb (n + 1) i_changed [a0, a1, a2, a3] = runV (evSs (callF tb n) tb.cd b_changed [.val a0, .val a1, .val a2, .val a3, .no, .no, .no]) := call_eqV (t := tb) (f := i_changed) (n := n) (ps := ["rule", "screen", "stand", "change"]) (N := n_changed) (body := b_changed) (args := [a0, a1, a2, a3]) rfl rfl
theorem q_behind (n : Nat) (a0 a1 a2 a3 : D) : callF tb (n + 1) i_behind [a0, a1, a2, a3] = runV (evSs (callF tb n) tb.cd b_behind [.val a0, .val a1, .val a2, .val a3, .no, .no, .no]) := call_eqV (t := tb) (f := i_behind) (n := n) (ps := ["rule", "screen", "stand", "event"]) (N := n_behind) (body := b_behind) (args := [a0, a1, a2, a3]) rfl rfl
theorem q_played (n : Nat) (a0 a1 a2 a3 : D) : callF tb (n + 1) i_played [a0, a1, a2, a3] = runV (evSs (callF tb n) tb.cd b_played [.val a0, .val a1, .val a2, .val a3, .no, .no]) := call_eqV (t := tb) (f := i_played) (n := n) (ps := ["rule", "screen", "stand", "events"]) (N := n_played) (body := b_played) (args := [a0, a1, a2, a3]) rfl rfl
theorem q_after (n : Nat) (a0 a1 a2 a3 : D) : callF tb (n + 1) i_after [a0, a1, a2, a3] = runV (evSs (callF tb n) tb.cd b_after [.val a0, .val a1, .val a2, .val a3]) := call_eqV (t := tb) (f := i_after) (n := n) (ps := ["rule", "screen", "stand", "event"]) (N := n_after) (body := b_after) (args := [a0, a1, a2, a3]) rfl rfl
theorem q_stand_behind (n : Nat) (a0 a1 a2 : D) : callF tb (n + 1) i_stand_behind [a0, a1, a2] = runV (evSs (callF tb n) tb.cd b_stand_behind [.val a0, .val a1, .val a2]) := call_eqV (t := tb) (f := i_stand_behind) (n := n) (ps := ["rule", "screen", "history"]) (N := n_stand_behind) (body := b_stand_behind) (args := [a0, a1, a2]) rfl rfl
theorem q_jump_of (n : Nat) (a0 a1 a2 a3 : D) : callF tb (n + 1) i_jump_of [a0, a1, a2, a3] = runV (evSs (callF tb n) tb.cd b_jump_of [.val a0, .val a1, .val a2, .val a3]) := call_eqV (t := tb) (f := i_jump_of) (n := n) (ps := ["rule", "screen", "stand", "change"]) (N := n_jump_of) (body := b_jump_of) (args := [a0, a1, a2, a3]) rfl rfl
theorem q_L_anchored (n : Nat) (a0 a1 a2 a3 : D) : callF tb (n + 1) i_L_anchored [a0, a1, a2, a3] = runV (evSs (callF tb n) tb.cd b_L_anchored [.val a0, .val a1, .val a2, .val a3, .no, .no, .no, .no, .no, .no, .no, .no, .no]) := call_eqV (t := tb) (f := i_L_anchored) (n := n) (ps := ["screen", "stand", "change", "deed"]) (N := n_L_anchored) (body := b_L_anchored) (args := [a0, a1, a2, a3]) rfl rfl
theorem q_L_jump (n : Nat) (a0 a1 a2 a3 : D) : callF tb (n + 1) i_L_jump [a0, a1, a2, a3] = runV (evSs (callF tb n) tb.cd b_L_jump [.val a0, .val a1, .val a2, .val a3, .no, .no, .no, .no, .no]) := call_eqV (t := tb) (f := i_L_jump) (n := n) (ps := ["screen", "stand", "change", "later"]) (N := n_L_jump) (body := b_L_jump) (args := [a0, a1, a2, a3]) rfl rfl
theorem q_ways_by (n : Nat) (a0 a1 : D) : callF tb (n + 1) i_ways_by [a0, a1] = runV (evSs (callF tb n) tb.cd b_ways_by [.val a0, .val a1, .no, .no, .no, .no, .no, .no]) := call_eqV (t := tb) (f := i_ways_by) (n := n) (ps := ["rule", "screen"]) (N := n_ways_by) (body := b_ways_by) (args := [a0, a1]) rfl rfl
theorem q_look_at (n : Nat) (a0 a1 : D) : callF tb (n + 1) i_look_at [a0, a1] = runV (evSs (callF tb n) tb.cd b_look_at [.val a0, .val a1]) := call_eqV (t := tb) (f := i_look_at) (n := n) (ps := ["rule", "screen"]) (N := n_look_at) (body := b_look_at) (args := [a0, a1]) rfl rfl
theorem q_reachable (n : Nat) (a0 a1 : D) : callF tb (n + 1) i_reachable [a0, a1] = runV (evSs (callF tb n) tb.cd b_reachable [.val a0, .val a1]) := call_eqV (t := tb) (f := i_reachable) (n := n) (ps := ["rule", "screen"]) (N := n_reachable) (body := b_reachable) (args := [a0, a1]) rfl rfl
theorem q_way_to (n : Nat) (a0 a1 a2 : D) : callF tb (n + 1) i_way_to [a0, a1, a2] = runV (evSs (callF tb n) tb.cd b_way_to [.val a0, .val a1, .val a2]) := call_eqV (t := tb) (f := i_way_to) (n := n) (ps := ["rule", "screen", "stand"]) (N := n_way_to) (body := b_way_to) (args := [a0, a1, a2]) rfl rfl
theorem q_L_ways (n : Nat) (a0 a1 : D) : callF tb (n + 1) i_L_ways [a0, a1] = runV (evSs (callF tb n) tb.cd b_L_ways [.val a0, .val a1, .no, .no, .no, .no, .no, .no, .no]) := call_eqV (t := tb) (f := i_L_ways) (n := n) (ps := ["rule", "screen"]) (N := n_L_ways) (body := b_L_ways) (args := [a0, a1]) rfl rfl
theorem q_tops_by_hand (n : Nat) (a0 a1 : D) : callF tb (n + 1) i_tops_by_hand [a0, a1] = runV (evSs (callF tb n) tb.cd b_tops_by_hand [.val a0, .val a1, .no, .no, .no, .no, .no, .no]) := call_eqV (t := tb) (f := i_tops_by_hand) (n := n) (ps := ["screen", "stand"]) (N := n_tops_by_hand) (body := b_tops_by_hand) (args := [a0, a1]) rfl rfl
theorem q_by_hand (n : Nat) (a0 a1 : D) : callF tb (n + 1) i_by_hand [a0, a1] = runV (evSs (callF tb n) tb.cd b_by_hand [.val a0, .val a1]) := call_eqV (t := tb) (f := i_by_hand) (n := n) (ps := ["screen", "stand"]) (N := n_by_hand) (body := b_by_hand) (args := [a0, a1]) rfl rfl
theorem q_hidden (n : Nat) (a0 a1 : D) : callF tb (n + 1) i_hidden [a0, a1] = runV (evSs (callF tb n) tb.cd b_hidden [.val a0, .val a1, .no, .no, .no, .no, .no, .no, .no]) := call_eqV (t := tb) (f := i_hidden) (n := n) (ps := ["screen", "stand"]) (N := n_hidden) (body := b_hidden) (args := [a0, a1]) rfl rfl
theorem q_all_jumps (n : Nat) (a0 a1 a2 : D) : callF tb (n + 1) i_all_jumps [a0, a1, a2] = runV (evSs (callF tb n) tb.cd b_all_jumps [.val a0, .val a1, .val a2, .no, .no, .no, .no, .no]) := call_eqV (t := tb) (f := i_all_jumps) (n := n) (ps := ["rule", "screen", "place"]) (N := n_all_jumps) (body := b_all_jumps) (args := [a0, a1, a2]) rfl rfl
theorem q_look_at_all (n : Nat) (a0 a1 a2 : D) : callF tb (n + 1) i_look_at_all [a0, a1, a2] = runV (evSs (callF tb n) tb.cd b_look_at_all [.val a0, .val a1, .val a2]) := call_eqV (t := tb) (f := i_look_at_all) (n := n) (ps := ["rule", "screen", "place"]) (N := n_look_at_all) (body := b_look_at_all) (args := [a0, a1, a2]) rfl rfl
theorem q_greatest_jump (n : Nat) (a0 a1 a2 : D) : callF tb (n + 1) i_greatest_jump [a0, a1, a2] = runV (evSs (callF tb n) tb.cd b_greatest_jump [.val a0, .val a1, .val a2, .no, .no, .no]) := call_eqV (t := tb) (f := i_greatest_jump) (n := n) (ps := ["rule", "screen", "place"]) (N := n_greatest_jump) (body := b_greatest_jump) (args := [a0, a1, a2]) rfl rfl
theorem q_worst_history (n : Nat) (a0 a1 a2 : D) : callF tb (n + 1) i_worst_history [a0, a1, a2] = runV (evSs (callF tb n) tb.cd b_worst_history [.val a0, .val a1, .val a2, .no, .no, .no, .no, .no]) := call_eqV (t := tb) (f := i_worst_history) (n := n) (ps := ["rule", "screen", "place"]) (N := n_worst_history) (body := b_worst_history) (args := [a0, a1, a2]) rfl rfl
theorem q_L_rows (n : Nat) (a0 a1 : D) : callF tb (n + 1) i_L_rows [a0, a1] = runV (evSs (callF tb n) tb.cd b_L_rows [.val a0, .val a1, .no, .no, .no, .no, .no]) := call_eqV (t := tb) (f := i_L_rows) (n := n) (ps := ["rule", "screen"]) (N := n_L_rows) (body := b_L_rows) (args := [a0, a1]) rfl rfl
theorem q_look_at_wish (n : Nat) (a0 : D) : callF tb (n + 1) i_look_at_wish [a0] = runV (evSs (callF tb n) tb.cd b_look_at_wish [.val a0]) := call_eqV (t := tb) (f := i_look_at_wish) (n := n) (ps := ["wish"]) (N := n_look_at_wish) (body := b_look_at_wish) (args := [a0]) rfl rfl
theorem q_breaks (n : Nat) (a0 a1 a2 a3 a4 : D) : callF tb (n + 1) i_breaks [a0, a1, a2, a3, a4] = runV (evSs (callF tb n) tb.cd b_breaks [.val a0, .val a1, .val a2, .val a3, .val a4]) := call_eqV (t := tb) (f := i_breaks) (n := n) (ps := ["screen", "stand", "change", "later", "wish"]) (N := n_breaks) (body := b_breaks) (args := [a0, a1, a2, a3, a4]) rfl rfl
theorem q_breaking_by (n : Nat) (a0 a1 a2 : D) : callF tb (n + 1) i_breaking_by [a0, a1, a2] = runV (evSs (callF tb n) tb.cd b_breaking_by [.val a0, .val a1, .val a2, .no, .no, .no, .no, .no]) := call_eqV (t := tb) (f := i_breaking_by) (n := n) (ps := ["rule", "screen", "wishes"]) (N := n_breaking_by) (body := b_breaking_by) (args := [a0, a1, a2]) rfl rfl
theorem q_keeps (n : Nat) (a0 a1 a2 : D) : callF tb (n + 1) i_keeps [a0, a1, a2] = runV (evSs (callF tb n) tb.cd b_keeps [.val a0, .val a1, .val a2]) := call_eqV (t := tb) (f := i_keeps) (n := n) (ps := ["rule", "screen", "wish"]) (N := n_keeps) (body := b_keeps) (args := [a0, a1, a2]) rfl rfl
theorem q_breaking (n : Nat) (a0 a1 a2 : D) : callF tb (n + 1) i_breaking [a0, a1, a2] = runV (evSs (callF tb n) tb.cd b_breaking [.val a0, .val a1, .val a2]) := call_eqV (t := tb) (f := i_breaking) (n := n) (ps := ["rule", "screen", "wish"]) (N := n_breaking) (body := b_breaking) (args := [a0, a1, a2]) rfl rfl
theorem q_L_wishes (n : Nat) : callF tb (n + 1) i_L_wishes [] = runV (evSs (callF tb n) tb.cd b_L_wishes []) := call_eqV (t := tb) (f := i_L_wishes) (n := n) (ps := []) (N := n_L_wishes) (body := b_L_wishes) (args := []) rfl rfl
theorem q_L_breaks (n : Nat) (a0 a1 a2 a3 a4 : D) : callF tb (n + 1) i_L_breaks [a0, a1, a2, a3, a4] = runV (evSs (callF tb n) tb.cd b_L_breaks [.val a0, .val a1, .val a2, .val a3, .val a4, .no, .no, .no]) := call_eqV (t := tb) (f := i_L_breaks) (n := n) (ps := ["screen", "stand", "change", "later", "wish"]) (N := n_L_breaks) (body := b_L_breaks) (args := [a0, a1, a2, a3, a4]) rfl rfl
theorem q_L_broken (n : Nat) (a0 a1 a2 : D) : callF tb (n + 1) i_L_broken [a0, a1, a2] = runV (evSs (callF tb n) tb.cd b_L_broken [.val a0, .val a1, .val a2, .no, .no, .no, .no, .no]) := call_eqV (t := tb) (f := i_L_broken) (n := n) (ps := ["rule", "screen", "wishes"]) (N := n_L_broken) (body := b_L_broken) (args := [a0, a1, a2]) rfl rfl
theorem q_L_first_k10 (n : Nat) (a0 a1 a2 a3 : D) : callF tb (n + 1) i_L_first_k10 [a0, a1, a2, a3] = runV (evSs (callF tb n) tb.cd b_L_first_k10 [.val a0, .val a1, .val a2, .val a3, .no, .no, .no, .no]) := call_eqV (t := tb) (f := i_L_first_k10) (n := n) (ps := ["rule", "screen", "history", "wish"]) (N := n_L_first_k10) (body := b_L_first_k10) (args := [a0, a1, a2, a3]) rfl rfl
theorem q_parts_of (n : Nat) (a0 : D) : callF tb (n + 1) i_parts_of [a0] = runV (evSs (callF tb n) tb.cd b_parts_of [.val a0, .no, .no, .no, .no]) := call_eqV (t := tb) (f := i_parts_of) (n := n) (ps := ["many"]) (N := n_parts_of) (body := b_parts_of) (args := [a0]) rfl rfl
theorem q_fewest_clauses (n : Nat) (a0 a1 a2 : D) : callF tb (n + 1) i_fewest_clauses [a0, a1, a2] = runV (evSs (callF tb n) tb.cd b_fewest_clauses [.val a0, .val a1, .val a2, .no, .no, .no]) := call_eqV (t := tb) (f := i_fewest_clauses) (n := n) (ps := ["rule", "screen", "wishes"]) (N := n_fewest_clauses) (body := b_fewest_clauses) (args := [a0, a1, a2]) rfl rfl
theorem q_L_parts (n : Nat) (a0 : D) : callF tb (n + 1) i_L_parts [a0] = runV (evSs (callF tb n) tb.cd b_L_parts [.val a0, .no, .no, .no, .no, .no]) := call_eqV (t := tb) (f := i_L_parts) (n := n) (ps := ["many"]) (N := n_L_parts) (body := b_L_parts) (args := [a0]) rfl rfl
theorem q_parting_by (n : Nat) (a0 a1 a2 : D) : callF tb (n + 1) i_parting_by [a0, a1, a2] = runV (evSs (callF tb n) tb.cd b_parting_by [.val a0, .val a1, .val a2, .no, .no, .no]) := call_eqV (t := tb) (f := i_parting_by) (n := n) (ps := ["one", "other", "screen"]) (N := n_parting_by) (body := b_parting_by) (args := [a0, a1, a2]) rfl rfl
theorem q_parting (n : Nat) (a0 a1 a2 : D) : callF tb (n + 1) i_parting [a0, a1, a2] = runV (evSs (callF tb n) tb.cd b_parting [.val a0, .val a1, .val a2]) := call_eqV (t := tb) (f := i_parting) (n := n) (ps := ["one", "other", "screen"]) (N := n_parting) (body := b_parting) (args := [a0, a1, a2]) rfl rfl
theorem q_L_other (n : Nat) (a0 a1 : D) : callF tb (n + 1) i_L_other [a0, a1] = runO (evSs (callF tb n) tb.cd b_L_other [.own a0, .val a1, .no, .no]) := call_eqO (t := tb) (f := i_L_other) (n := n) (ps := ["bag", "rule"]) (N := n_L_other) (body := b_L_other) (b := a0) (args := [a1]) rfl rfl
theorem q_L_apart (n : Nat) (a0 a1 a2 : D) : callF tb (n + 1) i_L_apart [a0, a1, a2] = runV (evSs (callF tb n) tb.cd b_L_apart [.val a0, .val a1, .val a2, .no, .no, .no]) := call_eqV (t := tb) (f := i_L_apart) (n := n) (ps := ["one", "other", "screen"]) (N := n_L_apart) (body := b_L_apart) (args := [a0, a1, a2]) rfl rfl
theorem q_L_end (n : Nat) (a0 a1 a2 : D) : callF tb (n + 1) i_L_end [a0, a1, a2] = runV (evSs (callF tb n) tb.cd b_L_end [.val a0, .val a1, .val a2, .no, .no]) := call_eqV (t := tb) (f := i_L_end) (n := n) (ps := ["rule", "screen", "history"]) (N := n_L_end) (body := b_L_end) (args := [a0, a1, a2]) rfl rfl
theorem q_needless (n : Nat) (a0 a1 : D) : callF tb (n + 1) i_needless [a0, a1] = runV (evSs (callF tb n) tb.cd b_needless [.val a0, .val a1, .no, .no]) := call_eqV (t := tb) (f := i_needless) (n := n) (ps := ["rule", "screen"]) (N := n_needless) (body := b_needless) (args := [a0, a1]) rfl rfl
theorem q_unused (n : Nat) (a0 a1 : D) : callF tb (n + 1) i_unused [a0, a1] = runV (evSs (callF tb n) tb.cd b_unused [.val a0, .val a1, .no, .no, .no, .no]) := call_eqV (t := tb) (f := i_unused) (n := n) (ps := ["rule", "screen"]) (N := n_unused) (body := b_unused) (args := [a0, a1]) rfl rfl
theorem q_L_first_k15 (n : Nat) (a0 a1 a2 a3 : D) : callF tb (n + 1) i_L_first_k15 [a0, a1, a2, a3] = runV (evSs (callF tb n) tb.cd b_L_first_k15 [.val a0, .val a1, .val a2, .val a3, .no, .no, .no]) := call_eqV (t := tb) (f := i_L_first_k15) (n := n) (ps := ["rule", "screen", "stand", "change"]) (N := n_L_first_k15) (body := b_L_first_k15) (args := [a0, a1, a2, a3]) rfl rfl
theorem q_contrary (n : Nat) (a0 a1 : D) : callF tb (n + 1) i_contrary [a0, a1] = runV (evSs (callF tb n) tb.cd b_contrary [.val a0, .val a1]) := call_eqV (t := tb) (f := i_contrary) (n := n) (ps := ["rows", "change"]) (N := n_contrary) (body := b_contrary) (args := [a0, a1]) rfl rfl
theorem q_lost_place (n : Nat) (a0 a1 : D) : callF tb (n + 1) i_lost_place [a0, a1] = runV (evSs (callF tb n) tb.cd b_lost_place [.val a0, .val a1, .no, .no, .no, .no, .no]) := call_eqV (t := tb) (f := i_lost_place) (n := n) (ps := ["rule", "screen"]) (N := n_lost_place) (body := b_lost_place) (args := [a0, a1]) rfl rfl
theorem q_L_back (n : Nat) (a0 a1 : D) : callF tb (n + 1) i_L_back [a0, a1] = runV (evSs (callF tb n) tb.cd b_L_back [.val a0, .val a1]) := call_eqV (t := tb) (f := i_L_back) (n := n) (ps := ["stand", "change"]) (N := n_L_back) (body := b_L_back) (args := [a0, a1]) rfl rfl
theorem q_L_both (n : Nat) (a0 a1 a2 a3 : D) : callF tb (n + 1) i_L_both [a0, a1, a2, a3] = runV (evSs (callF tb n) tb.cd b_L_both [.val a0, .val a1, .val a2, .val a3]) := call_eqV (t := tb) (f := i_L_both) (n := n) (ps := ["rule", "screen", "stand", "change"]) (N := n_L_both) (body := b_L_both) (args := [a0, a1, a2, a3]) rfl rfl
theorem q_L_lost (n : Nat) (a0 a1 : D) : callF tb (n + 1) i_L_lost [a0, a1] = runV (evSs (callF tb n) tb.cd b_L_lost [.val a0, .val a1, .no, .no, .no]) := call_eqV (t := tb) (f := i_L_lost) (n := n) (ps := ["rule", "screen"]) (N := n_L_lost) (body := b_L_lost) (args := [a0, a1]) rfl rfl
theorem q_sights_by (n : Nat) (a0 a1 a2 : D) : callF tb (n + 1) i_sights_by [a0, a1, a2] = runV (evSs (callF tb n) tb.cd b_sights_by [.val a0, .val a1, .val a2, .no]) := call_eqV (t := tb) (f := i_sights_by) (n := n) (ps := ["rule", "screen", "history"]) (N := n_sights_by) (body := b_sights_by) (args := [a0, a1, a2]) rfl rfl
theorem q_sights_of (n : Nat) (a0 a1 a2 : D) : callF tb (n + 1) i_sights_of [a0, a1, a2] = runV (evSs (callF tb n) tb.cd b_sights_of [.val a0, .val a1, .val a2]) := call_eqV (t := tb) (f := i_sights_of) (n := n) (ps := ["rule", "screen", "history"]) (N := n_sights_of) (body := b_sights_of) (args := [a0, a1, a2]) rfl rfl
theorem q_is_pair (n : Nat) (a0 : D) : callF tb (n + 1) i_is_pair [a0] = runV (evSs (callF tb n) tb.cd b_is_pair [.val a0, .no]) := call_eqV (t := tb) (f := i_is_pair) (n := n) (ps := ["value"]) (N := n_is_pair) (body := b_is_pair) (args := [a0]) rfl rfl
theorem q_is_sight (n : Nat) (a0 : D) : callF tb (n + 1) i_is_sight [a0] = runV (evSs (callF tb n) tb.cd b_is_sight [.val a0, .no]) := call_eqV (t := tb) (f := i_is_sight) (n := n) (ps := ["value"]) (N := n_is_sight) (body := b_is_sight) (args := [a0]) rfl rfl
theorem q_fitting (n : Nat) (a0 a1 a2 a3 : D) : callF tb (n + 1) i_fitting [a0, a1, a2, a3] = runV (evSs (callF tb n) tb.cd b_fitting [.val a0, .val a1, .val a2, .val a3, .no, .no]) := call_eqV (t := tb) (f := i_fitting) (n := n) (ps := ["screen", "history", "sights", "candidates"]) (N := n_fitting) (body := b_fitting) (args := [a0, a1, a2, a3]) rfl rfl
end Mi
end
section
set_option Elab.async false
set_option linter.all false
set_option maxRecDepth 100000
set_option maxHeartbeats 4000000
/-! NM: the plain model: screens, stands, events, what is seen, what happens. -/
namespace Mi
structure Scr where
  h : Int
  s : Int
  t : Int
  m : Int
  deriving DecidableEq
structure Std where
  r : List Int
  top : Int
  ch : Int
  deriving DecidableEq
inductive Evt where
  | put (i h : Int) | take (i : Int) | size (i h : Int) | by_ (d : Int) | choose (i : Int) | leave
  deriving DecidableEq
inductive Plc where | above | within | below
  deriving DecidableEq
inductive Deed where | begin_ | end_ | first | held | last | stay
  deriving DecidableEq

/-! ### what the program computes -/
def bg (r : List Int) (i : Int) : Int := (r.take i.toNat).sum
def limN (h : Int) (r : List Int) : Int := max 0 (r.sum - h)
def seenG (h top : Int) : List Int → Int → Int → List (Int × Int)
  | [], _, _ => []
  | x :: r, k, b => if b < top + h ∧ top < b + x then (k, b - top) :: seenG h top r (k + 1) (b + x) else seenG h top r (k + 1) (b + x)
def seenN (h : Int) (r : List Int) (top : Int) : List (Int × Int) := seenG h top r 0 0
def rowsN (r : List Int) : Evt → List Int
  | .put i h => r.take i.toNat ++ h :: r.drop i.toNat
  | .take i => r.take i.toNat ++ r.drop (i.toNat + 1)
  | .size i h => r.take i.toNat ++ h :: r.drop (i.toNat + 1)
  | _ => r
def Evt.ix : Evt → Int
  | .put i _ => i
  | .take i => i
  | .size i _ => i
  | .choose i => i
  | _ => 0
def Evt.isPut : Evt → Bool
  | .put _ _ => true
  | _ => false
def Evt.isChange : Evt → Bool
  | .put _ _ => true
  | .take _ => true
  | .size _ _ => true
  | _ => false
def placeN (h : Int) (r : List Int) (top : Int) (e : Evt) : Plc :=
  if top + h ≤ bg r e.ix then .below
  else if (if e.isPut then bg r e.ix < top else bg r e.ix + r.getD e.ix.toNat 0 ≤ top) then .above else .within
def newIx : Evt → Int → Option Int
  | .put i _, k => some (if i ≤ k then k + 1 else k)
  | .take i, k => if k = i then none else some (if i < k then k - 1 else k)
  | _, k => some k
def keptN (r r' : List Int) (top : Int) (e : Evt) (k : Int) (byEnd : Bool) : Int :=
  let l := (newIx e k).getD 0
  if byEnd then top + bg r' (l + 1) - bg r (k + 1) else top + bg r' l - bg r k
def leftN (h : Int) (r : List Int) (top : Int) (e : Evt) : List Int := ((seenN h r top).map (·.1)).filter fun k => (newIx e k).isSome
def wishN (h : Int) (st : Std) (r' : List Int) (e : Evt) : Deed → Int
  | .begin_ => 0
  | .end_ => limN h r'
  | .first => match leftN h st.r st.top e with
    | [] => st.top
    | k :: _ => keptN st.r r' st.top e k false
  | .last => match (leftN h st.r st.top e).getLast? with
    | none => st.top
    | some k => keptN st.r r' st.top e k true
  | .held => if 0 ≤ st.ch ∧ (newIx e st.ch).isSome then keptN st.r r' st.top e st.ch false else st.top
  | .stay => st.top
def clampN (l t : Int) : Int := min l (max 0 t)
def changedN (h : Int) (st : Std) (e : Evt) (d : Deed) : Std :=
  let r' := rowsN st.r e
  ⟨r', clampN (limN h r') (wishN h st r' e d), if st.ch < 0 then -1 else (newIx e st.ch).getD (-1)⟩
def afterN (s : Scr) (st : Std) (e : Evt) (d : Deed) : Std := match e with
  | .by_ x => ⟨st.r, clampN (limN s.h st.r) (st.top + x * s.s), st.ch⟩
  | .choose i => ⟨st.r, st.top, i⟩
  | .leave => ⟨st.r, st.top, -1⟩
  | e => changedN s.h st e d
def jumpN (h : Int) (st : Std) (e : Evt) (st' : Std) : Int :=
  let new := seenN h st'.r st'.top
  (seenN h st.r st.top).foldl (fun m p => match newIx e p.1 with
    | none => m
    | some k => match new.lookup k with
      | none => m
      | some d => if m < (d - p.2).natAbs then ((d - p.2).natAbs : Int) else m) 0

/-! ### all events -/
def upTo (n : Nat) : List Int := (List.range n).map fun (i : Nat) => (i : Int)
def highs (t : Int) : List Int := (List.range t.toNat).map fun (i : Nat) => (i : Int) + 1
def chgN (s : Scr) (r : List Int) : List Evt :=
  (if (r.length : Int) < s.m then (upTo (r.length + 1)).flatMap fun i => (highs s.t).map fun x => Evt.put i x else [])
    ++ ((upTo r.length).flatMap fun i => ((highs s.t).filter fun x => decide (x ≠ r.getD i.toNat 0)).map fun x => Evt.size i x)
    ++ (upTo r.length).map Evt.take
def evsN (s : Scr) (r : List Int) : List Evt := [.by_ (-1), .by_ 1] ++ (upTo r.length).map Evt.choose ++ [.leave] ++ chgN s r

/-! ### as the law has it -/
def movedL (r : List Int) (e : Evt) : List Int :=
  let old := upTo r.length
  match e with
  | .put i _ => old.take i.toNat ++ (-1) :: old.drop i.toNat
  | .take i => old.take i.toNat ++ old.drop (i.toNat + 1)
  | _ => old
def pickL (old : List Int) (p : Int → Bool) : List Int := ((old.zip (upTo old.length)).filter fun q => p q.1).map (·.2)
def anchL (h : Int) (st : Std) (e : Evt) (d : Deed) : Int :=
  let later := rowsN st.r e
  let old := movedL st.r e
  match d with
  | .begin_ => 0
  | .end_ => limN h later
  | .stay => st.top
  | d =>
    let left := match d with
      | .held => pickL old fun k => decide (k = st.ch) && decide (0 ≤ k)
      | _ => pickL old fun k => ((seenN h st.r st.top).lookup k).isSome
    match left with
    | [] => st.top
    | a :: r =>
      let at_ := if d = .last then (a :: r).getLastD 0 else a
      let more := if d = .last then 1 else 0
      st.top + bg later (at_ + more) - bg st.r (old.getD at_.toNat 0 + more)
def hereL (old : List Int) (ch : Int) : Int := if 0 ≤ ch ∧ ch ∈ old then ((old.idxOf ch : Nat) : Int) else -1
def jumpL (h : Int) (st : Std) (e : Evt) (st' : Std) : Int :=
  let ahead := seenN h st.r st.top
  let old := movedL st.r e
  (seenN h st'.r st'.top).foldl (fun m p => match ahead.lookup (old.getD p.1.toNat 0) with
    | none => m
    | some d => if m < (p.2 - d).natAbs then ((p.2 - d).natAbs : Int) else m) 0

/-! ### all screens, rows, tops -/
def sizes8 : List (Int × Int) := [(1, 2), (1, 3), (2, 2), (2, 3), (3, 2), (1, 4), (2, 1), (2, 4)]
def rowsUp (t : Int) : Nat → List (List Int)
  | 0 => [[]]
  | n + 1 => [] :: (highs t).flatMap fun x => (rowsUp t n).map fun r => x :: r
def allRows : List (Int × Int × List Int) := sizes8.flatMap fun p => (rowsUp p.1 p.2.toNat).map fun r => (p.1, p.2, r)
def topsN (h : Int) (r : List Int) : List Int := upTo ((limN h r).toNat + 1)
def deeds6 : List Deed := [.begin_, .end_, .first, .held, .last, .stay]
end Mi
end
section
set_option Elab.async false
set_option linter.all false
set_option maxRecDepth 100000
set_option maxHeartbeats 4000000
/-! DR: what is drawn: bags, clauses, rules, screens. -/
namespace Mi
open PySem
def nDep : Nat := 28
def wellF (c k : Int) : List Int := if 10 ^ 18 ≤ c then [c - 10 ^ 18, c % 2305843009213693951, k] else [0, c % 2305843009213693951, k]
theorem well_ok : ∀ c i : Int, 0 ≤ i → i ≤ 1000000 → callF tb nDep i_L_well [.int c, .int i] = some (.list ((wellF c i).map PySem.PyData.int), none) := by
  intro c i _ _
  have p := int_pow 10 18 (by decide) (by decide) (by decide)
  have t : (18 : Int).toNat = 18 := rfl
  rw [t] at p
  show callF tb (27 + 1) i_L_well _ = _
  rw [q_L_well]
  by_cases h : (10 : Int) ^ 18 ≤ c
  · have h' : (1000000000000000000 : Int) ≤ c := h
    simp only [b_L_well, wellF, if_pos h]
    simp [p, rd, SZ, h']
  · have h' : ¬ (1000000000000000000 : Int) ≤ c := h
    simp only [b_L_well, wellF, if_neg h]
    simp [p, rd, SZ, h']
/-- a bag laid by the law has room for many draws -/
theorem bag_vb {ns : List Int} {m : Int} (h0 : 0 ≤ m) (h1 : m ≤ 1000) {b : List Int} (h : b ∈ bagsOf wellF ns m) : Vb 1000000000 (.list (b.map PyData.int)) := by
  unfold bagsOf at h
  obtain ⟨i, hi, rfl⟩ := List.mem_mapIdx.mp h
  rw [List.length_append, List.length_take, List.length_singleton] at hi
  generalize (ns.take m.toNat ++ [0])[i] = c
  unfold wellF
  split
  · exact ⟨_, _, _, rfl, by omega, by omega, by omega⟩
  · exact ⟨_, _, _, rfl, by omega, by omega, by omega⟩
theorem take01 {n : Nat} {m : Int} (hm : 0 < m) (hm2 : m < 1073741824) : DrawOK (callF tb (n + 1)) i_L_take [.int m] 1 fun d => ∃ i, d = .int i ∧ 0 ≤ i ∧ i < m := take_ok (t := tb) (f := i_L_take) rfl hm hm2
def testsL : List D := [.str "above", .str "begin", .str "below", .str "cut", .str "end", .str "held", .str "put", .str "short", .str "size", .str "take", .str "within"]
def deedsL : List D := [.str "begin", .str "end", .str "first", .str "held", .str "last", .str "stay"]
def deeds10 : List D := deedsL ++ [.str "first", .str "last", .str "held", .str "end"]
theorem tests_ok {n : Nat} : callF tb (n + 1) i_L_tests [] = some (.list testsL, none) := rfl
theorem deeds_ok {n : Nat} : callF tb (n + 1) i_L_deeds [] = some (.list deedsL, none) := rfl
/-- all tests, and all deeds -/
def tests22 : List Str := ["above", "begin", "below", "cut", "end", "held", "put", "short", "size", "take", "within", "no above", "no begin", "no below", "no cut", "no end", "no held", "no put", "no short", "no size", "no take", "no within"]
def deedsS : List Str := ["begin", "end", "first", "held", "last", "stay"]
abbrev Cl := List Str × Str
def clD (c : Cl) : D := .tuple [.tuple (c.1.map PyData.str), .str c.2]
structure ClOK (c : Cl) : Prop where
  len : c.1.length ≤ 3
  ts : ∀ t ∈ c.1, t ∈ tests22
  d : c.2 ∈ deedsS
def TestD (d : D) : Prop := ∃ s ∈ tests22, d = .str s
def ClD (d : D) : Prop := ∃ c, ClOK c ∧ d = clD c
def RuleD (k : Nat) (d : D) : Prop := ∃ xs, d = .tuple xs ∧ xs.length ≤ k ∧ ∀ x ∈ xs, ClD x
theorem test_ok {n : Nat} : DrawOK (callF tb (n + 2)) i_L_test [] 2 TestD := by
  intro r b hb
  obtain ⟨_, b1, h1, ⟨i, rfl, i0, i1⟩, v1⟩ := take01 (n := n) (m := 3) (by decide) (by decide) (r + 1) b hb
  obtain ⟨_, b2, h2, ⟨j, rfl, j0, j1⟩, v2⟩ := take01 (n := n) (m := 11) (by decide) (by decide) r b1 v1
  obtain ⟨x, hx, ex⟩ := idx_mem (xs := [.str "", .str "", .str "no "]) i0 i1
  obtain ⟨y, hy, ey⟩ := idx_mem (xs := testsL) j0 j1
  have hs : ∃ d, binD .add x y = some d ∧ TestD d := by
    have : ∀ x ∈ ([.str "", .str "", .str "no "] : List D), ∀ y ∈ testsL, ((binD .add x y).any fun d => match d with | .str s => decide (s ∈ tests22) | _ => false) = true := by decide +kernel
    have q := this x hx y hy
    cases e : binD .add x y with
    | none => rw [e] at q; cases q
    | some d =>
      rw [e] at q
      cases d <;> first | (cases q; done) | skip
      rename_i s
      exact ⟨_, rfl, s, of_decide_eq_true q, rfl⟩
  obtain ⟨d, hd, nd⟩ := hs
  refine ⟨d, b2, ?_, nd, v2⟩
  have t1 : evE (callF tb (n + 1)) tb.cd (.call i_L_tests []) [.own b, .no] = some (.list testsL, [.own b, .no]) := e_call rfl tests_ok
  have t2 : evE (callF tb (n + 1)) tb.cd (.callB i_L_take 0 [.c (.int 3)]) [.own b, .val (.list testsL)] = some (.int i, [.own b1, .val (.list testsL)]) := e_callB0 rfl h1
  have t3 : evE (callF tb (n + 1)) tb.cd (.callB i_L_take 0 [.c (.int 11)]) [.own b1, .val (.list testsL)] = some (.int j, [.own b2, .val (.list testsL)]) := e_callB0 rfl h2
  rw [q_L_test]
  simp [b_L_test, t1, t2, t3, rd, ex, ey, hd, SZ]
/-- data all of one kind, by their inner values -/
theorem pull {α : Type} {f : α → D} {P : α → Prop} : ∀ {xs : List D}, (∀ x ∈ xs, ∃ a, P a ∧ x = f a) → ∃ as : List α, xs = as.map f ∧ ∀ a ∈ as, P a
  | [], _ => ⟨[], rfl, fun _ h => by cases h⟩
  | x :: r, h => by
    obtain ⟨a, ha, rfl⟩ := h x List.mem_cons_self
    obtain ⟨as, rfl, h2⟩ := pull (f := f) (P := P) (xs := r) fun y hy => h y (List.mem_cons_of_mem _ hy)
    exact ⟨a :: as, rfl, fun b hb => by
      rcases List.mem_cons.mp hb with rfl | hb
      · exact ha
      · exact h2 b hb⟩
theorem clause_ok {n : Nat} : DrawOK (callF tb (n + 3)) i_L_clause [] 8 ClD := by
  intro r b hb
  obtain ⟨_, b1, h1, ⟨i, rfl, i0, i1⟩, v1⟩ := take01 (n := n + 1) (m := 6) (by decide) (by decide) (r + 7) b hb
  obtain ⟨k, hk, ek⟩ := idx_mem (xs := [.int 0, .int 1, .int 1, .int 2, .int 2, .int 3]) i0 i1
  obtain ⟨q, rfl, q3⟩ : ∃ q : Nat, k = .int q ∧ q ≤ 3 := by
    simp at hk
    rcases hk with rfl | rfl | rfl | rfl <;> first | exact ⟨0, rfl, by decide⟩ | exact ⟨1, rfl, by decide⟩ | exact ⟨2, rfl, by decide⟩ | exact ⟨3, rfl, by decide⟩
  obtain ⟨ds, b2, e2, c1, c2, c3, c4, c5⟩ := compL_draw (own := [3]) (bt := bindT (.nm 3)) (el := evE (callF tb (n + 2)) tb.cd (.callB i_L_test 0 [])) (W := fun b => [.own b, .no, .no, .no]) (G := fun b x => [.own b, .no, .no, .val x]) (c := 2) (P := TestD)
    (fun _ _ => rfl) (fun _ _ => rfl) (fun r b x hb => by
      obtain ⟨d, b', g1, g2, g3⟩ := test_ok (n := n) r b hb
      exact ⟨d, b', e_callB0 rfl g1, g2, g3⟩) (rngL 0 q) (r + 1) b1 [.own b1, .no, .no, .no] rfl (v1.less (by rw [rngL_len]; omega))
  obtain ⟨_, b3, h3, ⟨j, rfl, j0, j1⟩, v3⟩ := take01 (n := n + 1) (m := 10) (by decide) (by decide) r b2 c4
  have hbk : back [.own b1, .no, .no, .no] e2 [3] = [.own b2, .no, .no, .no] := by
    rw [← back_wipe, c5]
    rfl
  have hI : evI (callF tb (n + 2)) tb.cd (.rng (.idx (.lst [(.c (.int 0)), (.c (.int 1)), (.c (.int 1)), (.c (.int 2)), (.c (.int 2)), (.c (.int 3))]) (.callB i_L_take 0 [(.c (.int 6))]))) [.own b, .no, .no, .no] = some (rngL 0 q, [.own b1, .no, .no, .no]) := by
    have t1 : evE (callF tb (n + 2)) tb.cd (.callB i_L_take 0 [.c (.int 6)]) [.own b, .no, .no, .no] = some (.int i, [.own b1, .no, .no, .no]) := e_callB0 rfl h1
    exact i_rng (j := q) (by simp [t1, ek, SZ]) (by simp [small]; omega)
  rw [rngL_len] at c2
  have t2 := e_comp0 (env2 := [.own b2, .no, .no, .no]) hI rfl c1 (by show ds.length ≤ 16777216; omega) hbk
  have t3 : evE (callF tb (n + 2)) tb.cd (.callB i_L_take 0 [.c (.int 10)]) [.own b2, .val (.tuple ds), .val (.list deeds10), .no] = some (.int j, [.own b3, .val (.tuple ds), .val (.list deeds10), .no]) := e_callB0 rfl h3
  have t4 : evE (callF tb (n + 2)) tb.cd (.call i_L_deeds []) [.own b2, .val (.tuple ds), .no, .no] = some (.list deedsL, [.own b2, .val (.tuple ds), .no, .no]) := e_call rfl (deeds_ok (n := n + 1))
  obtain ⟨y, hy, ey⟩ := idx_mem (xs := deeds10) j0 j1
  obtain ⟨ds, rfl, hds⟩ := pull (f := PyData.str) (P := fun s => s ∈ tests22) c3
  have ny : ∃ s ∈ deedsS, y = .str s := by
    have : ∀ y ∈ deeds10, (match y with | .str s => decide (s ∈ deedsS) | _ => false) = true := by decide +kernel
    have q := this y hy
    cases y <;> first | (cases q; done) | skip
    rename_i s
    exact ⟨s, of_decide_eq_true q, rfl⟩
  obtain ⟨s, hs, rfl⟩ := ny
  refine ⟨clD (ds, s), b3, ?_, ⟨(ds, s), ⟨by rw [List.length_map] at c2; show ds.length ≤ 3; omega, hds, hs⟩, rfl⟩, v3⟩
  have hz : deedsL.length + 4 ≤ SZ := by decide
  have t5 : binD .add (.list deedsL) (.list [.str "first", .str "last", .str "held", .str "end"]) = some (.list deeds10) := rfl
  rw [q_L_clause]
  simp [b_L_clause, t2, t3, t4, t5, rd, ey, SZ, f1D, clD]
def knownL : List D := [.tuple [.tuple [.tuple [.str "above"], .str "first"]], .tuple [.tuple [.tuple [], .str "first"]], .tuple [.tuple [.tuple [], .str "last"]], .tuple [], .tuple [.tuple [.tuple [.str "end", .str "no short"], .str "end"], .tuple [.tuple [.str "held"], .str "held"], .tuple [.tuple [], .str "first"]], .tuple [.tuple [.tuple [.str "begin"], .str "begin"], .tuple [.tuple [.str "held"], .str "held"], .tuple [.tuple [.str "above"], .str "last"]]]
instance (c : Cl) : Decidable (ClOK c) := decidable_of_iff (c.1.length ≤ 3 ∧ (∀ t ∈ c.1, t ∈ tests22) ∧ c.2 ∈ deedsS) ⟨fun ⟨a, b, c⟩ => ⟨a, b, c⟩, fun ⟨a, b, c⟩ => ⟨a, b, c⟩⟩
theorem clD_of {ts : List Str} {d : Str} (h : ClOK (ts, d)) {x : D} (e : x = clD (ts, d)) : ClD x := ⟨_, h, e⟩
theorem known_ok {n : Nat} : DrawOK (callF tb (n + 2)) i_L_known [] 1 (RuleD 3) := by
  intro r b hb
  obtain ⟨_, b1, h1, ⟨i, rfl, i0, i1⟩, v1⟩ := take01 (n := n) (m := 6) (by decide) (by decide) r b hb
  obtain ⟨y, hy, ey⟩ := idx_mem (xs := knownL) i0 i1
  have ny : RuleD 3 y := by
    simp only [knownL, List.mem_cons, List.not_mem_nil, or_false] at hy
    rcases hy with rfl | rfl | rfl | rfl | rfl | rfl <;> refine ⟨_, rfl, by decide, fun x hx => ?_⟩ <;> simp only [List.mem_cons, List.not_mem_nil, or_false] at hx
    · subst hx; exact clD_of (ts := ["above"]) (d := "first") (by decide +kernel) rfl
    · subst hx; exact clD_of (ts := []) (d := "first") (by decide +kernel) rfl
    · subst hx; exact clD_of (ts := []) (d := "last") (by decide +kernel) rfl
    · rcases hx with rfl | rfl | rfl
      · exact clD_of (ts := ["end", "no short"]) (d := "end") (by decide +kernel) rfl
      · exact clD_of (ts := ["held"]) (d := "held") (by decide +kernel) rfl
      · exact clD_of (ts := []) (d := "first") (by decide +kernel) rfl
    · rcases hx with rfl | rfl | rfl
      · exact clD_of (ts := ["begin"]) (d := "begin") (by decide +kernel) rfl
      · exact clD_of (ts := ["held"]) (d := "held") (by decide +kernel) rfl
      · exact clD_of (ts := ["above"]) (d := "last") (by decide +kernel) rfl
  refine ⟨y, b1, ?_, ny, v1⟩
  have t1 : evE (callF tb (n + 1)) tb.cd (.callB i_L_take 0 [.c (.int 6)]) [.own b, .own (.list knownL)] = some (.int i, [.own b1, .own (.list knownL)]) := e_callB0 rfl h1
  have t2 : evE (callF tb (n + 1)) tb.cd (.idxO 1 (.callB i_L_take 0 [.c (.int 6)])) [.own b, .own (.list knownL)] = some (y, [.own b1, .own (.list knownL)]) := by
    show bnd (evE (callF tb (n + 1)) tb.cd (.callB i_L_take 0 [.c (.int 6)]) [.own b, .own (.list knownL)]) _ = _
    rw [t1]
    show lft _ (idxD (.list knownL) (.int i)) = _
    rw [ey]
    rfl
  have t3 : ∀ r, evSs (callF tb (n + 1)) tb.cd (b_L_known.take 3 ++ r) [.own b, .no] = evSs (callF tb (n + 1)) tb.cd r [.own b, .own (.list knownL)] := fun r => rfl
  rw [q_L_known]
  show runO (evSs _ _ (b_L_known.take 3 ++ [.ret (.idxO 1 (.callB i_L_take 0 [.c (.int 6)]))]) [.own b, .no]) = _
  rw [t3]
  simp [t2]
theorem rule_ok {n : Nat} {m : Int} (hm0 : 4 ≤ m) (hm8 : m ≤ 8) : DrawOK (callF tb (n + 4)) i_L_rule [.int m] 80 (RuleD m.toNat) := by
  intro r b hb
  rw [q_L_rule]
  obtain ⟨_, b1, h1, ⟨way, rfl, w0, w1⟩, v1⟩ := take01 (n := n + 2) (m := 4) (by decide) (by decide) (r + 79) b hb
  have t1 : evE (callF tb (n + 3)) tb.cd (.callB i_L_take 0 [.c (.int 4)]) [.own b, .val (.int m), .no, .no, .no, .no] = some (.int way, [.own b1, .val (.int m), .no, .no, .no, .no]) := e_callB0 rfl h1
  by_cases hw : way = 0
  · subst hw
    obtain ⟨_, b2, h2, ⟨q, rfl, q0, q1⟩, v2⟩ := take01 (n := n + 2) (m := m + 1) (by omega) (by omega) (r + 78) b1 v1
    have t2 : evE (callF tb (n + 3)) tb.cd (.callB i_L_take 0 [.bin .add (.v 1) (.c (.int 1))]) [.own b1, .val (.int m), .val (.int 0), .no, .no, .no] = some (.int q, [.own b2, .val (.int m), .val (.int 0), .no, .no, .no]) := e_callB0 rfl h2
    obtain ⟨ds, b3, e3, c1, c2, c3, c4, c5⟩ := compL_draw (own := [5]) (bt := bindT (.nm 5)) (el := evE (callF tb (n + 3)) tb.cd (.callB i_L_clause 0 [])) (W := fun b => [.own b, .val (.int m), .val (.int 0), .no, .no, .no]) (G := fun b x => [.own b, .val (.int m), .val (.int 0), .no, .no, .val x]) (c := 8) (P := ClD)
      (fun _ _ => rfl) (fun _ _ => rfl) (fun r b x hb => by
        obtain ⟨d, b', g1, g2, g3⟩ := clause_ok (n := n) r b hb
        exact ⟨d, b', e_callB0 rfl g1, g2, g3⟩) (rngL 0 q.toNat) r b2 [.own b2, .val (.int m), .val (.int 0), .no, .no, .no] rfl (v2.less (by rw [rngL_len]; omega))
    have hbk : back [.own b2, .val (.int m), .val (.int 0), .no, .no, .no] e3 [5] = [.own b3, .val (.int m), .val (.int 0), .no, .no, .no] := by
      rw [← back_wipe, c5]
      rfl
    rw [rngL_len] at c2
    have hI : evI (callF tb (n + 3)) tb.cd (.rng (.callB i_L_take 0 [.bin .add (.v 1) (.c (.int 1))])) [.own b1, .val (.int m), .val (.int 0), .no, .no, .no] = some (rngL 0 q.toNat, [.own b2, .val (.int m), .val (.int 0), .no, .no, .no]) := i_rng t2 (by simp [small]; omega)
    have t3 := e_comp0 (env2 := [.own b3, .val (.int m), .val (.int 0), .no, .no, .no]) hI rfl c1 (by show ds.length ≤ 16777216; omega) hbk
    refine ⟨.tuple ds, b3, ?_, ⟨ds, rfl, by omega, c3⟩, c4⟩
    simp [b_L_rule, t1, t3, rd]
  · obtain ⟨_, b2, h2, ⟨xs, rfl, x0, x1⟩, v2⟩ := known_ok (n := n + 1) (r + 78) b1 v1
    obtain ⟨_, b3, h3, ⟨q, rfl, q0, q1⟩, v3⟩ := take01 (n := n + 2) (m := xs.length + 1) (by omega) (by omega) (r + 77) b2 v2
    have t2 : evE (callF tb (n + 3)) tb.cd (.callB i_L_known 0 []) [.own b1, .val (.int m), .val (.int way), .no, .no, .no] = some (.tuple xs, [.own b2, .val (.int m), .val (.int way), .no, .no, .no]) := e_callB0 rfl h2
    have t3 : evE (callF tb (n + 3)) tb.cd (.callB i_L_take 0 [.bin .add (.f1 .len (.v 3)) (.c (.int 1))]) [.own b2, .val (.int m), .val (.int way), .val (.tuple xs), .no, .no] = some (.int q, [.own b3, .val (.int m), .val (.int way), .val (.tuple xs), .no, .no]) := e_callB0 rfl h3
    obtain ⟨d, b4, h4, nd, v4⟩ := clause_ok (n := n) (r + 69) b3 (v3.less (by omega))
    have t4 : evE (callF tb (n + 3)) tb.cd (.callB i_L_clause 0 []) [.own b3, .val (.int m), .val (.int way), .val (.tuple xs), .val (.int q), .no] = some (d, [.own b4, .val (.int m), .val (.int way), .val (.tuple xs), .val (.int q), .no]) := e_callB0 rfl h4
    have l1 := cut_len xs none (some q)
    have l2 := cut_len xs (some q) none
    have l3 := cut_len xs (some (q + 1)) none
    have cm : ∀ {lo hi : Option Int}, ∀ x ∈ cut xs lo hi, ClD x := fun {lo hi} x hx => x1 x (cut_mem hx)
    have ap : ∀ {us vs : List D}, (∀ x ∈ us, ClD x) → (∀ x ∈ vs, ClD x) → ∀ x ∈ us ++ vs, ClD x := fun h1 h2 x hx => (List.mem_append.mp hx).elim (h1 x) (h2 x)
    have ln : ∀ us : List D, (cut us none (some m)).length ≤ m.toNat := fun us => by
      rw [cut_take' _ (by omega), List.length_take]
      exact Nat.min_le_left _ _
    by_cases hw1 : way = 1
    · subst hw1
      have a1 := tup_add (xs := cut xs none (some q)) (ys := [d]) (by show _ + 1 ≤ 16777216; omega)
      have a2 := tup_add (xs := cut xs none (some q) ++ [d]) (ys := cut xs (some q) none) (by rw [List.length_append]; show _ + 1 + _ ≤ 16777216; omega)
      refine ⟨.tuple (cut (cut xs none (some q) ++ [d] ++ cut xs (some q) none) none (some m)), b4, ?_, ⟨_, rfl, ln _, fun x hx => ap (ap cm fun y hy => by rw [List.mem_singleton.mp hy]; exact nd) cm x (cut_mem hx)⟩, v4.less (by omega)⟩
      simp only [List.append_assoc] at a2 ⊢
      simp [b_L_rule, t1, t2, t3, t4, rd, a1, a2, SZ]
    · by_cases hw2 : way = 2
      · subst hw2
        obtain ⟨_, b5, h5, ⟨k, rfl, k0, k1⟩, v5⟩ := take01 (n := n + 2) (m := 2) (by decide) (by decide) (r + 68) b4 v4
        have t5 : evE (callF tb (n + 3)) tb.cd (.callB i_L_take 0 [.c (.int 2)]) [.own b4, .val (.int m), .val (.int 2), .val (.tuple xs), .val (.int q), .no] = some (.int k, [.own b5, .val (.int m), .val (.int 2), .val (.tuple xs), .val (.int q), .no]) := e_callB0 rfl h5
        have m1 := tup_mul (xs := [d]) (k := k) k0 (by omega) (by simp)
        have l4 : ((List.replicate k.toNat [d]).flatten).length ≤ 1 := by
          rw [List.length_flatten, List.map_replicate, List.sum_replicate_nat, List.length_singleton]
          omega
        have nm : ∀ x ∈ (List.replicate k.toNat [d]).flatten, ClD x := fun x hx => by
          obtain ⟨l, hl, hx⟩ := List.mem_flatten.mp hx
          have := List.eq_of_mem_replicate hl
          subst this
          have : x = d := by simpa using hx
          rw [this]; exact nd
        generalize (List.replicate k.toNat [d]).flatten = ms at m1 l4 nm
        have a1 := tup_add (xs := cut xs none (some q)) (ys := ms) (by show _ ≤ 16777216; omega)
        have a2 := tup_add (xs := cut xs none (some q) ++ ms) (ys := cut xs (some (q + 1)) none) (by rw [List.length_append]; show _ ≤ 16777216; omega)
        refine ⟨.tuple (cut (cut xs none (some q) ++ ms ++ cut xs (some (q + 1)) none) none (some m)), b5, ?_, ⟨_, rfl, ln _, fun x hx => ap (ap cm nm) cm x (cut_mem hx)⟩, v5.less (by omega)⟩
        simp only [List.append_assoc] at a2 ⊢
        simp [b_L_rule, t1, t2, t3, t4, t5, rd, a1, a2, m1, SZ]
      · refine ⟨.tuple (cut xs none (some m)), b3, ?_, ⟨_, rfl, ln _, fun x hx => x1 x (cut_mem hx)⟩, v3.less (by omega)⟩
        simp [b_L_rule, t1, t2, t3, rd, hw, hw1, hw2]

def sizesL : List D := [.tuple [.int 1, .int 2], .tuple [.int 1, .int 3], .tuple [.int 2, .int 2], .tuple [.int 2, .int 2], .tuple [.int 2, .int 3], .tuple [.int 3, .int 2], .tuple [.int 1, .int 4], .tuple [.int 2, .int 1], .tuple [.int 2, .int 4]]
def scrD (s : Scr) : D := .tuple [.int s.h, .int s.s, .int s.t, .int s.m]
/-- a screen as the laws draw it -/
structure ScrOK (s : Scr) : Prop where
  h1 : 1 ≤ s.h
  h2 : s.h ≤ 4
  s1 : 1 ≤ s.s
  s2 : s.s ≤ 4
  tm : (s.t, s.m) ∈ sizes8
def ScrDr (wide : Bool) (d : D) : Prop := ∃ s, ScrOK s ∧ d = scrD s ∧ (wide = false → (s.t, s.m) ≠ (2, 4) ∧ s.h ≤ 3)
theorem screen_ok {n : Nat} (wide : Bool) : DrawOK (callF tb (n + 2)) i_L_screen [.bool wide] 3 (ScrDr wide) := by
  intro r b hb
  obtain ⟨_, b1, h1, ⟨i, rfl, i0, i1⟩, v1⟩ := take01 (n := n) (m := 8 + (if wide then 1 else 0)) (by cases wide <;> decide) (by cases wide <;> decide) (r + 2) b hb
  obtain ⟨_, b2, h2, ⟨j, rfl, j0, j1⟩, v2⟩ := take01 (n := n) (m := if wide then 4 else 3) (by cases wide <;> decide) (by cases wide <;> decide) (r + 1) b1 v1
  obtain ⟨_, b3, h3, ⟨k, rfl, k0, k1⟩, v3⟩ := take01 (n := n) (m := 3) (by decide) (by decide) r b2 v2
  have ex : ∃ y, idxD (.list sizesL) (.int i) = some y ∧ ∃ u v, y = .tuple [.int u, .int v] ∧ (u, v) ∈ sizes8 ∧ (wide = false → (u, v) ≠ (2, 4)) := by
    have all : ∀ y ∈ sizesL, (match y with | .tuple [.int u, .int v] => decide ((u, v) ∈ sizes8) | _ => false) = true := by decide +kernel
    have all8 : ∀ y ∈ sizesL.take 8, (match y with | .tuple [.int u, .int v] => decide ((u, v) ≠ (2, 4)) | _ => false) = true := by decide +kernel
    have hl : i.toNat < sizesL.length := by
      have : sizesL.length = 9 := rfl
      cases wide <;> simp at i1 <;> omega
    have e : idxD (.list sizesL) (.int i) = some sizesL[i.toNat] := by
      have e : L2.ixN sizesL.length i = some i.toNat := by
        unfold L2.ixN
        simp [i0]
        omega
      show (L2.ixN sizesL.length i).bind _ = _
      rw [e]
      simp
    refine ⟨_, e, ?_⟩
    have q := all _ (List.getElem_mem hl)
    have q8 : wide = false → (match sizesL[i.toNat] with | .tuple [.int u, .int v] => decide ((u, v) ≠ (2, 4)) | _ => false) = true := fun hw => by
      subst hw
      refine all8 _ ?_
      have h8 : i.toNat < 8 := by simp at i1; omega
      rw [List.mem_take_iff_getElem]
      exact ⟨i.toNat, by have : sizesL.length = 9 := rfl; omega, rfl⟩
    generalize sizesL[i.toNat] = y at q q8
    split at q
    · exact ⟨_, _, rfl, of_decide_eq_true q, fun hw => of_decide_eq_true (q8 hw)⟩
    · cases q
  obtain ⟨y, ey, u, v, rfl, huv, hnw⟩ := ex
  refine ⟨_, b3, ?_, ⟨⟨1 + j, 1 + k, u, v⟩, ⟨by show 1 ≤ 1 + j; omega, by show 1 + j ≤ 4; cases wide <;> simp at j1 <;> omega, by show 1 ≤ 1 + k; omega, by show 1 + k ≤ 4; omega, huv⟩, rfl, fun hw => ⟨hnw hw, by subst hw; show 1 + j ≤ 3; simp at j1; omega⟩⟩, v3⟩
  rw [q_L_screen]
  have t1 : evE (callF tb (n + 1)) tb.cd (.callB i_L_take 0 [.bin .add (.c (.int 8)) (.f1 .int (.v 1))]) [.own b, .val (.bool wide), .no, .no] = some (.int i, [.own b1, .val (.bool wide), .no, .no]) := e_callB0 rfl h1
  have t2 : evE (callF tb (n + 1)) tb.cd (.callB i_L_take 0 [.ife (.v 1) (.c (.int 4)) (.c (.int 3))]) [.own b1, .val (.bool wide), .val (.int u), .val (.int v)] = some (.int j, [.own b2, .val (.bool wide), .val (.int u), .val (.int v)]) := e_callB0 (by cases wide <;> rfl) h2
  have t3 : evE (callF tb (n + 1)) tb.cd (.callB i_L_take 0 [.c (.int 3)]) [.own b2, .val (.bool wide), .val (.int u), .val (.int v)] = some (.int k, [.own b3, .val (.bool wide), .val (.int u), .val (.int v)]) := e_callB0 rfl h3
  have t4 : evS (callF tb (n + 1)) tb.cd (b_L_screen.getD 0 .rse) [.own b, .val (.bool wide), .no, .no] = some (.nx [.own b1, .val (.bool wide), .val (.int u), .val (.int v)]) := by
    unfold sizesL at ey
    simp [b_L_screen, t1, ey, SZ]
  show runO (evSs _ _ (b_L_screen.getD 0 .rse :: b_L_screen.drop 1) _) = _
  rw [ss_cons', t4]
  simp [b_L_screen, t2, t3, rd, SZ, scrD]
end Mi
end
section
set_option Elab.async false
set_option linter.all false
set_option maxRecDepth 100000
set_option maxHeartbeats 4000000
namespace Mi
open PySem PySem.Spec PyProof.Rows L2
def topS (i : Nat) : Stmt := PySem.Challenge.pw_stillrows_k01_screens_and_rules_recogniz.main.body.getD i (.Pass ⟨0, 0, 0, 0⟩)
def fnsT : List (Str × Nat × Bool) := ([("is_within", 0, false), ("power", 1, false), ("is_screen", 2, false), ("is_one_of", 3, false), ("is_test", 4, false), ("is_clause", 5, false), ("is_rule", 6, false), ("_law_well", 7, false), ("_law_take", 8, true), ("_law_same", 9, false), ("_law_tests", 10, false), ("_law_deeds", 11, false), ("_law_test", 12, true), ("_law_clause", 13, true), ("_law_known", 14, true), ("_law_rule", 15, true), ("_law_screen", 16, true), ("_law_whole", 17, false), ("_law_is_screen", 18, false), ("_law_is_clause", 19, false), ("_law_is_rule", 20, false), ("_law_odd", 21, true)] : List (String × Nat × Bool)).map fun p => (Str.ofString p.1, p.2)
def cnsT : List (Str × Nat) := [("TESTS", 0), ("DEEDS", 1), ("READER", 2), ("TALK", 3), ("MOST_CLAUSES", 4)]
def bsT : List Str := ["len", "list", "tuple", "int", "all", "bool", "isinstance", "str", "range", "enumerate", "zip"]
abbrev st_is_within : Stmt := topS 1
abbrev st_power : Stmt := topS 2
abbrev st_is_screen : Stmt := topS 3
abbrev st_is_one_of : Stmt := topS 10
abbrev st_is_test : Stmt := topS 11
abbrev st_is_clause : Stmt := topS 12
abbrev st_is_rule : Stmt := topS 13
abbrev st_L_well : Stmt := topS 15
abbrev st_L_take : Stmt := topS 16
abbrev st_L_same : Stmt := topS 18
abbrev st_L_tests : Stmt := topS 19
abbrev st_L_deeds : Stmt := topS 20
abbrev st_L_test : Stmt := topS 21
abbrev st_L_clause : Stmt := topS 22
abbrev st_L_known : Stmt := topS 23
abbrev st_L_rule : Stmt := topS 24
abbrev st_L_screen : Stmt := topS 25
abbrev st_L_whole : Stmt := topS 29
abbrev st_L_is_screen : Stmt := topS 30
abbrev st_L_is_clause : Stmt := topS 31
abbrev st_L_is_rule : Stmt := topS 32
abbrev st_L_odd_k01 : Stmt := topS 33
abbrev st_law : Stmt := topS 34
def n_law : List Str := ["script", "bag", "rule", "screen", "some", "turn", "one"]
def mu_law : List Str := ["bag", "some"]
abbrev st_L_bags : Stmt := topS 17
def n_L_bags : List Str := ["script", "most", "k", "cell"]
def mu_L_bags : List Str := []
def b_law_body : List S := [.par [2, 3] [(.e (.callB i_L_rule 1 [(.c (.int 8))])), (.e (.callB i_L_screen 1 [(.c (.bool true))]))], .asg 4 (.lst [(.v 2), (.bin .add (.v 2) (.bin .mul (.tup [(.tup [(.tup [(.c (.str "end"))]), (.c (.str "end"))])]) (.bin .sub (.c (.int 9)) (.f1 .len (.v 2))))), (.bin .add (.v 2) (.tup [(.tup [(.bin .mul (.tup [(.c (.str "end"))]) (.c (.int 4))), (.c (.str "stay"))])])), (.g 2), (.g 3)]), .for_ (.nm 5) (.rng (.c (.int 15))) [.app 4 (.callB i_L_odd_k01 1 [(.v 2)])], .iff (.cmp .ne (.comp [6] (.c (.int 1)) (.nm 6) (.val (.v 4)) [(.nt (.call i_L_same [(.call i_is_rule [(.v 6)]), (.call i_L_is_rule [(.v 6)])]))]) (.lst [])) [.ret (.c (.bool false))] [], .asg 4 (.lst [(.v 3), (.bin .add (.slc (.v 3) none (some (.c (.int 2)))) (.tup [(.c (.int 3)), (.c (.int 3))])), (.bin .add (.slc (.v 3) none (some (.c (.int 2)))) (.tup [(.bin .add (.c (.int 1)) (.callB i_L_take 1 [(.c (.int 4))])), (.callB i_L_take 1 [(.c (.int 6))])]))]), .for_ (.nm 5) (.rng (.c (.int 15))) [.app 4 (.callB i_L_odd_k01 1 [(.v 3)])], .iff (.cmp .ne (.comp [6] (.c (.int 1)) (.nm 6) (.val (.v 4)) [(.nt (.call i_L_same [(.call i_is_screen [(.v 6)]), (.call i_L_is_screen [(.v 6)])]))]) (.lst [])) [.ret (.c (.bool false))] []]
def b_law_rest : List S := [.ret (.and (.call i_is_screen [(.tup [(.c (.int 4)), (.c (.int 4)), (.c (.int 2)), (.c (.int 4))])]) (.and (.nt (.call i_is_screen [(.tup [(.c (.int 4)), (.c (.int 4)), (.c (.int 3)), (.c (.int 3))])])) (.call i_is_screen [(.tup [(.c (.int 1)), (.c (.int 1)), (.c (.int 1)), (.c (.int 4))])])))]
theorem c_is_within : cpSs 60 (ccOf n_is_within (defScope st_is_within) mu_is_within fnsT cnsT bsT) (defBody st_is_within) = some b_is_within := by kernel_rfl
theorem s_is_within : FnScope n_is_within ["value", "low", "high"] (defScope st_is_within) := scOk (by decide +kernel)
theorem c_power : cpSs 60 (ccOf n_power (defScope st_power) mu_power fnsT cnsT bsT) (defBody st_power) = some b_power := by kernel_rfl
theorem s_power : FnScope n_power ["base", "times"] (defScope st_power) := scOk (by decide +kernel)
theorem c_is_screen : cpSs 60 (ccOf n_is_screen (defScope st_is_screen) mu_is_screen fnsT cnsT bsT) (defBody st_is_screen) = some b_is_screen := by kernel_rfl
theorem s_is_screen : FnScope n_is_screen ["value"] (defScope st_is_screen) := scOk (by decide +kernel)
theorem c_is_one_of : cpSs 60 (ccOf n_is_one_of (defScope st_is_one_of) mu_is_one_of fnsT cnsT bsT) (defBody st_is_one_of) = some b_is_one_of := by kernel_rfl
theorem s_is_one_of : FnScope n_is_one_of ["value", "some"] (defScope st_is_one_of) := scOk (by decide +kernel)
theorem c_is_test : cpSs 60 (ccOf n_is_test (defScope st_is_test) mu_is_test fnsT cnsT bsT) (defBody st_is_test) = some b_is_test := by kernel_rfl
theorem s_is_test : FnScope n_is_test ["value"] (defScope st_is_test) := scOk (by decide +kernel)
theorem c_is_clause : cpSs 60 (ccOf n_is_clause (defScope st_is_clause) mu_is_clause fnsT cnsT bsT) (defBody st_is_clause) = some b_is_clause := by kernel_rfl
theorem s_is_clause : FnScope n_is_clause ["value"] (defScope st_is_clause) := scOk (by decide +kernel)
theorem c_is_rule : cpSs 60 (ccOf n_is_rule (defScope st_is_rule) mu_is_rule fnsT cnsT bsT) (defBody st_is_rule) = some b_is_rule := by kernel_rfl
theorem s_is_rule : FnScope n_is_rule ["value"] (defScope st_is_rule) := scOk (by decide +kernel)
theorem c_L_well : cpSs 60 (ccOf n_L_well (defScope st_L_well) mu_L_well fnsT cnsT bsT) (defBody st_L_well) = some b_L_well := by kernel_rfl
theorem s_L_well : FnScope n_L_well ["cell", "turn"] (defScope st_L_well) := scOk (by decide +kernel)
theorem c_L_take : cpSs 60 (ccOf n_L_take (defScope st_L_take) mu_L_take fnsT cnsT bsT) (defBody st_L_take) = some b_L_take := by kernel_rfl
theorem s_L_take : FnScope n_L_take ["bag", "many"] (defScope st_L_take) := scOk (by decide +kernel)
theorem c_L_same : cpSs 60 (ccOf n_L_same (defScope st_L_same) mu_L_same fnsT cnsT bsT) (defBody st_L_same) = some b_L_same := by kernel_rfl
theorem s_L_same : FnScope n_L_same ["a", "b"] (defScope st_L_same) := scOk (by decide +kernel)
theorem c_L_tests : cpSs 60 (ccOf n_L_tests (defScope st_L_tests) mu_L_tests fnsT cnsT bsT) (defBody st_L_tests) = some b_L_tests := by kernel_rfl
theorem s_L_tests : FnScope n_L_tests [] (defScope st_L_tests) := scOk (by decide +kernel)
theorem c_L_deeds : cpSs 60 (ccOf n_L_deeds (defScope st_L_deeds) mu_L_deeds fnsT cnsT bsT) (defBody st_L_deeds) = some b_L_deeds := by kernel_rfl
theorem s_L_deeds : FnScope n_L_deeds [] (defScope st_L_deeds) := scOk (by decide +kernel)
theorem c_L_test : cpSs 60 (ccOf n_L_test (defScope st_L_test) mu_L_test fnsT cnsT bsT) (defBody st_L_test) = some b_L_test := by kernel_rfl
theorem s_L_test : FnScope n_L_test ["bag"] (defScope st_L_test) := scOk (by decide +kernel)
theorem c_L_clause : cpSs 60 (ccOf n_L_clause (defScope st_L_clause) mu_L_clause fnsT cnsT bsT) (defBody st_L_clause) = some b_L_clause := by kernel_rfl
theorem s_L_clause : FnScope n_L_clause ["bag"] (defScope st_L_clause) := scOk (by decide +kernel)
theorem c_L_known : cpSs 60 (ccOf n_L_known (defScope st_L_known) mu_L_known fnsT cnsT bsT) (defBody st_L_known) = some b_L_known := by kernel_rfl
theorem s_L_known : FnScope n_L_known ["bag"] (defScope st_L_known) := scOk (by decide +kernel)
theorem c_L_rule : cpSs 60 (ccOf n_L_rule (defScope st_L_rule) mu_L_rule fnsT cnsT bsT) (defBody st_L_rule) = some b_L_rule := by kernel_rfl
theorem s_L_rule : FnScope n_L_rule ["bag", "most"] (defScope st_L_rule) := scOk (by decide +kernel)
theorem c_L_screen : cpSs 60 (ccOf n_L_screen (defScope st_L_screen) mu_L_screen fnsT cnsT bsT) (defBody st_L_screen) = some b_L_screen := by kernel_rfl
theorem s_L_screen : FnScope n_L_screen ["bag", "wide"] (defScope st_L_screen) := scOk (by decide +kernel)
theorem c_L_whole : cpSs 60 (ccOf n_L_whole (defScope st_L_whole) mu_L_whole fnsT cnsT bsT) (defBody st_L_whole) = some b_L_whole := by kernel_rfl
theorem s_L_whole : FnScope n_L_whole ["value", "low", "high"] (defScope st_L_whole) := scOk (by decide +kernel)
theorem c_L_is_screen : cpSs 60 (ccOf n_L_is_screen (defScope st_L_is_screen) mu_L_is_screen fnsT cnsT bsT) (defBody st_L_is_screen) = some b_L_is_screen := by kernel_rfl
theorem s_L_is_screen : FnScope n_L_is_screen ["value"] (defScope st_L_is_screen) := scOk (by decide +kernel)
theorem c_L_is_clause : cpSs 60 (ccOf n_L_is_clause (defScope st_L_is_clause) mu_L_is_clause fnsT cnsT bsT) (defBody st_L_is_clause) = some b_L_is_clause := by kernel_rfl
theorem s_L_is_clause : FnScope n_L_is_clause ["value"] (defScope st_L_is_clause) := scOk (by decide +kernel)
theorem c_L_is_rule : cpSs 60 (ccOf n_L_is_rule (defScope st_L_is_rule) mu_L_is_rule fnsT cnsT bsT) (defBody st_L_is_rule) = some b_L_is_rule := by kernel_rfl
theorem s_L_is_rule : FnScope n_L_is_rule ["value"] (defScope st_L_is_rule) := scOk (by decide +kernel)
theorem c_L_odd_k01 : cpSs 60 (ccOf n_L_odd_k01 (defScope st_L_odd_k01) mu_L_odd_k01 fnsT cnsT bsT) (defBody st_L_odd_k01) = some b_L_odd_k01 := by kernel_rfl
theorem s_L_odd_k01 : FnScope n_L_odd_k01 ["bag", "value"] (defScope st_L_odd_k01) := scOk (by decide +kernel)
end Mi
end
section
set_option Elab.async false
set_option linter.all false
set_option maxRecDepth 100000
set_option maxHeartbeats 4000000
namespace Mi
open PySem
theorem tests_nice : ∀ s ∈ tests22, nice 20 (.str s) = true := by decide +kernel
theorem deeds_nice : ∀ s ∈ deedsS, nice 20 (.str s) = true := by decide +kernel
theorem depth_strs : ∀ ts : List Str, PyData.depthAll (ts.map PyData.str) ≤ 0
  | [] => Nat.le_refl _
  | t :: r => by
    rw [List.map_cons, PyData.depthAll]
    exact Nat.max_le.mpr ⟨Nat.le_refl _, depth_strs r⟩
theorem cl_nice {x : D} (h : ClD x) : nice 20 x = true ∧ PyData.depth x ≤ 2 := by
  obtain ⟨c, h, rfl⟩ := h
  have n1 : niceL 20 (c.1.map PyData.str) = true := niceL_all.mpr fun x hx => by
    obtain ⟨s, hs, rfl⟩ := List.mem_map.mp hx
    exact tests_nice s (h.ts s hs)
  have n2 := tup_nice (m := 20) (by rw [List.length_map]; have := h.len; omega) n1
  refine ⟨tup_nice (by simp) (by rw [niceL, niceL, niceL, n2, deeds_nice _ h.d]; rfl), ?_⟩
  have := depth_strs c.1
  simp only [clD, PyData.depth, PyData.depthAll]
  omega
theorem depthAll_le {k : Nat} : ∀ {xs : List D}, (∀ x ∈ xs, PyData.depth x ≤ k) → PyData.depthAll xs ≤ k
  | [], _ => Nat.zero_le _
  | x :: r, h => by
    rw [PyData.depthAll]
    exact Nat.max_le.mpr ⟨h x List.mem_cons_self, depthAll_le fun y hy => h y (List.mem_cons_of_mem _ hy)⟩
theorem rule_nice {k : Nat} (hk : k ≤ 20) {d : D} (h : RuleD k d) : nice 20 d = true ∧ PyData.depth d ≤ 3 := by
  obtain ⟨xs, rfl, l, a⟩ := h
  refine ⟨tup_nice (by omega) (niceL_all.mpr fun x hx => (cl_nice (a x hx)).1), ?_⟩
  have := depthAll_le (k := 2) fun x hx => (cl_nice (a x hx)).2
  simp only [PyData.depth]
  omega
def oddL : List D := [.none, .bool true, .int 0, .int 1, .int 2, .int 3, .int 4, .int 5, .int (-1), .int (10 ^ 20), .str "", .str "no", .str "no end", .str "noxend", .str "no  end", .str "End", .str "end", .str "first", .str "above", .str "high", .str "stay", .str "no stay", .str "no no end", .tuple [], .list [], .tuple [.str "end"], .tuple [.tuple [], .str "end"], .tuple [.int 1, .int 2]]

def oddLeaf : List S := [.asg 2 (.e (.lst [(.c .none), (.c (.bool true)), (.c (.int 0)), (.c (.int 1)), (.c (.int 2)), (.c (.int 3)), (.c (.int 4)), (.c (.int 5)), (.neg (.c (.int 1))), (.bin .pow (.c (.int 10)) (.c (.int 20))), (.c (.str "")), (.c (.str "no")), (.c (.str "no end")), (.c (.str "noxend")), (.c (.str "no  end")), (.c (.str "End")), (.c (.str "end"))])), .asg 2 (.e (.bin .add (.v 2) (.lst [(.c (.str "first")), (.c (.str "above")), (.c (.str "high")), (.c (.str "stay")), (.c (.str "no stay")), (.c (.str "no no end")), (.tup []), (.lst []), (.tup [(.c (.str "end"))]), (.tup [(.tup []), (.c (.str "end"))]), (.tup [(.c (.int 1)), (.c (.int 2))])]))), .ret (.idx (.v 2) (.callB i_L_take 0 [(.c (.int 28))]))]
def oddC : E := .or (.nt (.isi (.v 1) [.tup])) (.cmp .eq (.callB i_L_take 0 [.c (.int 4)]) (.c (.int 0)))
def oddRest : List S := b_L_odd_k01.drop 1
theorem odd_split : b_L_odd_k01 = .iff oddC oddLeaf [] :: oddRest := rfl
theorem odd_leaf {n : Nat} {v : D} {r : Nat} {b b0 : D} (hb : Vb (r + 1) b) {e0 : Ev} (he : e0 = [.own b, .val v, .no, .no, .no]) : ∃ d b' env, evSs (callF tb (n + 1)) tb.cd oddLeaf e0 = some (.rt d env) ∧ env.getD 0 .no = .own b' ∧ nice 20 d = true ∧ Vb r b' := by
  subst he
  obtain ⟨_, b1, h1, ⟨i, rfl, i0, i1⟩, v1⟩ := take01 (n := n) (m := 28) (by decide) (by decide) r b hb
  obtain ⟨y, hy, ey⟩ := idx_mem (xs := oddL) i0 i1
  have ny : nice 20 y = true := by
    have : ∀ y ∈ oddL, nice 20 y = true := by decide +kernel
    exact this y hy
  have t1 : evE (callF tb (n + 1)) tb.cd (.callB i_L_take 0 [.c (.int 28)]) [.own b, .val v, .val (.list oddL), .no, .no] = some (.int i, [.own b1, .val v, .val (.list oddL), .no, .no]) := e_callB0 rfl h1
  refine ⟨y, b1, [.own b1, .val v, .val (.list oddL), .no, .no], ?_, rfl, ny, v1⟩
  unfold oddLeaf
  rw [two_s (e2 := [.own b, .val v, .val (.list oddL), .no, .no]) rfl]
  simp [t1, rd, ey]

theorem depth_mem : ∀ {xs : List D} {x : D}, x ∈ xs → PyData.depth x ≤ PyData.depthAll xs
  | y :: ys, x, h => by
    rw [PyData.depthAll]
    rcases List.mem_cons.mp h with rfl | h
    · exact Nat.le_max_left _ _
    · exact Nat.le_trans (depth_mem h) (Nat.le_max_right _ _)
theorem idx_tup {xs : List D} {i : Int} (h0 : 0 ≤ i) (h1 : i < xs.length) : ∃ x ∈ xs, idxD (.tuple xs) (.int i) = some x := idx_mem h0 h1
theorem odd_ok {n : Nat} : ∀ (k : Nat) (v : D), nice 20 v = true → PyData.depth v ≤ k → DrawOK (callF tb (n + k + 2)) i_L_odd_k01 [v] (6 * (k + 1)) fun d => nice 21 d = true := by
  intro k
  induction k with
  | zero =>
    intro v nv dv r b hb
    have nt : isTy v .tup = false := by
      cases v <;> first | rfl | (simp [PyData.depth] at dv)
    obtain ⟨d, b', env, h1, h2, h3, h4⟩ := odd_leaf (n := n) (v := v) (r := r) (b0 := b) (hb.less (by omega)) rfl
    refine ⟨d, b', call_own (n := n + 1) (t := tb) (f := i_L_odd_k01) (ps := ["bag", "value"]) (N := n_L_odd_k01) (body := b_L_odd_k01) (args := [v]) rfl rfl ?_ h2, nice_more (by decide) h3, h4⟩
    show evSs _ _ _ [.own b, .val v, .no, .no, .no] = _
    have c1 : evE (callF tb (n + 1)) tb.cd oddC [.own b, .val v, .no, .no, .no] = some (.bool true, [.own b, .val v, .no, .no, .no]) := by
      simp [oddC, rd, nice_dict nv, nt]
    rw [odd_split, ss_cons', s_iff, c1]
    simp only [bnd_some, br_b, if_true, h1, sq_rt]
  | succ k ih =>
    intro v nv dv r b hb
    have eta : ∀ {d : D} {b' : D} {env : Ev}, evSs (callF tb (n + k + 2)) tb.cd b_L_odd_k01 [.own b, .val v, .no, .no, .no] = some (.rt d env) → env.getD 0 .no = .own b' → callF tb (n + k + 3) i_L_odd_k01 [b, v] = some (d, some b') := fun h h0 => call_own (n := n + k + 2) (t := tb) (f := i_L_odd_k01) (ps := ["bag", "value"]) (N := n_L_odd_k01) (body := b_L_odd_k01) (args := [v]) rfl rfl h h0
    by_cases ht : isTy v .tup = true
    · obtain ⟨xs, rfl⟩ : ∃ xs, v = .tuple xs := by cases v <;> first | exact ⟨_, rfl⟩ | cases ht
      obtain ⟨lx, nx⟩ := nice_tup nv
      obtain ⟨_, b1, h1, ⟨q, rfl, q0, q1⟩, v1⟩ := take01 (n := n + k + 1) (m := 4) (by decide) (by decide) (r + 6 * (k + 1) + 5) b (hb.less (by omega))
      have t1 : evE (callF tb (n + k + 2)) tb.cd (.callB i_L_take 0 [.c (.int 4)]) [.own b, .val (.tuple xs), .no, .no, .no] = some (.int q, [.own b1, .val (.tuple xs), .no, .no, .no]) := e_callB0 rfl h1
      have c1 : evE (callF tb (n + k + 2)) tb.cd oddC [.own b, .val (.tuple xs), .no, .no, .no] = some (.bool (decide (q = 0)), [.own b1, .val (.tuple xs), .no, .no, .no]) := by
        simp [oddC, rd, noDict, isTy, t1]
      by_cases hq : q = 0
      · obtain ⟨d, b', env, g1, g2, g3, g4⟩ := odd_leaf (n := n + k + 1) (v := .tuple xs) (r := r) (b0 := b) (v1.less (by omega)) rfl
        refine ⟨d, b', eta (env := env) ?_ g2, nice_more (by decide) g3, g4⟩
        rw [odd_split, ss_cons', s_iff, c1]
        simp only [bnd_some, br_b, hq, decide_true, if_true, g1, sq_rt]
      · -- a change somewhere
        obtain ⟨_, b2, h2, ⟨at', rfl, a0, a1⟩, v2⟩ := take01 (n := n + k + 1) (m := xs.length + 1) (by omega) (by omega) (r + 6 * (k + 1) + 4) b1 v1
        obtain ⟨_, b3, h3, ⟨way, rfl, w0, w1⟩, v3⟩ := take01 (n := n + k + 1) (m := 5) (by decide) (by decide) (r + 6 * (k + 1) + 3) b2 v2
        have t2 : evE (callF tb (n + k + 2)) tb.cd (.callB i_L_take 0 [.bin .add (.f1 .len (.v 1)) (.c (.int 1))]) [.own b1, .val (.tuple xs), .no, .no, .no] = some (.int at', [.own b2, .val (.tuple xs), .no, .no, .no]) := e_callB0 rfl h2
        have t3 : evE (callF tb (n + k + 2)) tb.cd (.callB i_L_take 0 [.c (.int 5)]) [.own b2, .val (.tuple xs), .no, .no, .no] = some (.int way, [.own b3, .val (.tuple xs), .no, .no, .no]) := e_callB0 rfl h3
        -- one item otherwise
        obtain ⟨d1, b4, h4, n4, v4⟩ := ih .none rfl (Nat.zero_le _) r b3 (v3.less (by omega))
        have t4 : evE (callF tb (n + k + 2)) tb.cd (.callB i_L_odd_k01 0 [.c .none]) [.own b3, .val (.tuple xs), .no, .val (.int at'), .val (.int way)] = some (d1, [.own b4, .val (.tuple xs), .no, .val (.int at'), .val (.int way)]) := e_callB0 rfl h4
        have l1 := cut_len xs none (some at')
        have l2 := cut_len xs (some at') none
        have l3 := cut_len xs (some (at' + 1)) none
        have l4 := cut_len xs (some at') (some (at' + 1))
        have go : ∀ {d : D} {b' : D} {env : Ev}, evSs (callF tb (n + k + 2)) tb.cd (oddRest.drop 1) [.own b3, .val (.tuple xs), .no, .val (.int at'), .val (.int way)] = some (.rt d env) → env.getD 0 .no = .own b' → callF tb (n + k + 3) i_L_odd_k01 [b, .tuple xs] = some (d, some b') := fun h h0 => by
          refine eta ?_ h0
          have e1 : oddRest = .par [3, 4] [(.e (.callB i_L_take 0 [(.bin .add (.f1 .len (.v 1)) (.c (.int 1)))])), (.e (.callB i_L_take 0 [(.c (.int 5))]))] :: oddRest.drop 1 := rfl
          rw [odd_split, ss_cons', s_iff, c1]
          simp only [bnd_some, br_b, hq, decide_false, Bool.false_eq_true, if_false, ss_nil', sq_nx]
          rw [e1, ss_cons']
          simp only [s_par, ol_cons, os_e', t2, t3, ol_nil, setAll_cons, setAll_nil, bnd_some, sq_nx]
          exact h
        have cn : ∀ {lo hi : Option Int}, niceL 21 (cut xs lo hi) = true := fun {lo hi} => cut_nice (niceL_more (by decide) nx)
        have cl : ∀ {lo hi : Option Int}, (cut xs lo hi).length ≤ 20 := fun {lo hi} => Nat.le_trans (cut_len xs lo hi) lx
        have rest1 : oddRest.drop 1 = [.iff (.cmp .eq (.v 4) (.c (.int 0))) [.ret (.f1 .list (.v 1))] [], .iff (.or (.cmp .eq (.v 4) (.c (.int 1))) (.cmp .eq (.v 3) (.f1 .len (.v 1)))) [.ret (.bin .add (.bin .add (.slc (.v 1) none (some (.v 3))) (.tup [(.callB i_L_odd_k01 0 [(.c .none)])])) (.slc (.v 1) (some (.v 3)) none))] [], .iff (.cmp .eq (.v 4) (.c (.int 2))) [.ret (.bin .add (.bin .add (.slc (.v 1) none (some (.v 3))) (.slc (.v 1) (some (.v 3)) (some (.bin .add (.v 3) (.c (.int 1)))))) (.slc (.v 1) (some (.v 3)) none))] [], .iff (.cmp .eq (.v 4) (.c (.int 3))) [.ret (.bin .add (.slc (.v 1) none (some (.v 3))) (.slc (.v 1) (some (.bin .add (.v 3) (.c (.int 1)))) none))] [], .ret (.bin .add (.bin .add (.slc (.v 1) none (some (.v 3))) (.tup [(.callB i_L_odd_k01 0 [(.idx (.v 1) (.v 3))])])) (.slc (.v 1) (some (.bin .add (.v 3) (.c (.int 1)))) none))] := rfl
        rw [rest1] at go
        by_cases hw0 : way = 0
        · subst hw0
          refine ⟨.list xs, b3, go (env := [.own b3, .val (.tuple xs), .no, .val (.int at'), .val (.int 0)]) ?_ rfl, lst_nice (by omega) (niceL_more (by decide) nx), v3.less (by omega)⟩
          simp [rd]
        by_cases hw1 : way = 1 ∨ at' = xs.length
        · have a1 := tup_add (xs := cut xs none (some at')) (ys := [d1]) (by show _ + 1 ≤ 16777216; have := cl (lo := none) (hi := some at'); omega)
          have a2 := tup_add (xs := cut xs none (some at') ++ [d1]) (ys := cut xs (some at') none) (by rw [List.length_append]; show _ + 1 + _ ≤ 16777216; have := cl (lo := none) (hi := some at'); have := cl (lo := some at') (hi := none); omega)
          refine ⟨.tuple (cut xs none (some at') ++ [d1] ++ cut xs (some at') none), b4, go (env := [.own b4, .val (.tuple xs), .no, .val (.int at'), .val (.int way)]) ?_ rfl, tup_nice ?_ (niceL_append (niceL_append cn (by simp [niceL, n4])) cn), v4⟩
          · simp only [List.append_assoc] at a2 ⊢
            by_cases hw : way = 1
            · subst hw
              simp [rd, t4, a1, a2, SZ]
            · have ha : at' = xs.length := hw1.resolve_left hw
              subst ha
              simp [rd, hw0, hw, t4, a1, a2, SZ]
          · rw [List.length_append, List.length_append, List.length_singleton]
            have e1 : cut xs none (some at') = xs.take at'.toNat := cut_take' xs a0
            have e2 : (cut xs (some at') none).length = xs.length - at'.toNat := cut_drop_len xs a0
            rw [e1, List.length_take, e2]
            omega
        have hw1a : way ≠ 1 := fun z => hw1 (.inl z)
        have hw1b : at' ≠ xs.length := fun z => hw1 (.inr z)
        by_cases hw2 : way = 2
        · subst hw2
          have a1 := tup_add (xs := cut xs none (some at')) (ys := cut xs (some at') (some (at' + 1))) (by show _ ≤ 16777216; have := cl (lo := none) (hi := some at'); have := cl (lo := some at') (hi := some (at' + 1)); omega)
          have a2 := tup_add (xs := cut xs none (some at') ++ cut xs (some at') (some (at' + 1))) (ys := cut xs (some at') none) (by rw [List.length_append]; show _ ≤ 16777216; have := cl (lo := none) (hi := some at'); have := cl (lo := some at') (hi := some (at' + 1)); have := cl (lo := some at') (hi := none); omega)
          refine ⟨.tuple (cut xs none (some at') ++ cut xs (some at') (some (at' + 1)) ++ cut xs (some at') none), b3, go (env := [.own b3, .val (.tuple xs), .no, .val (.int at'), .val (.int 2)]) ?_ rfl, tup_nice ?_ (niceL_append (niceL_append cn cn) cn), v3.less (by omega)⟩
          · simp only [List.append_assoc] at a2 ⊢
            simp [rd, hw1b, a1, a2]
          · rw [List.length_append, List.length_append]
            have e1 : cut xs none (some at') = xs.take at'.toNat := cut_take' xs a0
            have e2 : (cut xs (some at') none).length = xs.length - at'.toNat := cut_drop_len xs a0
            have e3 := cut_one_len xs a0
            rw [e1, List.length_take, e2]
            omega
        by_cases hw3 : way = 3
        · subst hw3
          have a1 := tup_add (xs := cut xs none (some at')) (ys := cut xs (some (at' + 1)) none) (by show _ ≤ 16777216; have := cl (lo := none) (hi := some at'); have := cl (lo := some (at' + 1)) (hi := none); omega)
          refine ⟨.tuple (cut xs none (some at') ++ cut xs (some (at' + 1)) none), b3, go (env := [.own b3, .val (.tuple xs), .no, .val (.int at'), .val (.int 3)]) ?_ rfl, tup_nice ?_ (niceL_append cn cn), v3.less (by omega)⟩
          · simp [rd, hw1b, a1]
          · rw [List.length_append]
            have e1 : cut xs none (some at') = xs.take at'.toNat := cut_take' xs a0
            have e2 : (cut xs (some (at' + 1)) none).length = xs.length - (at' + 1).toNat := cut_drop_len xs (by omega)
            rw [e1, List.length_take, e2]
            omega
        obtain ⟨y, hy, ey⟩ := idx_tup a0 (show at' < xs.length by omega)
        have dy : PyData.depth y ≤ k := by
          have := depth_mem hy
          rw [PyData.depth] at dv
          omega
        obtain ⟨d2, b5, h5, n5, v5⟩ := ih y (niceL_all.mp nx y hy) dy r b3 (v3.less (by omega))
        have t5 : evE (callF tb (n + k + 2)) tb.cd (.callB i_L_odd_k01 0 [.idx (.v 1) (.v 3)]) [.own b3, .val (.tuple xs), .no, .val (.int at'), .val (.int way)] = some (d2, [.own b5, .val (.tuple xs), .no, .val (.int at'), .val (.int way)]) := e_callB0 (args := [y]) (by simp [rd, ey]) h5
        have a1 := tup_add (xs := cut xs none (some at')) (ys := [d2]) (by show _ + 1 ≤ 16777216; have := cl (lo := none) (hi := some at'); omega)
        have a2 := tup_add (xs := cut xs none (some at') ++ [d2]) (ys := cut xs (some (at' + 1)) none) (by rw [List.length_append]; show _ + 1 + _ ≤ 16777216; have := cl (lo := none) (hi := some at'); have := cl (lo := some (at' + 1)) (hi := none); omega)
        refine ⟨.tuple (cut xs none (some at') ++ [d2] ++ cut xs (some (at' + 1)) none), b5, go (env := [.own b5, .val (.tuple xs), .no, .val (.int at'), .val (.int way)]) ?_ rfl, tup_nice ?_ (niceL_append (niceL_append cn (by simp [niceL, n5])) cn), v5⟩
        · simp only [List.append_assoc] at a2 ⊢
          simp [rd, hw0, hw1a, hw1b, hw2, hw3, t5, a1, a2, SZ]
        · rw [List.length_append, List.length_append, List.length_singleton]
          have e1 : cut xs none (some at') = xs.take at'.toNat := cut_take' xs a0
          have e2 : (cut xs (some (at' + 1)) none).length = xs.length - (at' + 1).toNat := cut_drop_len xs (by omega)
          rw [e1, List.length_take, e2]
          omega
    · have nt : isTy v .tup = false := by simpa using ht
      obtain ⟨d, b', env, h1, h2, h3, h4⟩ := odd_leaf (n := n + k + 1) (v := v) (r := r) (b0 := b) (hb.less (by omega)) rfl
      refine ⟨d, b', eta ?_ h2, nice_more (by decide) h3, h4⟩
      have c1 : evE (callF tb (n + k + 2)) tb.cd oddC [.own b, .val v, .no, .no, .no] = some (.bool true, [.own b, .val v, .no, .no, .no]) := by
        simp [oddC, rd, nice_dict nv, nt]
      rw [odd_split, ss_cons', s_iff, c1]
      simp only [bnd_some, br_b, if_true, h1, sq_rt]

/-! ### the two recognizers -/
theorem same_b {n : Nat} (a b : Bool) : callF tb (n + 1) i_L_same [.bool a, .bool b] = some (.bool (a == b), none) := by
  cases a <;> cases b <;> rfl
def withinB (v : D) (lo hi : Int) : Bool := match v with
  | .int i => decide (lo ≤ i) && decide (i ≤ hi)
  | _ => false
theorem within_ok {n : Nat} {v : D} (h : noDict v = true) (lo hi : Int) : callF tb (n + 1) i_is_within [v, .int lo, .int hi] = some (.bool (withinB v lo hi), none) := by
  refine call_val (n := n) (f := i_is_within) (t := tb) (ps := ["value", "low", "high"]) (N := n_is_within) (body := b_is_within) (env := [.val v, .val (.int lo), .val (.int hi)]) rfl rfl ?_
  show evSs _ _ _ [.val v, .val (.int lo), .val (.int hi)] = _
  cases v <;> first | cases h | skip
  · rfl
  · rename_i b
    cases b <;> rfl
  · rename_i i
    have e : evE (callF tb n) tb.cd (.ch .le .le (.v 1) (.v 0) (.v 2)) [.val (.int i), .val (.int lo), .val (.int hi)] = some (.bool (decide (lo ≤ i) && decide (i ≤ hi)), [.val (.int i), .val (.int lo), .val (.int hi)]) := by
      by_cases h1 : lo ≤ i
      · show (match cmpD .le (.int lo) (.int i) with | some (.bool true) => _ | some (.bool false) => _ | _ => _) = _
        rw [int_le, decide_eq_true h1]
        rfl
      · show (match cmpD .le (.int lo) (.int i) with | some (.bool true) => _ | some (.bool false) => _ | _ => _) = _
        rw [int_le, decide_eq_false h1]
        rfl
    simp [b_is_within, rd, noDict, isTy, e, withinB]
  · rfl
  · rfl
  · rfl
theorem whole_ok {n : Nat} {v : D} (h : noDict v = true) (lo hi : Int) : callF tb (n + 1) i_L_whole [v, .int lo, .int hi] = some (.bool (withinB v lo hi), none) := by
  refine call_val (n := n) (f := i_L_whole) (t := tb) (ps := ["value", "low", "high"]) (N := n_L_whole) (body := b_L_whole) (env := [.val v, .val (.int lo), .val (.int hi)]) rfl rfl ?_
  show evSs _ _ _ [.val v, .val (.int lo), .val (.int hi)] = _
  have := within_ok (n := n) h lo hi
  cases v <;> first | cases h | skip
  · rfl
  · rename_i b
    cases b <;> rfl
  · rename_i i
    have e : evE (callF tb n) tb.cd (.ch .le .le (.v 1) (.v 0) (.v 2)) [.val (.int i), .val (.int lo), .val (.int hi)] = some (.bool (decide (lo ≤ i) && decide (i ≤ hi)), [.val (.int i), .val (.int lo), .val (.int hi)]) := by
      by_cases h1 : lo ≤ i
      · show (match cmpD .le (.int lo) (.int i) with | some (.bool true) => _ | some (.bool false) => _ | _ => _) = _
        rw [int_le, decide_eq_true h1]
        rfl
      · show (match cmpD .le (.int lo) (.int i) with | some (.bool true) => _ | some (.bool false) => _ | _ => _) = _
        rw [int_le, decide_eq_false h1]
        rfl
    simp [b_L_whole, rd, noDict, isTy, e, withinB]
  · rfl
  · rfl
  · rfl

def scrB : D → Bool
  | .tuple [a, b, c, d] => withinB a 1 4 && withinB b 1 4 && withinB c 1 3 && withinB d 1 4 && (match c, d with | .int i, .int j => decide (i ^ j.toNat ≤ 16) | _, _ => false)
  | _ => false
theorem power_ok {n : Nat} (c d : Int) (h1 : 1 ≤ c) (h2 : c ≤ 3) (h3 : 1 ≤ d) (h4 : d ≤ 4) : callF tb (n + 1) i_power [.int c, .int d] = some (.int (c ^ d.toNat), none) := by
  have e1 : c = 1 ∨ c = 2 ∨ c = 3 := by omega
  have e2 : d = 1 ∨ d = 2 ∨ d = 3 ∨ d = 4 := by omega
  rcases e1 with rfl | rfl | rfl <;> rcases e2 with rfl | rfl | rfl | rfl <;> rfl
theorem withinB_int {v : D} {lo hi : Int} (h : withinB v lo hi = true) : ∃ i, v = .int i ∧ lo ≤ i ∧ i ≤ hi := by
  cases v <;> first | (simp [withinB] at h; done) | skip
  rename_i i
  simp [withinB] at h
  exact ⟨i, rfl, h.1, h.2⟩
theorem is_screen_ok {n : Nat} {v : D} (h : nice 21 v = true) : callF tb (n + 2) i_is_screen [v] = some (.bool (scrB v), none) := by
  have go : ∀ {r : Bool} {env : Ev}, evSs (callF tb (n + 1)) tb.cd b_is_screen [.val v] = some (.rt (.bool r) env) → callF tb (n + 2) i_is_screen [v] = some (.bool r, none) := fun h => call_val (n := n + 1) (f := i_is_screen) (t := tb) (ps := ["value"]) (N := n_is_screen) (body := b_is_screen) (args := [v]) rfl rfl h
  by_cases ht : isTy v .tup = true
  · obtain ⟨xs, rfl⟩ : ∃ xs, v = .tuple xs := by cases v <;> first | exact ⟨_, rfl⟩ | cases ht
    obtain ⟨lx, nx⟩ := nice_tup h
    match xs, nx with
    | [a, b, c, d], nx =>
      have na := nice_dict (niceL_all.mp nx a (by simp))
      have nb := nice_dict (niceL_all.mp nx b (by simp))
      have nc := nice_dict (niceL_all.mp nx c (by simp))
      have nd := nice_dict (niceL_all.mp nx d (by simp))
      have w : ∀ (k : Int) (x : D) (lo hi : Int), noDict x = true → idxD (.tuple [a, b, c, d]) (.int k) = some x → evE (callF tb (n + 1)) tb.cd (.call i_is_within [(.idx (.v 0) (.c (.int k))), (.c (.int lo)), (.c (.int hi))]) [.val (.tuple [a, b, c, d])] = some (.bool (withinB x lo hi), [.val (.tuple [a, b, c, d])]) := fun k x lo hi hx hi' => e_call (args := [x, .int lo, .int hi]) (by simp [rd, hi']) (within_ok hx lo hi)
      have w0 := w 0 a 1 4 na rfl
      have w1 := w 1 b 1 4 nb rfl
      have w2 := w 2 c 1 3 nc rfl
      have w3 := w 3 d 1 4 nd rfl
      refine go (env := [.val (.tuple [a, b, c, d])]) ?_
      cases q0 : withinB a 1 4
      · simp [b_is_screen, rd, noDict, isTy, w0, q0, scrB]
      cases q1 : withinB b 1 4
      · simp [b_is_screen, rd, noDict, isTy, w0, q0, w1, q1, scrB]
      cases q2 : withinB c 1 3
      · simp [b_is_screen, rd, noDict, isTy, w0, q0, w1, q1, w2, q2, scrB]
      cases q3 : withinB d 1 4
      · simp [b_is_screen, rd, noDict, isTy, w0, q0, w1, q1, w2, q2, w3, q3, scrB]
      obtain ⟨i, rfl, i1, i2⟩ := withinB_int q2
      obtain ⟨j, rfl, j1, j2⟩ := withinB_int q3
      have p : evE (callF tb (n + 1)) tb.cd (.call i_power [(.idx (.v 0) (.c (.int 2))), (.idx (.v 0) (.c (.int 3)))]) [.val (.tuple [a, b, .int i, .int j])] = some (.int (i ^ j.toNat), [.val (.tuple [a, b, .int i, .int j])]) := e_call (args := [.int i, .int j]) rfl (power_ok i j i1 i2 j1 j2)
      simp [b_is_screen, rd, noDict, isTy, w0, q0, w1, q1, w2, q2, w3, q3, p, scrB]
    | [], _ => exact go (env := [.val (.tuple [])]) rfl
    | [_], _ => exact go (env := [.val (.tuple [_])]) rfl
    | [_, _], _ => exact go (env := [.val (.tuple [_, _])]) rfl
    | [_, _, _], _ => exact go (env := [.val (.tuple [_, _, _])]) rfl
    | x1 :: x2 :: x3 :: x4 :: x5 :: r, _ =>
      refine go (env := [.val (.tuple (x1 :: x2 :: x3 :: x4 :: x5 :: r))]) ?_
      have : ¬ ((r.length : Int) + 1 + 1 + 1 + 1 + 1 = 4) := by omega
      simp [b_is_screen, rd, noDict, isTy, this, scrB]
  · have nt : isTy v .tup = false := by simpa using ht
    have ns : scrB v = false := by cases v <;> first | rfl | cases nt
    rw [ns]
    refine go (env := [.val v]) ?_
    simp [b_is_screen, rd, nice_dict h, nt]

theorem L_is_screen_ok {n : Nat} {v : D} (h : nice 21 v = true) : callF tb (n + 2) i_L_is_screen [v] = some (.bool (scrB v), none) := by
  have go : ∀ {r : Bool} {env : Ev}, evSs (callF tb (n + 1)) tb.cd b_L_is_screen [.val v, .no, .no] = some (.rt (.bool r) env) → callF tb (n + 2) i_L_is_screen [v] = some (.bool r, none) := fun h => call_val (n := n + 1) (f := i_L_is_screen) (t := tb) (ps := ["value"]) (N := n_L_is_screen) (body := b_L_is_screen) (args := [v]) rfl rfl h
  by_cases ht : isTy v .tup = true
  · obtain ⟨xs, rfl⟩ : ∃ xs, v = .tuple xs := by cases v <;> first | exact ⟨_, rfl⟩ | cases ht
    obtain ⟨lx, nx⟩ := nice_tup h
    match xs, nx with
    | [a, b, c, d], nx =>
      have na := nice_dict (niceL_all.mp nx a (by simp))
      have nb := nice_dict (niceL_all.mp nx b (by simp))
      have nc := nice_dict (niceL_all.mp nx c (by simp))
      have nd := nice_dict (niceL_all.mp nx d (by simp))
      have w : ∀ (k hi : Int) (x : D), noDict x = true → idxD (.tuple [a, b, c, d]) (.int k) = some x → evSs (callF tb (n + 1)) tb.cd [.iff (.nt (.call i_L_whole [(.idx (.v 0) (.v 1)), (.c (.int 1)), (.v 2)])) [.ret (.c (.bool false))] []] [.val (.tuple [a, b, c, d]), .val (.int k), .val (.int hi)] = if withinB x 1 hi then some (.nx [.val (.tuple [a, b, c, d]), .val (.int k), .val (.int hi)]) else some (.rt (.bool false) [.val (.tuple [a, b, c, d]), .val (.int k), .val (.int hi)]) := fun k hi x hx hi' => by
        have e := e_call (cf := callF tb (n + 1)) (cd := tb.cd) (f := i_L_whole) (es := [(.idx (.v 0) (.v 1)), (.c (.int 1)), (.v 2)]) (e := [.val (.tuple [a, b, c, d]), .val (.int k), .val (.int hi)]) (e' := [.val (.tuple [a, b, c, d]), .val (.int k), .val (.int hi)]) (args := [x, .int 1, .int hi]) (by simp [rd, hi']) (whole_ok hx 1 hi)
        cases q : withinB x 1 hi <;> simp [e, q]
      have s1 : evSs (callF tb (n + 1)) tb.cd b_L_is_screen [.val (.tuple [a, b, c, d]), .no, .no] = sq (forL (bindT (.tp [(.nm 1), (.nm 2)])) (evSs (callF tb (n + 1)) tb.cd [.iff (.nt (.call i_L_whole [(.idx (.v 0) (.v 1)), (.c (.int 1)), (.v 2)])) [.ret (.c (.bool false))] []]) (enumL 0 [.int 4, .int 4, .int 3, .int 4]) [.val (.tuple [a, b, c, d]), .no, .no]) (evSs (callF tb (n + 1)) tb.cd (b_L_is_screen.drop 2)) := by
        have e : b_L_is_screen = b_L_is_screen.getD 0 .rse :: b_L_is_screen.getD 1 .rse :: b_L_is_screen.drop 2 := rfl
        have f0 : evS (callF tb (n + 1)) tb.cd (b_L_is_screen.getD 0 .rse) [.val (.tuple [a, b, c, d]), .no, .no] = some (.nx [.val (.tuple [a, b, c, d]), .no, .no]) := rfl
        rw [e, ss_cons', f0, sq_nx, ss_cons']
        rfl
      have b0 : ∀ (k m : Int) (s t : Sl), (∀ x, s ≠ .own x) → (∀ x, t ≠ .own x) → bindT (.tp [(.nm 1), (.nm 2)]) (.tuple [.int k, .int m]) [.val (.tuple [a, b, c, d]), s, t] = some [.val (.tuple [a, b, c, d]), .val (.int k), .val (.int m)] := fun k m s t h1 h2 => by
        cases s <;> cases t <;> first | rfl | exact (h1 _ rfl).elim | exact (h2 _ rfl).elim
      have n1 : ∀ (x : D), (Sl.no : Sl) ≠ .own x := fun _ => by simp
      have n2 : ∀ (y x : D), (Sl.val y : Sl) ≠ .own x := fun _ _ => by simp
      have en : enumL 0 [.int 4, .int 4, .int 3, .int 4] = ([.tuple [.int 0, .int 4], .tuple [.int 1, .int 4], .tuple [.int 2, .int 3], .tuple [.int 3, .int 4]] : List D) := rfl
      rw [en] at s1
      cases q0 : withinB a 1 4
      · refine go (env := [.val (.tuple [a, b, c, d]), .val (.int 0), .val (.int 4)]) ?_
        rw [s1, forL_step (b0 0 4 _ _ n1 n1), w 0 4 a na rfl, q0]
        simp [scrB, q0]
      cases q1 : withinB b 1 4
      · refine go (env := [.val (.tuple [a, b, c, d]), .val (.int 1), .val (.int 4)]) ?_
        rw [s1, forL_step (b0 0 4 _ _ n1 n1), w 0 4 a na rfl, q0, if_pos rfl, sq_nx, forL_step (b0 1 4 _ _ (n2 _) (n2 _)), w 1 4 b nb rfl, q1]
        simp [scrB, q0, q1]
      cases q2 : withinB c 1 3
      · refine go (env := [.val (.tuple [a, b, c, d]), .val (.int 2), .val (.int 3)]) ?_
        rw [s1, forL_step (b0 0 4 _ _ n1 n1), w 0 4 a na rfl, q0, if_pos rfl, sq_nx, forL_step (b0 1 4 _ _ (n2 _) (n2 _)), w 1 4 b nb rfl, q1, if_pos rfl, sq_nx, forL_step (b0 2 3 _ _ (n2 _) (n2 _)), w 2 3 c nc rfl, q2]
        simp [scrB, q0, q1, q2]
      cases q3 : withinB d 1 4
      · refine go (env := [.val (.tuple [a, b, c, d]), .val (.int 3), .val (.int 4)]) ?_
        rw [s1, forL_step (b0 0 4 _ _ n1 n1), w 0 4 a na rfl, q0, if_pos rfl, sq_nx, forL_step (b0 1 4 _ _ (n2 _) (n2 _)), w 1 4 b nb rfl, q1, if_pos rfl, sq_nx, forL_step (b0 2 3 _ _ (n2 _) (n2 _)), w 2 3 c nc rfl, q2, if_pos rfl, sq_nx, forL_step (b0 3 4 _ _ (n2 _) (n2 _)), w 3 4 d nd rfl, q3]
        simp [scrB, q0, q1, q2, q3]
      refine go (env := [.val (.tuple [a, b, c, d]), .val (.int 3), .val (.int 4)]) ?_
      rw [s1, forL_step (b0 0 4 _ _ n1 n1), w 0 4 a na rfl, q0, if_pos rfl, sq_nx, forL_step (b0 1 4 _ _ (n2 _) (n2 _)), w 1 4 b nb rfl, q1, if_pos rfl, sq_nx, forL_step (b0 2 3 _ _ (n2 _) (n2 _)), w 2 3 c nc rfl, q2, if_pos rfl, sq_nx, forL_step (b0 3 4 _ _ (n2 _) (n2 _)), w 3 4 d nd rfl, q3, if_pos rfl, sq_nx, forL_nil', sq_nx]
      obtain ⟨i, rfl, i1, i2⟩ := withinB_int q2
      obtain ⟨j, rfl, j1, j2⟩ := withinB_int q3
      have e1 : i = 1 ∨ i = 2 ∨ i = 3 := by omega
      have e2 : j = 1 ∨ j = 2 ∨ j = 3 ∨ j = 4 := by omega
      simp only [scrB, q0, q1, q2, q3, Bool.true_and]
      rcases e1 with rfl | rfl | rfl <;> rcases e2 with rfl | rfl | rfl | rfl <;> rfl
    | [], _ => exact go (env := [.val (.tuple []), .no, .no]) rfl
    | [_], _ => exact go (env := [.val (.tuple [_]), .no, .no]) rfl
    | [_, _], _ => exact go (env := [.val (.tuple [_, _]), .no, .no]) rfl
    | [_, _, _], _ => exact go (env := [.val (.tuple [_, _, _]), .no, .no]) rfl
    | x1 :: x2 :: x3 :: x4 :: x5 :: r, _ =>
      refine go (env := [.val (.tuple (x1 :: x2 :: x3 :: x4 :: x5 :: r)), .no, .no]) ?_
      have : ¬ ((r.length : Int) + 1 + 1 + 1 + 1 + 1 = 4) := by omega
      simp [b_L_is_screen, rd, noDict, isTy, this, scrB, -s_for]
  · have nt : isTy v .tup = false := by simpa using ht
    have ns : scrB v = false := by cases v <;> first | rfl | cases nt
    rw [ns]
    refine go (env := [.val v, .no, .no]) ?_
    simp [b_L_is_screen, rd, nice_dict h, nt, -s_for]

def tS : List Str := ["put", "size", "take", "above", "below", "within", "begin", "end", "short", "cut", "held"]
def testS (s : Str) : Bool := tS.any (· == s) || (L2.cutS s none (some 3) == "no " && tS.any (· == L2.cutS s (some 3) none))
def testB : D → Bool
  | .str s => testS s
  | _ => false
theorem strOk_cut {s : Str} {lo hi : Option Int} (h : PyData.strOk s = true) : PyData.strOk (L2.cutS s lo hi) = true := by
  unfold PyData.strOk at h ⊢
  unfold L2.cutS
  rw [← Array.all_toList, List.all_eq_true] at h ⊢
  intro c hc
  exact h c (List.mem_of_mem_drop (List.mem_of_mem_take (by simpa using hc)))
theorem in_strs {s : Str} (h : PyData.strOk s = true) {ts : List Str} (ht : okD (.tuple (ts.map PyData.str)) = true) : cmpD .inn (.str s) (.tuple (ts.map PyData.str)) = some (.bool (ts.any (· == s))) := by
  show (gd (okD (.str s) && okD (.tuple (ts.map PyData.str))) _).map _ = _
  rw [okD_str h, ht]
  show some (PyData.bool ((ts.map PyData.str).any fun z => PyData.eqv z (.str s))) = _
  rw [List.any_map]
  rfl
theorem str_eq {s t : Str} (h : PyData.strOk s = true) (h2 : PyData.strOk t = true) : cmpD .eq (.str s) (.str t) = some (.bool (s == t)) := by
  show gd (okD (.str s) && okD (.str t)) _ = _
  rw [okD_str h, okD_str h2]
  rfl
theorem slc_str {s : Str} (h : s.length ≤ 100) (lo hi : Option Int) : slcD (.str s) lo hi = some (.str (L2.cutS s lo hi)) := by
  show gd (decide (s.length ≤ SZ)) _ = _
  rw [decide_eq_true (show s.length ≤ SZ from Nat.le_trans h (by decide))]
  rfl
theorem is_test_ok {n : Nat} {v : D} (h : nice 21 v = true) : callF tb (n + 1) i_is_test [v] = some (.bool (testB v), none) := by
  have go : ∀ {r : Bool} {env : Ev}, evSs (callF tb n) tb.cd b_is_test [.val v] = some (.rt (.bool r) env) → callF tb (n + 1) i_is_test [v] = some (.bool r, none) := fun h => call_val (n := n) (f := i_is_test) (t := tb) (ps := ["value"]) (N := n_is_test) (body := b_is_test) (args := [v]) rfl rfl h
  by_cases ht : isTy v .str = true
  · obtain ⟨s, rfl⟩ : ∃ s, v = .str s := by cases v <;> first | exact ⟨_, rfl⟩ | cases ht
    rw [nice, Bool.and_eq_true] at h
    have hl := of_decide_eq_true h.2
    have g0 : tb.cd 0 = .tuple (tS.map PyData.str) := rfl
    have ok0 : okD (.tuple (tS.map PyData.str)) = true := by decide +kernel
    have i1 := in_strs h.1 ok0
    have i2 := in_strs (strOk_cut (lo := some 3) (hi := none) h.1) ok0
    have i3 := str_eq (strOk_cut (lo := none) (hi := some 3) h.1) (show PyData.strOk "no " = true by decide +kernel)
    have s1 := slc_str hl none (some 3)
    have s2 := slc_str hl (some 3) none
    refine go (env := [.val (.str s)]) ?_
    cases q1 : tS.any (· == s)
    · cases q2 : (L2.cutS s none (some 3) == "no ")
      · simp [b_is_test, rd, noDict, isTy, g0, i1, i2, i3, s1, s2, q1, q2, testB, testS, -List.map_cons, -List.any_eq_true]
      · simp [b_is_test, rd, noDict, isTy, g0, i1, i2, i3, s1, s2, q1, q2, testB, testS, -List.map_cons, -List.any_eq_true]
    · simp [b_is_test, rd, noDict, isTy, g0, i1, i2, i3, s1, s2, q1, testB, testS, -List.map_cons, -List.any_eq_true]
  · have nt : isTy v .str = false := by simpa using ht
    have ns : testB v = false := by cases v <;> first | rfl | cases nt
    rw [ns]
    refine go (env := [.val v]) ?_
    simp [b_is_test, rd, nice_dict h, nt]

def dS : List Str := ["begin", "end", "first", "held", "last", "stay"]
def deedB : D → Bool
  | .str s => dS.any (· == s)
  | _ => false
def clauseB : D → Bool
  | .tuple [.tuple ts, d] => decide (ts.length ≤ 3) && ts.all testB && deedB d
  | _ => false
theorem one_of_ok {n : Nat} {v : D} (h : nice 21 v = true) : callF tb (n + 1) i_is_one_of [v, tb.cd 1] = some (.bool (deedB v), none) := by
  have g0 : tb.cd 1 = .tuple (dS.map PyData.str) := rfl
  have ok0 : okD (.tuple (dS.map PyData.str)) = true := by decide +kernel
  rw [g0]
  refine call_val (n := n) (f := i_is_one_of) (t := tb) (ps := ["value", "some"]) (N := n_is_one_of) (body := b_is_one_of) (args := [v, .tuple (dS.map PyData.str)]) (env := [.val v, .val (.tuple (dS.map PyData.str))]) rfl rfl ?_
  show evSs _ _ _ [.val v, .val (.tuple (dS.map PyData.str))] = _
  by_cases ht : isTy v .str = true
  · obtain ⟨s, rfl⟩ : ∃ s, v = .str s := by cases v <;> first | exact ⟨_, rfl⟩ | cases ht
    rw [nice, Bool.and_eq_true] at h
    have i1 := in_strs h.1 ok0
    simp [b_is_one_of, rd, noDict, isTy, i1, deedB, -List.map_cons, -List.any_eq_true]
  · have nt : isTy v .str = false := by simpa using ht
    have ns : deedB v = false := by cases v <;> first | rfl | cases nt
    rw [ns]
    simp [b_is_one_of, rd, nice_dict h, nt]

theorem is_clause_ok {n : Nat} {v : D} (h : nice 21 v = true) : callF tb (n + 2) i_is_clause [v] = some (.bool (clauseB v), none) := by
  have go : ∀ {r : Bool} {env : Ev}, evSs (callF tb (n + 1)) tb.cd b_is_clause [.val v, .no] = some (.rt (.bool r) env) → callF tb (n + 2) i_is_clause [v] = some (.bool r, none) := fun h => call_val (n := n + 1) (f := i_is_clause) (t := tb) (ps := ["value"]) (N := n_is_clause) (body := b_is_clause) (args := [v]) rfl rfl h
  by_cases ht : isTy v .tup = true
  · obtain ⟨xs, rfl⟩ : ∃ xs, v = .tuple xs := by cases v <;> first | exact ⟨_, rfl⟩ | cases ht
    obtain ⟨lx, nx⟩ := nice_tup h
    match xs, nx with
    | [a, d], nx =>
      have na := niceL_all.mp nx a (by simp)
      have nd := niceL_all.mp nx d (by simp)
      have x0 : idxD (.tuple [a, d]) (.int 0) = some a := rfl
      have x1 : idxD (.tuple [a, d]) (.int 1) = some d := rfl
      refine go (env := [.val (.tuple [a, d]), .no]) ?_
      by_cases hta : isTy a .tup = true
      · obtain ⟨ts, rfl⟩ : ∃ ts, a = .tuple ts := by cases a <;> first | exact ⟨_, rfl⟩ | cases hta
        obtain ⟨lt, nt⟩ := nice_tup na
        have cm : evE (callF tb (n + 1)) tb.cd (.comp [1] (.call i_is_test [(.v 1)]) (.nm 1) (.val (.idx (.v 0) (.c (.int 0)))) []) [.val (.tuple [.tuple ts, d]), .no] = some (.list (ts.map fun x => .bool (testB x)), [.val (.tuple [.tuple ts, d]), .no]) :=
          comp_map (env1 := [.val (.tuple [.tuple ts, d]), .no]) (xs := ts) (G := fun x => [.val (.tuple [.tuple ts, d]), .val x]) (f := fun x => .bool (testB x)) (i_valT (by simp [rd, x0])) rfl rfl rfl (fun _ _ => rfl) (fun _ _ => rfl)
            (fun x hx => e_call (args := [x]) rfl (is_test_ok (niceL_all.mp nt x hx))) (Nat.le_trans lt (by decide))
        have oo : evE (callF tb (n + 1)) tb.cd (.call i_is_one_of [(.idx (.v 0) (.c (.int 1))), (.g 1)]) [.val (.tuple [.tuple ts, d]), .no] = some (.bool (deedB d), [.val (.tuple [.tuple ts, d]), .no]) := e_call (args := [d, tb.cd 1]) (by simp [rd, x1]) (one_of_ok nd)
        have am := all_map testB ts
        by_cases hl : (ts.length : Int) ≤ 3
        · have hl' : ts.length ≤ 3 := by omega
          cases q : ts.all testB
          · simp [b_is_clause, rd, noDict, isTy, x0, x1, cm, oo, am, hl, hl', q, clauseB, -List.all_eq_true, -List.all_eq_false]
          · simp [b_is_clause, rd, noDict, isTy, x0, x1, cm, oo, am, hl, hl', q, clauseB, -List.all_eq_true, -List.all_eq_false]
        · have hl' : ¬ ts.length ≤ 3 := by omega
          simp [b_is_clause, rd, noDict, isTy, x0, hl, hl', clauseB]
      · have nta : isTy a .tup = false := by simpa using hta
        have ns : clauseB (.tuple [a, d]) = false := by cases a <;> first | rfl | cases nta
        rw [ns]
        have k0 : noDict (.tuple [a, d]) = true := rfl
        have k1 : isTy (.tuple [a, d]) .tup = true := rfl
        simp [b_is_clause, rd, k0, k1, x0, nice_dict na, nta]
    | [], _ => exact go (env := [.val (.tuple []), .no]) rfl
    | [x], _ =>
      have ns : clauseB (.tuple [x]) = false := by cases x <;> rfl
      rw [ns]
      exact go (env := [.val (.tuple [x]), .no]) rfl
    | x1 :: x2 :: x3 :: r, _ =>
      have ns : clauseB (.tuple (x1 :: x2 :: x3 :: r)) = false := by cases x1 <;> rfl
      rw [ns]
      refine go (env := [.val (.tuple (x1 :: x2 :: x3 :: r)), .no]) ?_
      have : ¬ ((r.length : Int) + 1 + 1 + 1 = 2) := by omega
      simp [b_is_clause, rd, noDict, isTy, this]
  · have nt : isTy v .tup = false := by simpa using ht
    have ns : clauseB v = false := by cases v <;> first | rfl | cases nt
    rw [ns]
    refine go (env := [.val v, .no]) ?_
    simp [b_is_clause, rd, nice_dict h, nt]
def ruleB : D → Bool
  | .tuple xs => decide (xs.length ≤ 8) && xs.all clauseB
  | _ => false
theorem is_rule_ok {n : Nat} {v : D} (h : nice 21 v = true) : callF tb (n + 3) i_is_rule [v] = some (.bool (ruleB v), none) := by
  have go : ∀ {r : Bool} {env : Ev}, evSs (callF tb (n + 2)) tb.cd b_is_rule [.val v, .no] = some (.rt (.bool r) env) → callF tb (n + 3) i_is_rule [v] = some (.bool r, none) := fun h => call_val (n := n + 2) (f := i_is_rule) (t := tb) (ps := ["value"]) (N := n_is_rule) (body := b_is_rule) (args := [v]) rfl rfl h
  have g4 : tb.cd 4 = .int 8 := rfl
  refine go (env := [.val v, .no]) ?_
  by_cases ht : isTy v .tup = true
  · obtain ⟨xs, rfl⟩ : ∃ xs, v = .tuple xs := by cases v <;> first | exact ⟨_, rfl⟩ | cases ht
    obtain ⟨lx, nx⟩ := nice_tup h
    have cm : evE (callF tb (n + 2)) tb.cd (.comp [1] (.call i_is_clause [(.v 1)]) (.nm 1) (.val (.v 0)) []) [.val (.tuple xs), .no] = some (.list (xs.map fun x => .bool (clauseB x)), [.val (.tuple xs), .no]) :=
      comp_map (env1 := [.val (.tuple xs), .no]) (xs := xs) (G := fun x => [.val (.tuple xs), .val x]) (f := fun x => .bool (clauseB x)) (i_valT (by simp [rd])) rfl rfl rfl (fun _ _ => rfl) (fun _ _ => rfl)
        (fun x hx => e_call (args := [x]) rfl (is_clause_ok (niceL_all.mp nx x hx))) (Nat.le_trans lx (by decide))
    have am := all_map clauseB xs
    by_cases hl : (xs.length : Int) ≤ 8
    · have hl' : xs.length ≤ 8 := by omega
      simp [b_is_rule, rd, noDict, isTy, g4, cm, am, hl, hl', ruleB, -List.all_eq_true, -List.all_eq_false]
    · have hl' : ¬ xs.length ≤ 8 := by omega
      simp [b_is_rule, rd, noDict, isTy, g4, hl, hl', ruleB]
  · have nt : isTy v .tup = false := by simpa using ht
    have ns : ruleB v = false := by cases v <;> first | rfl | cases nt
    rw [ns]
    simp [b_is_rule, rd, nice_dict h, nt]

/-! ### the law's recognizers -/
def tL : List Str := ["above", "begin", "below", "cut", "end", "held", "put", "short", "size", "take", "within"]
def noS : Str := "no "
def wordsS : List Str := tL ++ tL.map fun w => noS ++ w
theorem any_same {xs ys : List Str} (h : ∀ x ∈ xs, x ∈ ys) (h' : ∀ x ∈ ys, x ∈ xs) (s : Str) : xs.any (· == s) = ys.any (· == s) := by
  rw [Bool.eq_iff_iff, List.any_eq_true, List.any_eq_true]
  exact ⟨fun ⟨x, hx, e⟩ => ⟨x, h x hx, e⟩, fun ⟨x, hx, e⟩ => ⟨x, h' x hx, e⟩⟩
theorem no_cut (s t : Str) : (noS ++ t == s) = (L2.cutS s none (some 3) == noS && t == L2.cutS s (some 3) none) := by
  have e1 := cutS_lo s 3
  have e2 := cutS_hi s 3
  have n3 : noS.cps.toList.length = 3 := by decide +kernel
  have ap : (noS ++ t).cps.toList = noS.cps.toList ++ t.cps.toList := by
    show (noS.cps ++ t.cps).toList = _
    simp
  have ext : ∀ {a b : Str}, a.cps.toList = b.cps.toList → a = b := fun {a b} h => by
    cases a; cases b
    congr
    exact Array.ext' h
  rw [Bool.eq_iff_iff, Bool.and_eq_true, beq_iff_eq, beq_iff_eq, beq_iff_eq]
  rw [show ((3 : Int)) = ((3 : Nat) : Int) from rfl, e1, e2]
  constructor
  · rintro rfl
    rw [ap]
    refine ⟨ext ?_, ext ?_⟩
    · rw [List.toList_toArray, ← n3, List.take_left]
    · rw [List.toList_toArray, ← n3, List.drop_left]
  · rintro ⟨h1, h2⟩
    refine ext ?_
    rw [ap]
    have q1 := congrArg (fun x : Str => x.cps.toList) h1
    have q2 := congrArg (fun x : Str => x.cps.toList) h2
    simp only [List.toList_toArray] at q1 q2
    rw [← q1, q2, List.take_append_drop]
theorem words_eq (s : Str) : wordsS.any (· == s) = testS s := by
  unfold wordsS testS
  rw [List.any_append, List.any_map, any_same (xs := tL) (ys := tS) (by decide +kernel) (by decide +kernel)]
  congr 1
  have e : ((fun x : Str => x == s) ∘ fun w => noS ++ w) = fun w => (L2.cutS s none (some 3) == noS && w == L2.cutS s (some 3) none) := funext fun w => no_cut s w
  rw [e]
  show _ = (L2.cutS s none (some 3) == noS && _)
  cases L2.cutS s none (some 3) == noS
  · simp
  · simp only [Bool.true_and]
    exact any_same (xs := tL) (ys := tS) (by decide +kernel) (by decide +kernel) _

def wordsD : List D := wordsS.map PyData.str
theorem words_body {n : Nat} (v : D) : evS (callF tb (n + 1)) tb.cd (b_L_is_clause.getD 0 .rse) [.val v, .no, .no, .no] = some (.nx [.val v, .val (.list wordsD), .no, .no]) := by kernel_rfl
theorem nin_strs {s : Str} (h : PyData.strOk s = true) {ts : List Str} (ht : okD (.list (ts.map PyData.str)) = true) : cmpD .nin (.str s) (.list (ts.map PyData.str)) = some (.bool (!ts.any (· == s))) := by
  show (gd (okD (.str s) && okD (.list (ts.map PyData.str))) _).map _ = _
  rw [okD_str h, ht]
  show some (PyData.bool (!(ts.map PyData.str).any fun z => PyData.eqv z (.str s))) = _
  rw [List.any_map]
  rfl
theorem inl_strs {s : Str} (h : PyData.strOk s = true) {ts : List Str} (ht : okD (.list (ts.map PyData.str)) = true) : cmpD .inn (.str s) (.list (ts.map PyData.str)) = some (.bool (ts.any (· == s))) := by
  show (gd (okD (.str s) && okD (.list (ts.map PyData.str))) _).map _ = _
  rw [okD_str h, ht]
  show some (PyData.bool ((ts.map PyData.str).any fun z => PyData.eqv z (.str s))) = _
  rw [List.any_map]
  rfl
theorem bad_ok {n : Nat} {v x : D} (h : nice 21 x = true) : evE (callF tb (n + 1)) tb.cd (.or (.nt (.isi (.v 3) [.str])) (.cmp .nin (.v 3) (.v 1))) [.val v, .val (.list wordsD), .no, .val x] = some (.bool (!testB x), [.val v, .val (.list wordsD), .no, .val x]) := by
  by_cases ht : isTy x .str = true
  · obtain ⟨s, rfl⟩ : ∃ s, x = .str s := by cases x <;> first | exact ⟨_, rfl⟩ | cases ht
    rw [nice, Bool.and_eq_true] at h
    have ok0 : okD (.list (wordsS.map PyData.str)) = true := by decide +kernel
    have i1 := nin_strs h.1 ok0
    rw [words_eq] at i1
    have k0 : noDict (.str s) = true := rfl
    have k1 : isTy (.str s) .str = true := rfl
    have e : wordsD = wordsS.map PyData.str := rfl
    rw [e]
    simp [rd, k0, k1, i1, testB, -List.map_map]
  · have nt : isTy x .str = false := by simpa using ht
    have ns : testB x = false := by cases x <;> first | rfl | cases nt
    rw [ns]
    simp [rd, nice_dict h, nt]

theorem L_is_clause_ok {n : Nat} {v : D} (h : nice 21 v = true) : callF tb (n + 2) i_L_is_clause [v] = some (.bool (clauseB v), none) := by
  have go : ∀ {r : Bool} {env : Ev}, evSs (callF tb (n + 1)) tb.cd (b_L_is_clause.drop 1) [.val v, .val (.list wordsD), .no, .no] = some (.rt (.bool r) env) → callF tb (n + 2) i_L_is_clause [v] = some (.bool r, none) := fun {r env} h => by
    refine call_val (n := n + 1) (f := i_L_is_clause) (t := tb) (ps := ["value"]) (N := n_L_is_clause) (body := b_L_is_clause) (args := [v]) (env := env) rfl rfl ?_
    have e : b_L_is_clause = b_L_is_clause.getD 0 .rse :: b_L_is_clause.drop 1 := rfl
    rw [e, ss_cons']
    show sq (evS (callF tb (n + 1)) tb.cd (b_L_is_clause.getD 0 .rse) [.val v, .no, .no, .no]) _ = _
    rw [words_body, sq_nx]
    exact h
  by_cases ht : isTy v .tup = true
  · obtain ⟨xs, rfl⟩ : ∃ xs, v = .tuple xs := by cases v <;> first | exact ⟨_, rfl⟩ | cases ht
    obtain ⟨lx, nx⟩ := nice_tup h
    match xs, nx with
    | [a, d], nx =>
      have na := niceL_all.mp nx a (by simp)
      have nd := niceL_all.mp nx d (by simp)
      have x0 : idxD (.tuple [a, d]) (.int 0) = some a := rfl
      have x1 : idxD (.tuple [a, d]) (.int 1) = some d := rfl
      have k0 : noDict (.tuple [a, d]) = true := rfl
      have k1 : isTy (.tuple [a, d]) .tup = true := rfl
      refine go (env := [.val (.tuple [a, d]), .val (.list wordsD), .no, .no]) ?_
      by_cases hta : isTy a .tup = true
      · obtain ⟨ts, rfl⟩ : ∃ ts, a = .tuple ts := by cases a <;> first | exact ⟨_, rfl⟩ | cases hta
        obtain ⟨lt, nt⟩ := nice_tup na
        have k2 : noDict (.tuple ts) = true := rfl
        have k3 : isTy (.tuple ts) .tup = true := rfl
        have cm : evE (callF tb (n + 1)) tb.cd (.comp [3] (.c (.int 1)) (.nm 3) (.val (.idx (.v 0) (.c (.int 0)))) [(.or (.nt (.isi (.v 3) [.str])) (.cmp .nin (.v 3) (.v 1)))]) [.val (.tuple [.tuple ts, d]), .val (.list wordsD), .no, .no] = some (.list ((ts.filter fun x => !testB x).map fun _ => .int 1), [.val (.tuple [.tuple ts, d]), .val (.list wordsD), .no, .no]) :=
          comp_ones (env1 := [.val (.tuple [.tuple ts, d]), .val (.list wordsD), .no, .no]) (xs := ts) (G := fun x => [.val (.tuple [.tuple ts, d]), .val (.list wordsD), .no, .val x]) (p := fun x => !testB x) (i_valT (by simp [rd, x0])) rfl rfl rfl (fun _ _ => rfl) (fun _ _ => rfl)
            (fun x hx => bad_ok (niceL_all.mp nt x hx)) (Nat.le_trans lt (by decide))
        have on := ones_ne (ts.filter fun x => !testB x)
        have fe : (ts.filter fun x => !testB x).isEmpty = ts.all testB := by
          rw [Bool.eq_iff_iff, List.isEmpty_iff, List.filter_eq_nil_iff, List.all_eq_true]
          simp
        rw [fe] at on
        have dl : evE (callF tb (n + 1)) tb.cd (.call i_L_deeds []) [.val (.tuple [.tuple ts, d]), .val (.list wordsD), .no, .no] = some (.list deedsL, [.val (.tuple [.tuple ts, d]), .val (.list wordsD), .no, .no]) := e_call rfl (deeds_ok (n := n))
        have dd : deedsL = dS.map PyData.str := rfl
        by_cases hl : (ts.length : Int) ≤ 3
        · have hl' : ts.length ≤ 3 := by omega
          have hl2 : ¬ (3 < (ts.length : Int)) := by omega
          cases q : ts.all testB
          · simp [b_L_is_clause, rd, k0, k1, k2, k3, x0, x1, cm, on, hl', hl2, q, clauseB, -List.all_eq_true, -List.all_eq_false]
          · by_cases htd : isTy d .str = true
            · obtain ⟨s, rfl⟩ : ∃ s, d = .str s := by cases d <;> first | exact ⟨_, rfl⟩ | cases htd
              rw [nice, Bool.and_eq_true] at nd
              have i1 := inl_strs nd.1 (ts := dS) (by decide +kernel)
              rw [← dd] at i1
              have k4 : noDict (.str s) = true := rfl
              have k5 : isTy (.str s) .str = true := rfl
              simp [b_L_is_clause, rd, k0, k1, k2, k3, k4, k5, x0, x1, cm, on, hl', hl2, q, dl, i1, deedB, clauseB, -List.all_eq_true, -List.all_eq_false, -List.any_eq_true]
            · have ntd : isTy d .str = false := by simpa using htd
              have nsd : deedB d = false := by cases d <;> first | rfl | cases ntd
              simp [b_L_is_clause, rd, k0, k1, k2, k3, x0, x1, cm, on, hl', hl2, q, nice_dict nd, ntd, nsd, clauseB, -List.all_eq_true, -List.all_eq_false]
        · have hl' : ¬ ts.length ≤ 3 := by omega
          have hl2 : (3 < (ts.length : Int)) := by omega
          simp [b_L_is_clause, rd, k0, k1, k2, k3, x0, hl', hl2, clauseB]
      · have nta : isTy a .tup = false := by simpa using hta
        have ns : clauseB (.tuple [a, d]) = false := by cases a <;> first | rfl | cases nta
        rw [ns]
        simp [b_L_is_clause, rd, k0, k1, x0, nice_dict na, nta]
    | [], _ => exact go (env := [.val (.tuple []), .val (.list wordsD), .no, .no]) (by simp [b_L_is_clause, rd, noDict, isTy, clauseB])
    | [x], _ =>
      have ns : clauseB (.tuple [x]) = false := by cases x <;> rfl
      rw [ns]
      exact go (env := [.val (.tuple [x]), .val (.list wordsD), .no, .no]) (by simp [b_L_is_clause, rd, noDict, isTy])
    | x1 :: x2 :: x3 :: r, _ =>
      have ns : clauseB (.tuple (x1 :: x2 :: x3 :: r)) = false := by cases x1 <;> rfl
      rw [ns]
      refine go (env := [.val (.tuple (x1 :: x2 :: x3 :: r)), .val (.list wordsD), .no, .no]) ?_
      have : ¬ ((r.length : Int) + 1 + 1 + 1 = 2) := by omega
      simp [b_L_is_clause, rd, noDict, isTy, this]
  · have nt : isTy v .tup = false := by simpa using ht
    have ns : clauseB v = false := by cases v <;> first | rfl | cases nt
    rw [ns]
    refine go (env := [.val v, .val (.list wordsD), .no, .no]) ?_
    simp [b_L_is_clause, rd, nice_dict h, nt]

theorem L_is_rule_ok {n : Nat} {v : D} (h : nice 21 v = true) : callF tb (n + 3) i_L_is_rule [v] = some (.bool (ruleB v), none) := by
  have go : ∀ {r : Bool} {env : Ev}, evSs (callF tb (n + 2)) tb.cd b_L_is_rule [.val v, .no] = some (.rt (.bool r) env) → callF tb (n + 3) i_L_is_rule [v] = some (.bool r, none) := fun h => call_val (n := n + 2) (f := i_L_is_rule) (t := tb) (ps := ["value"]) (N := n_L_is_rule) (body := b_L_is_rule) (args := [v]) rfl rfl h
  refine go (env := [.val v, .no]) ?_
  by_cases ht : isTy v .tup = true
  · obtain ⟨xs, rfl⟩ : ∃ xs, v = .tuple xs := by cases v <;> first | exact ⟨_, rfl⟩ | cases ht
    obtain ⟨lx, nx⟩ := nice_tup h
    have k0 : noDict (.tuple xs) = true := rfl
    have k1 : isTy (.tuple xs) .tup = true := rfl
    have cm : evE (callF tb (n + 2)) tb.cd (.comp [1] (.c (.int 1)) (.nm 1) (.val (.v 0)) [(.nt (.call i_L_is_clause [(.v 1)]))]) [.val (.tuple xs), .no] = some (.list ((xs.filter fun x => !clauseB x).map fun _ => .int 1), [.val (.tuple xs), .no]) :=
      comp_ones (env1 := [.val (.tuple xs), .no]) (xs := xs) (G := fun x => [.val (.tuple xs), .val x]) (p := fun x => !clauseB x) (i_valT (by simp [rd])) rfl rfl rfl (fun _ _ => rfl) (fun _ _ => rfl)
        (fun x hx => by
          have e : evE (callF tb (n + 2)) tb.cd (.call i_L_is_clause [(.v 1)]) [.val (.tuple xs), .val x] = some (.bool (clauseB x), [.val (.tuple xs), .val x]) := e_call (args := [x]) rfl (L_is_clause_ok (niceL_all.mp nx x hx))
          simp [e]) (Nat.le_trans lx (by decide))
    have on := ones_eq (xs.filter fun x => !clauseB x)
    have fe : (xs.filter fun x => !clauseB x).isEmpty = xs.all clauseB := by
      rw [Bool.eq_iff_iff, List.isEmpty_iff, List.filter_eq_nil_iff, List.all_eq_true]
      simp
    rw [fe] at on
    by_cases hl : xs.length ≤ 8
    · have hl2 : ¬ (8 < (xs.length : Int)) := by omega
      simp [b_L_is_rule, rd, k0, k1, cm, on, hl, hl2, ruleB, -List.all_eq_true, -List.all_eq_false]
    · have hl2 : (8 < (xs.length : Int)) := by omega
      simp [b_L_is_rule, rd, k0, k1, hl, hl2, ruleB]
  · have nt : isTy v .tup = false := by simpa using ht
    have ns : ruleB v = false := by cases v <;> first | rfl | cases nt
    rw [ns]
    simp [b_L_is_rule, rd, nice_dict h, nt]
theorem rest_ok : ∃ env', evSs (callF tb (nDep + 1)) tb.cd b_law_rest (List.replicate n_law.length .no) = some (.rt (.bool true) env') := by
  have h : (match evSs (callF tb (nDep + 1)) tb.cd b_law_rest (List.replicate n_law.length .no) with | some (.rt (.bool true) _) => true | _ => false) = true := by kernel_rfl
  split at h
  · rename_i e q
    exact ⟨e, q⟩
  · cases h

/-! ### the law's body -/
def E01 (rv sv b : D) (l : List D) (t : Sl) : Ev := [.no, .own b, .val rv, .val sv, .own (.list l), t, .no]
def nOwn (t : Sl) : Bool := match t with
  | .own _ => false
  | _ => true
theorem odd_loop {rv sv v : D} {i : Nat} (hi : i = 2 ∧ v = rv ∨ i = 3 ∧ v = sv) (nv : nice 20 v = true) (dv : PyData.depth v ≤ 3) : ∀ (xs : List D) (b : D) (l : List D) (t : Sl) (r : Nat), Vb (r + 24 * xs.length) b → nOwn t = true → niceL 21 l = true → l.length + xs.length ≤ 50 →
    ∃ b' l' t', forL (bindT (.nm 5)) (evSs (callF tb (nDep + 1)) tb.cd [.app 4 (.callB i_L_odd_k01 1 [(.v i)])]) xs (E01 rv sv b l t) = some (.nx (E01 rv sv b' l' t')) ∧ Vb r b' ∧ nOwn t' = true ∧ niceL 21 l' = true ∧ l'.length = l.length + xs.length
  | [], b, l, t, r, hb, ht, hl, _ => ⟨b, l, t, rfl, hb, ht, hl, rfl⟩
  | x :: xs, b, l, t, r, hb, ht, hl, hz => by
    rw [List.length_cons] at hb hz
    obtain ⟨d, b1, h1, n1, v1⟩ := odd_ok (n := 24) 3 v nv dv (r + 24 * xs.length) b (hb.less (by omega))
    have hs : bindT (.nm 5) x (E01 rv sv b l t) = some (E01 rv sv b l (.val x)) := by
      cases t <;> first | rfl | cases ht
    have c1 : evE (callF tb (nDep + 1)) tb.cd (.callB i_L_odd_k01 1 [(.v i)]) (E01 rv sv b l (.val x)) = some (d, E01 rv sv b1 l (.val x)) := by
      rcases hi with ⟨rfl, rfl⟩ | ⟨rfl, rfl⟩ <;> exact e_callB1 rfl h1
    have a1 := s_app (cf := callF tb (nDep + 1)) (cd := tb.cd) (i := 4) (xs := l) (ys := l) rfl c1 rfl (by show l.length < 16777216; omega)
    have st : evSs (callF tb (nDep + 1)) tb.cd [.app 4 (.callB i_L_odd_k01 1 [(.v i)])] (E01 rv sv b l (.val x)) = some (.nx (E01 rv sv b1 (l ++ [d]) (.val x))) := by
      rw [ss_cons', a1]
      rfl
    obtain ⟨b', l', t', g1, g2, g3, g4, g5⟩ := odd_loop hi nv dv xs b1 (l ++ [d]) (.val x) r v1 rfl (niceL_append hl (by rw [niceL, niceL, n1]; rfl)) (by rw [List.length_append, List.length_singleton]; omega)
    refine ⟨b', l', t', ?_, g2, g3, g4, by rw [g5, List.length_append, List.length_singleton, List.length_cons]; omega⟩
    rw [forL_step hs, st, sq_nx, g1]
/-- all recognized alike: the list is empty -/
theorem none_bad {f g : Nat} {q : D → Bool} (h1 : ∀ v, nice 21 v = true → callF tb (nDep + 1) f [v] = some (.bool (q v), none)) (h2 : ∀ v, nice 21 v = true → callF tb (nDep + 1) g [v] = some (.bool (q v), none)) {rv sv b : D} {l : List D} {t : Sl} (hl : niceL 21 l = true) (hz : l.length ≤ 50) :
    evS (callF tb (nDep + 1)) tb.cd (.iff (.cmp .ne (.comp [6] (.c (.int 1)) (.nm 6) (.val (.v 4)) [(.nt (.call i_L_same [(.call f [(.v 6)]), (.call g [(.v 6)])]))]) (.lst [])) [.ret (.c (.bool false))] []) (E01 rv sv b l t) = some (.nx [.no, .own b, .val rv, .val sv, .val (.list l), t, .no]) := by
  have cm := comp_ones (cf := callF tb (nDep + 1)) (cd := tb.cd) (own := [6]) (c := .nt (.call i_L_same [(.call f [(.v 6)]), (.call g [(.v 6)])])) (t := .nm 6) (it := .val (.v 4)) (env := E01 rv sv b l t) (env1 := [.no, .own b, .val rv, .val sv, .val (.list l), t, .no]) (xs := l)
    (G := fun x => [.no, .own b, .val rv, .val sv, .val (.list l), t, .val x]) (p := fun _ => false) (i_val rfl) rfl rfl rfl (fun _ _ => rfl) (fun _ _ => rfl) (fun x hx => by
      have nx := niceL_all.mp hl x hx
      have a1 := e_call (cf := callF tb (nDep + 1)) (cd := tb.cd) (es := [.v 6]) (e := [.no, .own b, .val rv, .val sv, .val (.list l), t, .val x]) rfl (h1 x nx)
      have a2 := e_call (cf := callF tb (nDep + 1)) (cd := tb.cd) (es := [.v 6]) (e := [.no, .own b, .val rv, .val sv, .val (.list l), t, .val x]) rfl (h2 x nx)
      have a3 := e_call (cf := callF tb (nDep + 1)) (cd := tb.cd) (f := i_L_same) (es := [(.call f [(.v 6)]), (.call g [(.v 6)])]) (e := [.no, .own b, .val rv, .val sv, .val (.list l), t, .val x]) (by rw [es_cons', a1, bnd_some, es_cons', a2, bnd_some, es_nil', bnd_some, bnd_some]) (same_b (n := nDep) (q x) (q x))
      rw [e_nt, a3, bnd_some, notD_b, lft_some]
      simp) (by show l.length ≤ 16777216; omega)
  rw [List.filter_eq_nil_iff.mpr fun _ _ => by simp] at cm
  rw [s_iff, e_cmp, cm, bnd_some, e_lst, es_nil', bnd_some]
  rfl
theorem e_cB1 {f : Nat} {es : List E} {b : D} {r : Ev} {args : List D} (h : evEs (callF tb (nDep + 1)) tb.cd es (.no :: .own b :: r) = some (args, .no :: .own b :: r)) {d b' : D} (hc : callF tb (nDep + 1) f (b :: args) = some (d, some b')) : evE (callF tb (nDep + 1)) tb.cd (.callB f 1 es) (.no :: .own b :: r) = some (d, .no :: .own b' :: r) := e_callB1 h hc
theorem body_ok : ∀ ns : List Int, ns.length ≤ 63 → ∀ b ∈ bagsOf wellF ns 8, ∃ env', evSs (callF tb (nDep + 1)) tb.cd b_law_body (bagEnv n_law.length b) = some (.nx env') := by
  intro ns _ b hb
  have v0 := bag_vb (by decide) (by decide) hb
  show ∃ env', evSs (callF tb (nDep + 1)) tb.cd b_law_body [.no, .own (.list (b.map PyData.int)), .no, .no, .no, .no, .no] = some (.nx env')
  generalize (PyData.list (b.map PyData.int)) = b at v0
  obtain ⟨rv, b1, h1, p1, v1⟩ := rule_ok (n := 25) (m := 8) (by decide) (by decide) 10000 b (v0.less (by decide))
  obtain ⟨sv, b2, h2, p2, v2⟩ := screen_ok (n := 27) true 9000 b1 (v1.less (by decide))
  obtain ⟨nr, dr⟩ := rule_nice (by decide) p1
  obtain ⟨xs, rfl, lx, ax⟩ := p1
  obtain ⟨sc, _, rfl, _⟩ := p2
  -- the screen is nice
  have ns' : nice 20 (scrD sc) = true ∧ PyData.depth (scrD sc) ≤ 3 := ⟨rfl, by simp [scrD, PyData.depth, PyData.depthAll]⟩
  have t1 : evE (callF tb (nDep + 1)) tb.cd (.callB i_L_rule 1 [(.c (.int 8))]) [.no, .own b, .no, .no, .no, .no, .no] = some (.tuple xs, [.no, .own b1, .no, .no, .no, .no, .no]) := e_callB1 rfl h1
  have t2 : evE (callF tb (nDep + 1)) tb.cd (.callB i_L_screen 1 [(.c (.bool true))]) [.no, .own b1, .no, .no, .no, .no, .no] = some (scrD sc, [.no, .own b2, .no, .no, .no, .no, .no]) := e_callB1 rfl h2
  have bs : b_law_body = b_law_body.getD 0 .rse :: b_law_body.getD 1 .rse :: b_law_body.getD 2 .rse :: b_law_body.getD 3 .rse :: b_law_body.getD 4 .rse :: b_law_body.getD 5 .rse :: b_law_body.getD 6 .rse :: [] := rfl
  have e0 : evS (callF tb (nDep + 1)) tb.cd (b_law_body.getD 0 .rse) [.no, .own b, .no, .no, .no, .no, .no] = some (.nx [.no, .own b2, .val (.tuple xs), .val (scrD sc), .no, .no, .no]) := by
    show evS (callF tb (nDep + 1)) tb.cd (.par [2, 3] [(.e (.callB i_L_rule 1 [(.c (.int 8))])), (.e (.callB i_L_screen 1 [(.c (.bool true))]))]) _ = _
    simp only [s_par, ol_cons, os_e', t1, t2, ol_nil, setAll_cons, setAll_nil, bnd_some]
    rfl
  -- the first list
  have m1 : binD .mul (.tuple [.tuple [.tuple [.str "end"], .str "end"]]) (.int (9 - xs.length)) = some (.tuple (List.replicate (9 - (xs.length : Int)).toNat [.tuple [.tuple [.str "end"], .str "end"]]).flatten) := tup_mul (by omega) (by omega) (by simp)
  have l4 : ((List.replicate (9 - (xs.length : Int)).toNat [(PyData.tuple [.tuple [.str "end"], .str "end"])]).flatten).length ≤ 9 := by
    rw [List.length_flatten, List.map_replicate, List.sum_replicate_nat, List.length_singleton]
    omega
  have nm : niceL 21 (List.replicate (9 - (xs.length : Int)).toNat [(PyData.tuple [.tuple [.str "end"], .str "end"])]).flatten = true := niceL_all.mpr fun x hx => by
    obtain ⟨l, hl, hx⟩ := List.mem_flatten.mp hx
    have := List.eq_of_mem_replicate hl
    subst this
    have : x = (PyData.tuple [.tuple [.str "end"], .str "end"]) := by simpa using hx
    rw [this]; decide +kernel
  generalize (List.replicate (9 - (xs.length : Int)).toNat [(PyData.tuple [.tuple [.str "end"], .str "end"])]).flatten = ms at m1 l4 nm
  have nxs : niceL 21 xs = true := niceL_more (by decide) (nice_tup nr).2
  have lx8 : xs.length ≤ 8 := lx
  have a1 := tup_add (xs := xs) (ys := ms) (by show _ ≤ 16777216; omega)
  have a2 := tup_add (xs := xs) (ys := [.tuple [.tuple [.str "end", .str "end", .str "end", .str "end"], .str "stay"]]) (by show xs.length + 1 ≤ 16777216; omega)
  have e1 : evS (callF tb (nDep + 1)) tb.cd (b_law_body.getD 1 .rse) [.no, .own b2, .val (.tuple xs), .val (scrD sc), .no, .no, .no] = some (.nx (E01 (.tuple xs) (scrD sc) b2 [.tuple xs, .tuple (xs ++ ms), .tuple (xs ++ [.tuple [.tuple [.str "end", .str "end", .str "end", .str "end"], .str "stay"]]), tb.cd 2, tb.cd 3] .no)) := by
    have m2 : binD .mul (.tuple [.str "end"]) (.int 4) = some (.tuple [.str "end", .str "end", .str "end", .str "end"]) := rfl
    show evS (callF tb (nDep + 1)) tb.cd (.asg 4 (.lst [(.v 2), (.bin .add (.v 2) (.bin .mul (.tup [(.tup [(.tup [(.c (.str "end"))]), (.c (.str "end"))])]) (.bin .sub (.c (.int 9)) (.f1 .len (.v 2))))), (.bin .add (.v 2) (.tup [(.tup [(.bin .mul (.tup [(.c (.str "end"))]) (.c (.int 4))), (.c (.str "stay"))])])), (.g 2), (.g 3)])) _ = _
    have sl : ∀ (es : List E) (e e' : Ev) (ds : List D), evEs (callF tb (nDep + 1)) tb.cd es e = some (ds, e') → ds.length ≤ SZ → evS (callF tb (nDep + 1)) tb.cd (.asg 4 (.lst es)) e = some (.nx (e'.set 4 (.own (.list ds)))) := fun es e e' ds h hz => by
      rw [s_asg]
      show bnd (bnd (evEs _ _ es e) _) _ = _
      rw [h, bnd_some, decide_eq_true hz]
      rfl
    exact sl _ _ [.no, .own b2, .val (.tuple xs), .val (scrD sc), .no, .no, .no] _ (by simp [rd, m1, m2, a1, a2, SZ]) (Nat.le_of_ble_eq_true rfl)
  obtain ⟨b3, l3, t3, f1, v3, nt3, nl3, ll3⟩ := odd_loop (rv := .tuple xs) (sv := scrD sc) (v := .tuple xs) (i := 2) (.inl ⟨rfl, rfl⟩) nr dr (rngL 0 15) b2 [.tuple xs, .tuple (xs ++ ms), .tuple (xs ++ [.tuple [.tuple [.str "end", .str "end", .str "end", .str "end"], .str "stay"]]), tb.cd 2, tb.cd 3] .no 5000 (v2.less (by decide)) rfl
    (by
      have g2 : nice 21 (tb.cd 2) = true := by decide +kernel
      have g3 : nice 21 (tb.cd 3) = true := by decide +kernel
      have n1 := tup_nice (m := 21) (xs := xs) (by omega) nxs
      have n2 := tup_nice (m := 21) (xs := xs ++ ms) (by rw [List.length_append]; omega) (niceL_append nxs nm)
      have n3 := tup_nice (m := 21) (xs := xs ++ [.tuple [.tuple [.str "end", .str "end", .str "end", .str "end"], .str "stay"]]) (by rw [List.length_append]; simp; omega) (niceL_append nxs (by decide +kernel))
      simp only [niceL, n1, n2, n3, g2, g3, Bool.and_self]) (Nat.le_of_ble_eq_true rfl)
  have e2 : evS (callF tb (nDep + 1)) tb.cd (b_law_body.getD 2 .rse) (E01 (.tuple xs) (scrD sc) b2 [.tuple xs, .tuple (xs ++ ms), .tuple (xs ++ [.tuple [.tuple [.str "end", .str "end", .str "end", .str "end"], .str "stay"]]), tb.cd 2, tb.cd 3] .no) = some (.nx (E01 (.tuple xs) (scrD sc) b3 l3 t3)) := by
    show evS (callF tb (nDep + 1)) tb.cd (.for_ (.nm 5) (.rng (.c (.int 15))) [.app 4 (.callB i_L_odd_k01 1 [(.v 2)])]) _ = _
    rw [s_for, i_rng (j := 15) rfl rfl, bnd_some]
    exact f1
  have e3 := none_bad (f := i_is_rule) (g := i_L_is_rule) (q := ruleB) (fun v h => is_rule_ok (n := 26) h) (fun v h => L_is_rule_ok (n := 26) h) (rv := .tuple xs) (sv := scrD sc) (b := b3) (l := l3) (t := t3) nl3 (by rw [ll3]; exact Nat.le_of_ble_eq_true rfl)
  -- the second list
  obtain ⟨_, b4, h4, ⟨u, rfl, u0, u1⟩, v4⟩ := take01 (n := 28) (m := 4) (by decide) (by decide) 4000 b3 (v3.less (by decide))
  obtain ⟨_, b5, h5, ⟨w, rfl, w0, w1⟩, v5⟩ := take01 (n := 28) (m := 6) (by decide) (by decide) 3000 b4 (v4.less (by decide))
  have t4 : evE (callF tb (nDep + 1)) tb.cd (.callB i_L_take 1 [(.c (.int 4))]) [.no, .own b3, .val (.tuple xs), .val (scrD sc), .val (.list l3), t3, .no] = some (.int u, [.no, .own b4, .val (.tuple xs), .val (scrD sc), .val (.list l3), t3, .no]) := e_callB1 rfl h4
  have t5 : evE (callF tb (nDep + 1)) tb.cd (.callB i_L_take 1 [(.c (.int 6))]) [.no, .own b4, .val (.tuple xs), .val (scrD sc), .val (.list l3), t3, .no] = some (.int w, [.no, .own b5, .val (.tuple xs), .val (scrD sc), .val (.list l3), t3, .no]) := e_callB1 rfl h5
  have e4 : evS (callF tb (nDep + 1)) tb.cd (b_law_body.getD 4 .rse) [.no, .own b3, .val (.tuple xs), .val (scrD sc), .val (.list l3), t3, .no] = some (.nx (E01 (.tuple xs) (scrD sc) b5 [scrD sc, .tuple [.int sc.h, .int sc.s, .int 3, .int 3], .tuple [.int sc.h, .int sc.s, .int (1 + u), .int w]] t3)) := by
    show evS (callF tb (nDep + 1)) tb.cd (.asg 4 (.lst [(.v 3), (.bin .add (.slc (.v 3) none (some (.c (.int 2)))) (.tup [(.c (.int 3)), (.c (.int 3))])), (.bin .add (.slc (.v 3) none (some (.c (.int 2)))) (.tup [(.bin .add (.c (.int 1)) (.callB i_L_take 1 [(.c (.int 4))])), (.callB i_L_take 1 [(.c (.int 6))])]))])) _ = _
    have c1 : slcD (scrD sc) none (some 2) = some (.tuple [.int sc.h, .int sc.s]) := rfl
    have c2 : binD .add (.tuple [.int sc.h, .int sc.s]) (.tuple [.int 3, .int 3]) = some (.tuple [.int sc.h, .int sc.s, .int 3, .int 3]) := rfl
    have c3 : binD .add (.tuple [.int sc.h, .int sc.s]) (.tuple [.int (1 + u), .int w]) = some (.tuple [.int sc.h, .int sc.s, .int (1 + u), .int w]) := rfl
    simp [s_asg, evOs, t4, t5, rd, c1, c2, c3, SZ, E01]
  obtain ⟨b6, l6, t6, f2, v6, nt6, nl6, ll6⟩ := odd_loop (rv := .tuple xs) (sv := scrD sc) (v := scrD sc) (i := 3) (.inr ⟨rfl, rfl⟩) ns'.1 ns'.2 (rngL 0 15) b5 [scrD sc, .tuple [.int sc.h, .int sc.s, .int 3, .int 3], .tuple [.int sc.h, .int sc.s, .int (1 + u), .int w]] t3 100 (v5.less (by decide)) nt3 rfl (Nat.le_of_ble_eq_true rfl)
  have e5 : evS (callF tb (nDep + 1)) tb.cd (b_law_body.getD 5 .rse) (E01 (.tuple xs) (scrD sc) b5 [scrD sc, .tuple [.int sc.h, .int sc.s, .int 3, .int 3], .tuple [.int sc.h, .int sc.s, .int (1 + u), .int w]] t3) = some (.nx (E01 (.tuple xs) (scrD sc) b6 l6 t6)) := by
    show evS (callF tb (nDep + 1)) tb.cd (.for_ (.nm 5) (.rng (.c (.int 15))) [.app 4 (.callB i_L_odd_k01 1 [(.v 3)])]) _ = _
    rw [s_for, i_rng (j := 15) rfl rfl, bnd_some]
    exact f2
  have e6 := none_bad (f := i_is_screen) (g := i_L_is_screen) (q := scrB) (fun v h => is_screen_ok (n := 27) h) (fun v h => L_is_screen_ok (n := 27) h) (rv := .tuple xs) (sv := scrD sc) (b := b6) (l := l6) (t := t6) nl6 (by rw [ll6]; exact Nat.le_of_ble_eq_true rfl)
  refine ⟨[.no, .own b6, .val (.tuple xs), .val (scrD sc), .val (.list l6), t6, .no], ?_⟩
  rw [bs, ss_cons', e0, sq_nx, ss_cons', e1, sq_nx, ss_cons', e2, sq_nx, ss_cons']
  show sq (evS (callF tb (nDep + 1)) tb.cd (.iff (.cmp .ne (.comp [6] (.c (.int 1)) (.nm 6) (.val (.v 4)) [(.nt (.call i_L_same [(.call i_is_rule [(.v 6)]), (.call i_L_is_rule [(.v 6)])]))]) (.lst [])) [.ret (.c (.bool false))] []) _) _ = _
  rw [e3, sq_nx, ss_cons', e4, sq_nx, ss_cons', e5, sq_nx, ss_cons']
  show sq (evS (callF tb (nDep + 1)) tb.cd (.iff (.cmp .ne (.comp [6] (.c (.int 1)) (.nm 6) (.val (.v 4)) [(.nt (.call i_L_same [(.call i_is_screen [(.v 6)]), (.call i_L_is_screen [(.v 6)])]))]) (.lst [])) [.ret (.c (.bool false))] []) _) _ = _
  rw [e6, sq_nx]
  rfl
end Mi
end
section
set_option Elab.async false
set_option linter.all false
set_option maxRecDepth 100000
set_option maxHeartbeats 4000000
namespace Mi
open PySem PySem.Spec PyProof.Rows L2
theorem bags_text : BagsText fnsT cnsT bsT 7 st_L_bags := ⟨⟨_, _, _, _, _, _, _, _, _, _, _, _, _, _, _, _, _, _, rfl, by decide +kernel, by kernel_rfl, by kernel_rfl⟩, scOk (by decide +kernel), by decide +kernel, by decide +kernel⟩
theorem law_text : LawText fnsT cnsT bsT n_law mu_law 8 b_law_body b_law_rest st_law := ⟨⟨_, _, _, _, _, _, _, _, _, rfl, by kernel_rfl, by kernel_rfl⟩, scOk (by decide +kernel), rfl, rfl, by decide +kernel, by decide +kernel⟩
theorem all_mk {P : Program} {w : World} {K : PySem.W.Frag} {h : Heap} {mg : Str → Option Value} {fa : Addr} (X : K.In h) (G : h.Ns mainGlobals mg) (hfa : mg "law" = some (.ref fa))
    {f_is_within : Addr} {od_is_within an_is_within : Option Addr} {sl_is_within : Array (Option Value)} {oc_is_within kV_is_within dc_is_within pm_is_within cd_is_within ct_is_within : Value} (a_is_within : PySem.W.nsIn K mainGlobals "is_within" = some (some (.ref f_is_within)))
    (l_is_within : K.lookup f_is_within = some ⟨oc_is_within, od_is_within, .func (PySem.W.fnOf "is_within" "is_within" (defArgs st_is_within) (defBody st_is_within) (defScope st_is_within) .none kV_is_within dc_is_within pm_is_within an_is_within cd_is_within ct_is_within), sl_is_within⟩) (q_is_within : PySem.W.codeIn K cd_is_within "is_within" = true) (k_is_within : PySem.W.keepIn K (.ref f_is_within) = true)
    {f_power : Addr} {od_power an_power : Option Addr} {sl_power : Array (Option Value)} {oc_power kV_power dc_power pm_power cd_power ct_power : Value} (a_power : PySem.W.nsIn K mainGlobals "power" = some (some (.ref f_power)))
    (l_power : K.lookup f_power = some ⟨oc_power, od_power, .func (PySem.W.fnOf "power" "power" (defArgs st_power) (defBody st_power) (defScope st_power) .none kV_power dc_power pm_power an_power cd_power ct_power), sl_power⟩) (q_power : PySem.W.codeIn K cd_power "power" = true) (k_power : PySem.W.keepIn K (.ref f_power) = true)
    {f_is_screen : Addr} {od_is_screen an_is_screen : Option Addr} {sl_is_screen : Array (Option Value)} {oc_is_screen kV_is_screen dc_is_screen pm_is_screen cd_is_screen ct_is_screen : Value} (a_is_screen : PySem.W.nsIn K mainGlobals "is_screen" = some (some (.ref f_is_screen)))
    (l_is_screen : K.lookup f_is_screen = some ⟨oc_is_screen, od_is_screen, .func (PySem.W.fnOf "is_screen" "is_screen" (defArgs st_is_screen) (defBody st_is_screen) (defScope st_is_screen) .none kV_is_screen dc_is_screen pm_is_screen an_is_screen cd_is_screen ct_is_screen), sl_is_screen⟩) (q_is_screen : PySem.W.codeIn K cd_is_screen "is_screen" = true) (k_is_screen : PySem.W.keepIn K (.ref f_is_screen) = true)
    {f_is_one_of : Addr} {od_is_one_of an_is_one_of : Option Addr} {sl_is_one_of : Array (Option Value)} {oc_is_one_of kV_is_one_of dc_is_one_of pm_is_one_of cd_is_one_of ct_is_one_of : Value} (a_is_one_of : PySem.W.nsIn K mainGlobals "is_one_of" = some (some (.ref f_is_one_of)))
    (l_is_one_of : K.lookup f_is_one_of = some ⟨oc_is_one_of, od_is_one_of, .func (PySem.W.fnOf "is_one_of" "is_one_of" (defArgs st_is_one_of) (defBody st_is_one_of) (defScope st_is_one_of) .none kV_is_one_of dc_is_one_of pm_is_one_of an_is_one_of cd_is_one_of ct_is_one_of), sl_is_one_of⟩) (q_is_one_of : PySem.W.codeIn K cd_is_one_of "is_one_of" = true) (k_is_one_of : PySem.W.keepIn K (.ref f_is_one_of) = true)
    {f_is_test : Addr} {od_is_test an_is_test : Option Addr} {sl_is_test : Array (Option Value)} {oc_is_test kV_is_test dc_is_test pm_is_test cd_is_test ct_is_test : Value} (a_is_test : PySem.W.nsIn K mainGlobals "is_test" = some (some (.ref f_is_test)))
    (l_is_test : K.lookup f_is_test = some ⟨oc_is_test, od_is_test, .func (PySem.W.fnOf "is_test" "is_test" (defArgs st_is_test) (defBody st_is_test) (defScope st_is_test) .none kV_is_test dc_is_test pm_is_test an_is_test cd_is_test ct_is_test), sl_is_test⟩) (q_is_test : PySem.W.codeIn K cd_is_test "is_test" = true) (k_is_test : PySem.W.keepIn K (.ref f_is_test) = true)
    {f_is_clause : Addr} {od_is_clause an_is_clause : Option Addr} {sl_is_clause : Array (Option Value)} {oc_is_clause kV_is_clause dc_is_clause pm_is_clause cd_is_clause ct_is_clause : Value} (a_is_clause : PySem.W.nsIn K mainGlobals "is_clause" = some (some (.ref f_is_clause)))
    (l_is_clause : K.lookup f_is_clause = some ⟨oc_is_clause, od_is_clause, .func (PySem.W.fnOf "is_clause" "is_clause" (defArgs st_is_clause) (defBody st_is_clause) (defScope st_is_clause) .none kV_is_clause dc_is_clause pm_is_clause an_is_clause cd_is_clause ct_is_clause), sl_is_clause⟩) (q_is_clause : PySem.W.codeIn K cd_is_clause "is_clause" = true) (k_is_clause : PySem.W.keepIn K (.ref f_is_clause) = true)
    {f_is_rule : Addr} {od_is_rule an_is_rule : Option Addr} {sl_is_rule : Array (Option Value)} {oc_is_rule kV_is_rule dc_is_rule pm_is_rule cd_is_rule ct_is_rule : Value} (a_is_rule : PySem.W.nsIn K mainGlobals "is_rule" = some (some (.ref f_is_rule)))
    (l_is_rule : K.lookup f_is_rule = some ⟨oc_is_rule, od_is_rule, .func (PySem.W.fnOf "is_rule" "is_rule" (defArgs st_is_rule) (defBody st_is_rule) (defScope st_is_rule) .none kV_is_rule dc_is_rule pm_is_rule an_is_rule cd_is_rule ct_is_rule), sl_is_rule⟩) (q_is_rule : PySem.W.codeIn K cd_is_rule "is_rule" = true) (k_is_rule : PySem.W.keepIn K (.ref f_is_rule) = true)
    {f_L_well : Addr} {od_L_well an_L_well : Option Addr} {sl_L_well : Array (Option Value)} {oc_L_well kV_L_well dc_L_well pm_L_well cd_L_well ct_L_well : Value} (a_L_well : PySem.W.nsIn K mainGlobals "_law_well" = some (some (.ref f_L_well)))
    (l_L_well : K.lookup f_L_well = some ⟨oc_L_well, od_L_well, .func (PySem.W.fnOf "_law_well" "_law_well" (defArgs st_L_well) (defBody st_L_well) (defScope st_L_well) .none kV_L_well dc_L_well pm_L_well an_L_well cd_L_well ct_L_well), sl_L_well⟩) (q_L_well : PySem.W.codeIn K cd_L_well "_law_well" = true) (k_L_well : PySem.W.keepIn K (.ref f_L_well) = true)
    {f_L_take : Addr} {od_L_take an_L_take : Option Addr} {sl_L_take : Array (Option Value)} {oc_L_take kV_L_take dc_L_take pm_L_take cd_L_take ct_L_take : Value} (a_L_take : PySem.W.nsIn K mainGlobals "_law_take" = some (some (.ref f_L_take)))
    (l_L_take : K.lookup f_L_take = some ⟨oc_L_take, od_L_take, .func (PySem.W.fnOf "_law_take" "_law_take" (defArgs st_L_take) (defBody st_L_take) (defScope st_L_take) .none kV_L_take dc_L_take pm_L_take an_L_take cd_L_take ct_L_take), sl_L_take⟩) (q_L_take : PySem.W.codeIn K cd_L_take "_law_take" = true) (k_L_take : PySem.W.keepIn K (.ref f_L_take) = true)
    {f_L_same : Addr} {od_L_same an_L_same : Option Addr} {sl_L_same : Array (Option Value)} {oc_L_same kV_L_same dc_L_same pm_L_same cd_L_same ct_L_same : Value} (a_L_same : PySem.W.nsIn K mainGlobals "_law_same" = some (some (.ref f_L_same)))
    (l_L_same : K.lookup f_L_same = some ⟨oc_L_same, od_L_same, .func (PySem.W.fnOf "_law_same" "_law_same" (defArgs st_L_same) (defBody st_L_same) (defScope st_L_same) .none kV_L_same dc_L_same pm_L_same an_L_same cd_L_same ct_L_same), sl_L_same⟩) (q_L_same : PySem.W.codeIn K cd_L_same "_law_same" = true) (k_L_same : PySem.W.keepIn K (.ref f_L_same) = true)
    {f_L_tests : Addr} {od_L_tests an_L_tests : Option Addr} {sl_L_tests : Array (Option Value)} {oc_L_tests kV_L_tests dc_L_tests pm_L_tests cd_L_tests ct_L_tests : Value} (a_L_tests : PySem.W.nsIn K mainGlobals "_law_tests" = some (some (.ref f_L_tests)))
    (l_L_tests : K.lookup f_L_tests = some ⟨oc_L_tests, od_L_tests, .func (PySem.W.fnOf "_law_tests" "_law_tests" (defArgs st_L_tests) (defBody st_L_tests) (defScope st_L_tests) .none kV_L_tests dc_L_tests pm_L_tests an_L_tests cd_L_tests ct_L_tests), sl_L_tests⟩) (q_L_tests : PySem.W.codeIn K cd_L_tests "_law_tests" = true) (k_L_tests : PySem.W.keepIn K (.ref f_L_tests) = true)
    {f_L_deeds : Addr} {od_L_deeds an_L_deeds : Option Addr} {sl_L_deeds : Array (Option Value)} {oc_L_deeds kV_L_deeds dc_L_deeds pm_L_deeds cd_L_deeds ct_L_deeds : Value} (a_L_deeds : PySem.W.nsIn K mainGlobals "_law_deeds" = some (some (.ref f_L_deeds)))
    (l_L_deeds : K.lookup f_L_deeds = some ⟨oc_L_deeds, od_L_deeds, .func (PySem.W.fnOf "_law_deeds" "_law_deeds" (defArgs st_L_deeds) (defBody st_L_deeds) (defScope st_L_deeds) .none kV_L_deeds dc_L_deeds pm_L_deeds an_L_deeds cd_L_deeds ct_L_deeds), sl_L_deeds⟩) (q_L_deeds : PySem.W.codeIn K cd_L_deeds "_law_deeds" = true) (k_L_deeds : PySem.W.keepIn K (.ref f_L_deeds) = true)
    {f_L_test : Addr} {od_L_test an_L_test : Option Addr} {sl_L_test : Array (Option Value)} {oc_L_test kV_L_test dc_L_test pm_L_test cd_L_test ct_L_test : Value} (a_L_test : PySem.W.nsIn K mainGlobals "_law_test" = some (some (.ref f_L_test)))
    (l_L_test : K.lookup f_L_test = some ⟨oc_L_test, od_L_test, .func (PySem.W.fnOf "_law_test" "_law_test" (defArgs st_L_test) (defBody st_L_test) (defScope st_L_test) .none kV_L_test dc_L_test pm_L_test an_L_test cd_L_test ct_L_test), sl_L_test⟩) (q_L_test : PySem.W.codeIn K cd_L_test "_law_test" = true) (k_L_test : PySem.W.keepIn K (.ref f_L_test) = true)
    {f_L_clause : Addr} {od_L_clause an_L_clause : Option Addr} {sl_L_clause : Array (Option Value)} {oc_L_clause kV_L_clause dc_L_clause pm_L_clause cd_L_clause ct_L_clause : Value} (a_L_clause : PySem.W.nsIn K mainGlobals "_law_clause" = some (some (.ref f_L_clause)))
    (l_L_clause : K.lookup f_L_clause = some ⟨oc_L_clause, od_L_clause, .func (PySem.W.fnOf "_law_clause" "_law_clause" (defArgs st_L_clause) (defBody st_L_clause) (defScope st_L_clause) .none kV_L_clause dc_L_clause pm_L_clause an_L_clause cd_L_clause ct_L_clause), sl_L_clause⟩) (q_L_clause : PySem.W.codeIn K cd_L_clause "_law_clause" = true) (k_L_clause : PySem.W.keepIn K (.ref f_L_clause) = true)
    {f_L_known : Addr} {od_L_known an_L_known : Option Addr} {sl_L_known : Array (Option Value)} {oc_L_known kV_L_known dc_L_known pm_L_known cd_L_known ct_L_known : Value} (a_L_known : PySem.W.nsIn K mainGlobals "_law_known" = some (some (.ref f_L_known)))
    (l_L_known : K.lookup f_L_known = some ⟨oc_L_known, od_L_known, .func (PySem.W.fnOf "_law_known" "_law_known" (defArgs st_L_known) (defBody st_L_known) (defScope st_L_known) .none kV_L_known dc_L_known pm_L_known an_L_known cd_L_known ct_L_known), sl_L_known⟩) (q_L_known : PySem.W.codeIn K cd_L_known "_law_known" = true) (k_L_known : PySem.W.keepIn K (.ref f_L_known) = true)
    {f_L_rule : Addr} {od_L_rule an_L_rule : Option Addr} {sl_L_rule : Array (Option Value)} {oc_L_rule kV_L_rule dc_L_rule pm_L_rule cd_L_rule ct_L_rule : Value} (a_L_rule : PySem.W.nsIn K mainGlobals "_law_rule" = some (some (.ref f_L_rule)))
    (l_L_rule : K.lookup f_L_rule = some ⟨oc_L_rule, od_L_rule, .func (PySem.W.fnOf "_law_rule" "_law_rule" (defArgs st_L_rule) (defBody st_L_rule) (defScope st_L_rule) .none kV_L_rule dc_L_rule pm_L_rule an_L_rule cd_L_rule ct_L_rule), sl_L_rule⟩) (q_L_rule : PySem.W.codeIn K cd_L_rule "_law_rule" = true) (k_L_rule : PySem.W.keepIn K (.ref f_L_rule) = true)
    {f_L_screen : Addr} {od_L_screen an_L_screen : Option Addr} {sl_L_screen : Array (Option Value)} {oc_L_screen kV_L_screen dc_L_screen pm_L_screen cd_L_screen ct_L_screen : Value} (a_L_screen : PySem.W.nsIn K mainGlobals "_law_screen" = some (some (.ref f_L_screen)))
    (l_L_screen : K.lookup f_L_screen = some ⟨oc_L_screen, od_L_screen, .func (PySem.W.fnOf "_law_screen" "_law_screen" (defArgs st_L_screen) (defBody st_L_screen) (defScope st_L_screen) .none kV_L_screen dc_L_screen pm_L_screen an_L_screen cd_L_screen ct_L_screen), sl_L_screen⟩) (q_L_screen : PySem.W.codeIn K cd_L_screen "_law_screen" = true) (k_L_screen : PySem.W.keepIn K (.ref f_L_screen) = true)
    {f_L_whole : Addr} {od_L_whole an_L_whole : Option Addr} {sl_L_whole : Array (Option Value)} {oc_L_whole kV_L_whole dc_L_whole pm_L_whole cd_L_whole ct_L_whole : Value} (a_L_whole : PySem.W.nsIn K mainGlobals "_law_whole" = some (some (.ref f_L_whole)))
    (l_L_whole : K.lookup f_L_whole = some ⟨oc_L_whole, od_L_whole, .func (PySem.W.fnOf "_law_whole" "_law_whole" (defArgs st_L_whole) (defBody st_L_whole) (defScope st_L_whole) .none kV_L_whole dc_L_whole pm_L_whole an_L_whole cd_L_whole ct_L_whole), sl_L_whole⟩) (q_L_whole : PySem.W.codeIn K cd_L_whole "_law_whole" = true) (k_L_whole : PySem.W.keepIn K (.ref f_L_whole) = true)
    {f_L_is_screen : Addr} {od_L_is_screen an_L_is_screen : Option Addr} {sl_L_is_screen : Array (Option Value)} {oc_L_is_screen kV_L_is_screen dc_L_is_screen pm_L_is_screen cd_L_is_screen ct_L_is_screen : Value} (a_L_is_screen : PySem.W.nsIn K mainGlobals "_law_is_screen" = some (some (.ref f_L_is_screen)))
    (l_L_is_screen : K.lookup f_L_is_screen = some ⟨oc_L_is_screen, od_L_is_screen, .func (PySem.W.fnOf "_law_is_screen" "_law_is_screen" (defArgs st_L_is_screen) (defBody st_L_is_screen) (defScope st_L_is_screen) .none kV_L_is_screen dc_L_is_screen pm_L_is_screen an_L_is_screen cd_L_is_screen ct_L_is_screen), sl_L_is_screen⟩) (q_L_is_screen : PySem.W.codeIn K cd_L_is_screen "_law_is_screen" = true) (k_L_is_screen : PySem.W.keepIn K (.ref f_L_is_screen) = true)
    {f_L_is_clause : Addr} {od_L_is_clause an_L_is_clause : Option Addr} {sl_L_is_clause : Array (Option Value)} {oc_L_is_clause kV_L_is_clause dc_L_is_clause pm_L_is_clause cd_L_is_clause ct_L_is_clause : Value} (a_L_is_clause : PySem.W.nsIn K mainGlobals "_law_is_clause" = some (some (.ref f_L_is_clause)))
    (l_L_is_clause : K.lookup f_L_is_clause = some ⟨oc_L_is_clause, od_L_is_clause, .func (PySem.W.fnOf "_law_is_clause" "_law_is_clause" (defArgs st_L_is_clause) (defBody st_L_is_clause) (defScope st_L_is_clause) .none kV_L_is_clause dc_L_is_clause pm_L_is_clause an_L_is_clause cd_L_is_clause ct_L_is_clause), sl_L_is_clause⟩) (q_L_is_clause : PySem.W.codeIn K cd_L_is_clause "_law_is_clause" = true) (k_L_is_clause : PySem.W.keepIn K (.ref f_L_is_clause) = true)
    {f_L_is_rule : Addr} {od_L_is_rule an_L_is_rule : Option Addr} {sl_L_is_rule : Array (Option Value)} {oc_L_is_rule kV_L_is_rule dc_L_is_rule pm_L_is_rule cd_L_is_rule ct_L_is_rule : Value} (a_L_is_rule : PySem.W.nsIn K mainGlobals "_law_is_rule" = some (some (.ref f_L_is_rule)))
    (l_L_is_rule : K.lookup f_L_is_rule = some ⟨oc_L_is_rule, od_L_is_rule, .func (PySem.W.fnOf "_law_is_rule" "_law_is_rule" (defArgs st_L_is_rule) (defBody st_L_is_rule) (defScope st_L_is_rule) .none kV_L_is_rule dc_L_is_rule pm_L_is_rule an_L_is_rule cd_L_is_rule ct_L_is_rule), sl_L_is_rule⟩) (q_L_is_rule : PySem.W.codeIn K cd_L_is_rule "_law_is_rule" = true) (k_L_is_rule : PySem.W.keepIn K (.ref f_L_is_rule) = true)
    {f_L_odd_k01 : Addr} {od_L_odd_k01 an_L_odd_k01 : Option Addr} {sl_L_odd_k01 : Array (Option Value)} {oc_L_odd_k01 kV_L_odd_k01 dc_L_odd_k01 pm_L_odd_k01 cd_L_odd_k01 ct_L_odd_k01 : Value} (a_L_odd_k01 : PySem.W.nsIn K mainGlobals "_law_odd" = some (some (.ref f_L_odd_k01)))
    (l_L_odd_k01 : K.lookup f_L_odd_k01 = some ⟨oc_L_odd_k01, od_L_odd_k01, .func (PySem.W.fnOf "_law_odd" "_law_odd" (defArgs st_L_odd_k01) (defBody st_L_odd_k01) (defScope st_L_odd_k01) .none kV_L_odd_k01 dc_L_odd_k01 pm_L_odd_k01 an_L_odd_k01 cd_L_odd_k01 ct_L_odd_k01), sl_L_odd_k01⟩) (q_L_odd_k01 : PySem.W.codeIn K cd_L_odd_k01 "_law_odd" = true) (k_L_odd_k01 : PySem.W.keepIn K (.ref f_L_odd_k01) = true)
    {f_L_bags : Addr} {od_L_bags an_L_bags : Option Addr} {sl_L_bags : Array (Option Value)} {oc_L_bags kV_L_bags dc_L_bags pm_L_bags cd_L_bags ct_L_bags : Value} (a_L_bags : PySem.W.nsIn K mainGlobals "_law_bags" = some (some (.ref f_L_bags)))
    (l_L_bags : K.lookup f_L_bags = some ⟨oc_L_bags, od_L_bags, .func (PySem.W.fnOf "_law_bags" "_law_bags" (defArgs st_L_bags) (defBody st_L_bags) (defScope st_L_bags) .none kV_L_bags dc_L_bags pm_L_bags an_L_bags cd_L_bags ct_L_bags), sl_L_bags⟩) (q_L_bags : PySem.W.codeIn K cd_L_bags "_law_bags" = true) (k_L_bags : PySem.W.keepIn K (.ref f_L_bags) = true)
    {f_law : Addr} {od_law an_law : Option Addr} {sl_law : Array (Option Value)} {oc_law kV_law dc_law pm_law cd_law ct_law : Value} (a_law : PySem.W.nsIn K mainGlobals "law" = some (some (.ref f_law)))
    (l_law : K.lookup f_law = some ⟨oc_law, od_law, .func (PySem.W.fnOf "law" "law" (defArgs st_law) (defBody st_law) (defScope st_law) .none kV_law dc_law pm_law an_law cd_law ct_law), sl_law⟩) (q_law : PySem.W.codeIn K cd_law "law" = true) (k_law : PySem.W.keepIn K (.ref f_law) = true)
    (z_len : PySem.W.nsIn K mainGlobals "len" = some none)
    (z_list : PySem.W.nsIn K mainGlobals "list" = some none)
    (z_tuple : PySem.W.nsIn K mainGlobals "tuple" = some none)
    (z_int : PySem.W.nsIn K mainGlobals "int" = some none)
    (z_all : PySem.W.nsIn K mainGlobals "all" = some none)
    (z_bool : PySem.W.nsIn K mainGlobals "bool" = some none)
    (z_isinstance : PySem.W.nsIn K mainGlobals "isinstance" = some none)
    (z_str : PySem.W.nsIn K mainGlobals "str" = some none)
    (z_range : PySem.W.nsIn K mainGlobals "range" = some none)
    (z_enumerate : PySem.W.nsIn K mainGlobals "enumerate" = some none)
    (z_zip : PySem.W.nsIn K mainGlobals "zip" = some none)
    {u_0 : Value} (g_0 : PySem.W.nsIn K mainGlobals "TESTS" = some (some u_0)) (r_0 : KRep K (.tuple [(.str "put"), (.str "size"), (.str "take"), (.str "above"), (.str "below"), (.str "within"), (.str "begin"), (.str "end"), (.str "short"), (.str "cut"), (.str "held")]) u_0)
    {u_1 : Value} (g_1 : PySem.W.nsIn K mainGlobals "DEEDS" = some (some u_1)) (r_1 : KRep K (.tuple [(.str "begin"), (.str "end"), (.str "first"), (.str "held"), (.str "last"), (.str "stay")]) u_1)
    {u_2 : Value} (g_2 : PySem.W.nsIn K mainGlobals "READER" = some (some u_2)) (r_2 : KRep K (.tuple [(.tuple [(.tuple [(.str "above")]), (.str "first")])]) u_2)
    {u_3 : Value} (g_3 : PySem.W.nsIn K mainGlobals "TALK" = some (some u_3)) (r_3 : KRep K (.tuple [(.tuple [(.tuple [(.str "end"), (.str "no short")]), (.str "end")]), (.tuple [(.tuple [(.str "held")]), (.str "held")]), (.tuple [(.tuple []), (.str "first")])]) u_3)
    {u_4 : Value} (g_4 : PySem.W.nsIn K mainGlobals "MOST_CLAUSES" = some (some u_4)) (r_4 : KRep K (.int 8) u_4)
    : ∃ fd : FuncData, (∀ (s : Shared) (v : Value), BindsTo s fd ⟨[v], []⟩ [("script", v)]) ∧ ∀ base : Heap, K.In base → base.Ns mainGlobals mg → FnOk P w K mg base CX0 (nDep + 2) fa fd ["script"] (spLaw K) := by
  have e := hfa.symm.trans (PySem.W.mg_of X G a_law)
  cases e
  have H_is_within := mkF (t := tb) (fns := fnsT) (cns := cnsT) (bs := bsT) (f := i_is_within) (bor := false) (mu := mu_is_within) X G a_is_within l_is_within q_is_within k_is_within rfl s_is_within c_is_within (fun _ _ _ _ _ _ us hl => match us, hl with | [_, _, _], _ => rfl) (by decide +kernel)
  have H_power := mkF (t := tb) (fns := fnsT) (cns := cnsT) (bs := bsT) (f := i_power) (bor := false) (mu := mu_power) X G a_power l_power q_power k_power rfl s_power c_power (fun _ _ _ _ _ _ us hl => match us, hl with | [_, _], _ => rfl) (by decide +kernel)
  have H_is_screen := mkF (t := tb) (fns := fnsT) (cns := cnsT) (bs := bsT) (f := i_is_screen) (bor := false) (mu := mu_is_screen) X G a_is_screen l_is_screen q_is_screen k_is_screen rfl s_is_screen c_is_screen (fun _ _ _ _ _ _ us hl => match us, hl with | [_], _ => rfl) (by decide +kernel)
  have H_is_one_of := mkF (t := tb) (fns := fnsT) (cns := cnsT) (bs := bsT) (f := i_is_one_of) (bor := false) (mu := mu_is_one_of) X G a_is_one_of l_is_one_of q_is_one_of k_is_one_of rfl s_is_one_of c_is_one_of (fun _ _ _ _ _ _ us hl => match us, hl with | [_, _], _ => rfl) (by decide +kernel)
  have H_is_test := mkF (t := tb) (fns := fnsT) (cns := cnsT) (bs := bsT) (f := i_is_test) (bor := false) (mu := mu_is_test) X G a_is_test l_is_test q_is_test k_is_test rfl s_is_test c_is_test (fun _ _ _ _ _ _ us hl => match us, hl with | [_], _ => rfl) (by decide +kernel)
  have H_is_clause := mkF (t := tb) (fns := fnsT) (cns := cnsT) (bs := bsT) (f := i_is_clause) (bor := false) (mu := mu_is_clause) X G a_is_clause l_is_clause q_is_clause k_is_clause rfl s_is_clause c_is_clause (fun _ _ _ _ _ _ us hl => match us, hl with | [_], _ => rfl) (by decide +kernel)
  have H_is_rule := mkF (t := tb) (fns := fnsT) (cns := cnsT) (bs := bsT) (f := i_is_rule) (bor := false) (mu := mu_is_rule) X G a_is_rule l_is_rule q_is_rule k_is_rule rfl s_is_rule c_is_rule (fun _ _ _ _ _ _ us hl => match us, hl with | [_], _ => rfl) (by decide +kernel)
  have H_L_well := mkF (t := tb) (fns := fnsT) (cns := cnsT) (bs := bsT) (f := i_L_well) (bor := false) (mu := mu_L_well) X G a_L_well l_L_well q_L_well k_L_well rfl s_L_well c_L_well (fun _ _ _ _ _ _ us hl => match us, hl with | [_, _], _ => rfl) (by decide +kernel)
  have H_L_take := mkF (t := tb) (fns := fnsT) (cns := cnsT) (bs := bsT) (f := i_L_take) (bor := true) (mu := mu_L_take) X G a_L_take l_L_take q_L_take k_L_take rfl s_L_take c_L_take (fun _ _ _ _ _ _ us hl => match us, hl with | [_, _], _ => rfl) (by decide +kernel)
  have H_L_same := mkF (t := tb) (fns := fnsT) (cns := cnsT) (bs := bsT) (f := i_L_same) (bor := false) (mu := mu_L_same) X G a_L_same l_L_same q_L_same k_L_same rfl s_L_same c_L_same (fun _ _ _ _ _ _ us hl => match us, hl with | [_, _], _ => rfl) (by decide +kernel)
  have H_L_tests := mkF (t := tb) (fns := fnsT) (cns := cnsT) (bs := bsT) (f := i_L_tests) (bor := false) (mu := mu_L_tests) X G a_L_tests l_L_tests q_L_tests k_L_tests rfl s_L_tests c_L_tests (fun _ _ _ _ _ _ us hl => match us, hl with | [], _ => rfl) (by decide +kernel)
  have H_L_deeds := mkF (t := tb) (fns := fnsT) (cns := cnsT) (bs := bsT) (f := i_L_deeds) (bor := false) (mu := mu_L_deeds) X G a_L_deeds l_L_deeds q_L_deeds k_L_deeds rfl s_L_deeds c_L_deeds (fun _ _ _ _ _ _ us hl => match us, hl with | [], _ => rfl) (by decide +kernel)
  have H_L_test := mkF (t := tb) (fns := fnsT) (cns := cnsT) (bs := bsT) (f := i_L_test) (bor := true) (mu := mu_L_test) X G a_L_test l_L_test q_L_test k_L_test rfl s_L_test c_L_test (fun _ _ _ _ _ _ us hl => match us, hl with | [_], _ => rfl) (by decide +kernel)
  have H_L_clause := mkF (t := tb) (fns := fnsT) (cns := cnsT) (bs := bsT) (f := i_L_clause) (bor := true) (mu := mu_L_clause) X G a_L_clause l_L_clause q_L_clause k_L_clause rfl s_L_clause c_L_clause (fun _ _ _ _ _ _ us hl => match us, hl with | [_], _ => rfl) (by decide +kernel)
  have H_L_known := mkF (t := tb) (fns := fnsT) (cns := cnsT) (bs := bsT) (f := i_L_known) (bor := true) (mu := mu_L_known) X G a_L_known l_L_known q_L_known k_L_known rfl s_L_known c_L_known (fun _ _ _ _ _ _ us hl => match us, hl with | [_], _ => rfl) (by decide +kernel)
  have H_L_rule := mkF (t := tb) (fns := fnsT) (cns := cnsT) (bs := bsT) (f := i_L_rule) (bor := true) (mu := mu_L_rule) X G a_L_rule l_L_rule q_L_rule k_L_rule rfl s_L_rule c_L_rule (fun _ _ _ _ _ _ us hl => match us, hl with | [_, _], _ => rfl) (by decide +kernel)
  have H_L_screen := mkF (t := tb) (fns := fnsT) (cns := cnsT) (bs := bsT) (f := i_L_screen) (bor := true) (mu := mu_L_screen) X G a_L_screen l_L_screen q_L_screen k_L_screen rfl s_L_screen c_L_screen (fun _ _ _ _ _ _ us hl => match us, hl with | [_, _], _ => rfl) (by decide +kernel)
  have H_L_whole := mkF (t := tb) (fns := fnsT) (cns := cnsT) (bs := bsT) (f := i_L_whole) (bor := false) (mu := mu_L_whole) X G a_L_whole l_L_whole q_L_whole k_L_whole rfl s_L_whole c_L_whole (fun _ _ _ _ _ _ us hl => match us, hl with | [_, _, _], _ => rfl) (by decide +kernel)
  have H_L_is_screen := mkF (t := tb) (fns := fnsT) (cns := cnsT) (bs := bsT) (f := i_L_is_screen) (bor := false) (mu := mu_L_is_screen) X G a_L_is_screen l_L_is_screen q_L_is_screen k_L_is_screen rfl s_L_is_screen c_L_is_screen (fun _ _ _ _ _ _ us hl => match us, hl with | [_], _ => rfl) (by decide +kernel)
  have H_L_is_clause := mkF (t := tb) (fns := fnsT) (cns := cnsT) (bs := bsT) (f := i_L_is_clause) (bor := false) (mu := mu_L_is_clause) X G a_L_is_clause l_L_is_clause q_L_is_clause k_L_is_clause rfl s_L_is_clause c_L_is_clause (fun _ _ _ _ _ _ us hl => match us, hl with | [_], _ => rfl) (by decide +kernel)
  have H_L_is_rule := mkF (t := tb) (fns := fnsT) (cns := cnsT) (bs := bsT) (f := i_L_is_rule) (bor := false) (mu := mu_L_is_rule) X G a_L_is_rule l_L_is_rule q_L_is_rule k_L_is_rule rfl s_L_is_rule c_L_is_rule (fun _ _ _ _ _ _ us hl => match us, hl with | [_], _ => rfl) (by decide +kernel)
  have H_L_odd_k01 := mkF (t := tb) (fns := fnsT) (cns := cnsT) (bs := bsT) (f := i_L_odd_k01) (bor := true) (mu := mu_L_odd_k01) X G a_L_odd_k01 l_L_odd_k01 q_L_odd_k01 k_L_odd_k01 rfl s_L_odd_k01 c_L_odd_k01 (fun _ _ _ _ _ _ us hl => match us, hl with | [_, _], _ => rfl) (by decide +kernel)
  have AF : AllF K mg tb fnsT cnsT bsT fnsT := .cons H_is_within (.cons H_power (.cons H_is_screen (.cons H_is_one_of (.cons H_is_test (.cons H_is_clause (.cons H_is_rule (.cons H_L_well (.cons H_L_take (.cons H_L_same (.cons H_L_tests (.cons H_L_deeds (.cons H_L_test (.cons H_L_clause (.cons H_L_known (.cons H_L_rule (.cons H_L_screen (.cons H_L_whole (.cons H_L_is_screen (.cons H_L_is_clause (.cons H_L_is_rule (.cons H_L_odd_k01 (.nil))))))))))))))))))))))
  have AC : AllC K mg tb.cd cnsT := .cons (PySem.W.mg_of X G g_0) r_0 (.cons (PySem.W.mg_of X G g_1) r_1 (.cons (PySem.W.mg_of X G g_2) r_2 (.cons (PySem.W.mg_of X G g_3) r_3 (.cons (PySem.W.mg_of X G g_4) r_4 (.nil)))))
  have BL : ∀ x ∈ bsT, mg x = none := by
    intro x hx
    simp only [bsT, List.mem_cons, List.not_mem_nil, or_false] at hx
    rcases hx with rfl | rfl | rfl | rfl | rfl | rfl | rfl | rfl | rfl | rfl | rfl
    · exact PySem.W.mg_none_of X G z_len
    · exact PySem.W.mg_none_of X G z_list
    · exact PySem.W.mg_none_of X G z_tuple
    · exact PySem.W.mg_none_of X G z_int
    · exact PySem.W.mg_none_of X G z_all
    · exact PySem.W.mg_none_of X G z_bool
    · exact PySem.W.mg_none_of X G z_isinstance
    · exact PySem.W.mg_none_of X G z_str
    · exact PySem.W.mg_none_of X G z_range
    · exact PySem.W.mg_none_of X G z_enumerate
    · exact PySem.W.mg_none_of X G z_zip
  have A : PrHyp K mg tb fnsT cnsT bsT w := ⟨AF.get, AC.get, BL⟩
  have FB := fun_mk (st := st_L_bags) l_L_bags q_L_bags k_L_bags
  have FL := fun_mk (st := st_law) l_law q_law k_law
  refine ⟨_, fun s v => .of_eq rfl, fun base _ _ => ok_law (bags := bagsOf wellF) A (by decide) (by decide) FL law_text (ok_bags A (wid := 7) well_ok FB bags_text) (FB.binds fun _ _ _ _ _ _ us hl => match us, hl with | [_, _], _ => rfl) (PySem.W.mg_of X G a_L_bags) FB.kp body_ok rest_ok⟩
end Mi
open PySem PySem.W PyProof.Rows
set_option maxHeartbeats 0 in
theorem PySem.Challenge.cw_stillrows_k01_screens_and_rules_recogniz_holds : PySem.Challenge.rw_stillrows_k01_screens_and_rules_recogniz.Holds := by
  w_on; o_law; k_head; (case hw => w_witness2)
  k_fill
  refine L2.walk_of (l := PySem.Challenge.rw_stillrows_k01_screens_and_rules_recogniz) (n := 63) (k := Mi.nDep + 2) (x := "script") (CX := fun _ => L2.CX0) (sp := fun w => Mi.spLaw _) rfl (by decide) rfl ⟨rfl, by decide, by decide⟩ (fun w h Y => PySem.W.kIn_of Y) ?F (fun _ _ a ns hl _ hS => ⟨a, ns, rfl, hS, hl, fun _ => rfl⟩) (fun _ _ _ _ _ h => h)
  case F =>
    intro w mg fa h KX G hmg
    refine' Mi.all_mk KX G hmg ?a_is_within ?l_is_within ?q_is_within ?k_is_within ?a_power ?l_power ?q_power ?k_power ?a_is_screen ?l_is_screen ?q_is_screen ?k_is_screen ?a_is_one_of ?l_is_one_of ?q_is_one_of ?k_is_one_of ?a_is_test ?l_is_test ?q_is_test ?k_is_test ?a_is_clause ?l_is_clause ?q_is_clause ?k_is_clause ?a_is_rule ?l_is_rule ?q_is_rule ?k_is_rule ?a_L_well ?l_L_well ?q_L_well ?k_L_well ?a_L_take ?l_L_take ?q_L_take ?k_L_take ?a_L_same ?l_L_same ?q_L_same ?k_L_same ?a_L_tests ?l_L_tests ?q_L_tests ?k_L_tests ?a_L_deeds ?l_L_deeds ?q_L_deeds ?k_L_deeds ?a_L_test ?l_L_test ?q_L_test ?k_L_test ?a_L_clause ?l_L_clause ?q_L_clause ?k_L_clause ?a_L_known ?l_L_known ?q_L_known ?k_L_known ?a_L_rule ?l_L_rule ?q_L_rule ?k_L_rule ?a_L_screen ?l_L_screen ?q_L_screen ?k_L_screen ?a_L_whole ?l_L_whole ?q_L_whole ?k_L_whole ?a_L_is_screen ?l_L_is_screen ?q_L_is_screen ?k_L_is_screen ?a_L_is_clause ?l_L_is_clause ?q_L_is_clause ?k_L_is_clause ?a_L_is_rule ?l_L_is_rule ?q_L_is_rule ?k_L_is_rule ?a_L_odd_k01 ?l_L_odd_k01 ?q_L_odd_k01 ?k_L_odd_k01 ?a_L_bags ?l_L_bags ?q_L_bags ?k_L_bags ?a_law ?l_law ?q_law ?k_law ?z_len ?z_list ?z_tuple ?z_int ?z_all ?z_bool ?z_isinstance ?z_str ?z_range ?z_enumerate ?z_zip ?g_0 ?r_0 ?g_1 ?r_1 ?g_2 ?r_2 ?g_3 ?r_3 ?g_4 ?r_4
    (case a_is_within => k_is)
    (case l_is_within => k_is)
    (case q_is_within => k_is)
    (case k_is_within => k_is)
    (case a_power => k_is)
    (case l_power => k_is)
    (case q_power => k_is)
    (case k_power => k_is)
    (case a_is_screen => k_is)
    (case l_is_screen => k_is)
    (case q_is_screen => k_is)
    (case k_is_screen => k_is)
    (case a_is_one_of => k_is)
    (case l_is_one_of => k_is)
    (case q_is_one_of => k_is)
    (case k_is_one_of => k_is)
    (case a_is_test => k_is)
    (case l_is_test => k_is)
    (case q_is_test => k_is)
    (case k_is_test => k_is)
    (case a_is_clause => k_is)
    (case l_is_clause => k_is)
    (case q_is_clause => k_is)
    (case k_is_clause => k_is)
    (case a_is_rule => k_is)
    (case l_is_rule => k_is)
    (case q_is_rule => k_is)
    (case k_is_rule => k_is)
    (case a_L_well => k_is)
    (case l_L_well => k_is)
    (case q_L_well => k_is)
    (case k_L_well => k_is)
    (case a_L_take => k_is)
    (case l_L_take => k_is)
    (case q_L_take => k_is)
    (case k_L_take => k_is)
    (case a_L_same => k_is)
    (case l_L_same => k_is)
    (case q_L_same => k_is)
    (case k_L_same => k_is)
    (case a_L_tests => k_is)
    (case l_L_tests => k_is)
    (case q_L_tests => k_is)
    (case k_L_tests => k_is)
    (case a_L_deeds => k_is)
    (case l_L_deeds => k_is)
    (case q_L_deeds => k_is)
    (case k_L_deeds => k_is)
    (case a_L_test => k_is)
    (case l_L_test => k_is)
    (case q_L_test => k_is)
    (case k_L_test => k_is)
    (case a_L_clause => k_is)
    (case l_L_clause => k_is)
    (case q_L_clause => k_is)
    (case k_L_clause => k_is)
    (case a_L_known => k_is)
    (case l_L_known => k_is)
    (case q_L_known => k_is)
    (case k_L_known => k_is)
    (case a_L_rule => k_is)
    (case l_L_rule => k_is)
    (case q_L_rule => k_is)
    (case k_L_rule => k_is)
    (case a_L_screen => k_is)
    (case l_L_screen => k_is)
    (case q_L_screen => k_is)
    (case k_L_screen => k_is)
    (case a_L_whole => k_is)
    (case l_L_whole => k_is)
    (case q_L_whole => k_is)
    (case k_L_whole => k_is)
    (case a_L_is_screen => k_is)
    (case l_L_is_screen => k_is)
    (case q_L_is_screen => k_is)
    (case k_L_is_screen => k_is)
    (case a_L_is_clause => k_is)
    (case l_L_is_clause => k_is)
    (case q_L_is_clause => k_is)
    (case k_L_is_clause => k_is)
    (case a_L_is_rule => k_is)
    (case l_L_is_rule => k_is)
    (case q_L_is_rule => k_is)
    (case k_L_is_rule => k_is)
    (case a_L_odd_k01 => k_is)
    (case l_L_odd_k01 => k_is)
    (case q_L_odd_k01 => k_is)
    (case k_L_odd_k01 => k_is)
    (case a_L_bags => k_is)
    (case l_L_bags => k_is)
    (case q_L_bags => k_is)
    (case k_L_bags => k_is)
    (case a_law => k_is)
    (case l_law => k_is)
    (case q_law => k_is)
    (case k_law => k_is)
    (case z_len => k_is)
    (case z_list => k_is)
    (case z_tuple => k_is)
    (case z_int => k_is)
    (case z_all => k_is)
    (case z_bool => k_is)
    (case z_isinstance => k_is)
    (case z_str => k_is)
    (case z_range => k_is)
    (case z_enumerate => k_is)
    (case z_zip => k_is)
    (case g_0 => k_is)
    (case r_0 => refine' Mi.KRep.strs' ["put", "size", "take", "above", "below", "within", "begin", "end", "short", "cut", "held"] ?l1 ?x1 ?y1; (case l1 => k_is); (case x1 => rfl); (case y1 => decide))
    (case g_1 => k_is)
    (case r_1 => refine' Mi.KRep.strs' ["begin", "end", "first", "held", "last", "stay"] ?l2 ?x2 ?y2; (case l2 => k_is); (case x2 => rfl); (case y2 => decide))
    (case g_2 => k_is)
    (case r_2 => refine' Mi.KRep.one ?l3 ?m3_0; (case l3 => k_is); (case m3_0 => refine' Mi.KRep.two ?l4 ?m4_0 ?m4_1; (case l4 => k_is); (case m4_0 => refine' Mi.KRep.one ?l5 ?m5_0; (case l5 => k_is); (case m5_0 => exact Mi.KRep.str _ _)); (case m4_1 => exact Mi.KRep.str _ _)))
    (case g_3 => k_is)
    (case r_3 => refine' Mi.KRep.three ?l6 ?m6_0 ?m6_1 ?m6_2; (case l6 => k_is); (case m6_0 => refine' Mi.KRep.two ?l7 ?m7_0 ?m7_1; (case l7 => k_is); (case m7_0 => refine' Mi.KRep.two ?l8 ?m8_0 ?m8_1; (case l8 => k_is); (case m8_0 => exact Mi.KRep.str _ _); (case m8_1 => exact Mi.KRep.str _ _)); (case m7_1 => exact Mi.KRep.str _ _)); (case m6_1 => refine' Mi.KRep.two ?l9 ?m9_0 ?m9_1; (case l9 => k_is); (case m9_0 => refine' Mi.KRep.one ?l10 ?m10_0; (case l10 => k_is); (case m10_0 => exact Mi.KRep.str _ _)); (case m9_1 => exact Mi.KRep.str _ _)); (case m6_2 => refine' Mi.KRep.two ?l11 ?m11_0 ?m11_1; (case l11 => k_is); (case m11_0 => refine' Mi.KRep.nil ?l12 ; (case l12 => k_is)); (case m11_1 => exact Mi.KRep.str _ _)))
    (case g_4 => k_is)
    (case r_4 => exact Mi.KRep.int _ _)
end
