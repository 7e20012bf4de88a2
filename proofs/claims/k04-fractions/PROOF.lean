import PyProof.Rows.All
import Wide.All
import OpenK.AllK
import Wide.FinOn
import KE.KStateDown
import KE.SortData
import HandS.ForMost
import HandS.Exc
import HandS.ExcOwn
import HandS.TryMany
import HandS.TryOnly
import HandS.IsInst
import HandS.Wide
import HandS.Style
import HandS.TupMul
import HandS.TupAny
import HandS.Deep
import HandS.Zip
import HandS.Flow
import HandS.Conv
import HandS.CallLocal
import HandS.HeadEnd
import HandS.Head2
import HandS.HeadHook2
import HandS.Walk
import HandS.WordsExc
import HandS.Defaults
import PyProof.EqLayable
import KE.LtData
import KE.GoesRaise
import HandS.ExcIs
import PySem.Challenge.RW_partedpairs_k04_whole_fractions_by_own_s
set_option Elab.async false
section
set_option autoImplicit false
set_option linter.all false
/-! A small evaluator of its own over plain data: values, code, what code gives. -/
namespace PV
open PySem

inductive Ty where
  | int | bool | str | list | tuple | dict | verr | lerr
  deriving DecidableEq
def Ty.nm : Ty → String
  | .int => "int" | .bool => "bool" | .str => "str" | .list => "list" | .tuple => "tuple" | .dict => "dict" | .verr => "ValueError" | .lerr => "LookupError"

/-- plain values; own n: the n-th list or dict that may still change -/
inductive D where
  | non | bl (b : Bool) | int (i : Int) | str (x : Str)
  | tup (xs : List D) | lst (xs : List D) | dic (kvs : List (D × D))
  | fn (k : Nat) | ty (t : Ty) | own (n : Nat)
  | scr (xs : List D)

mutual
def D.py : D → Option PyData
  | .non => some .none
  | .bl b => some (.bool b)
  | .int i => some (.int i)
  | .str x => some (.str x)
  | .tup xs => match D.pys xs with | some ys => some (.tuple ys) | none => none
  | .lst xs => match D.pys xs with | some ys => some (.list ys) | none => none
  | .dic _ => none
  | .fn _ => none
  | .ty _ => none
  | .own _ => none
  | .scr _ => none
def D.pys : List D → Option (List PyData)
  | [] => some []
  | x :: xs => match D.py x with
    | some a => (match D.pys xs with | some as => some (a :: as) | none => none)
    | none => none
end

structure Cell where
  mu : Bool
  d : D
abbrev Cells := List Cell
/-- an exception: its class, what it was made of -/
structure Exc where
  k : Nat
  xs : List D

inductive R (α : Type) where
  | ok (a : α) (c : Cells)
  | exc (x : Exc) (c : Cells)
  | stuck
def R.bind {α β : Type} (m : R α) (f : α → Cells → R β) : R β := match m with
  | .ok a c => f a c
  | .exc x c => .exc x c
  | .stuck => .stuck
def R.opt {α : Type} (o : Option α) (c : Cells) : R α := match o with
  | some a => .ok a c
  | none => .stuck

abbrev Env := List (Option D)
inductive RS where
  | next (env : Env) (c : Cells)
  | ret (d : D) (c : Cells)
  | brk (env : Env) (c : Cells)
  | cont (env : Env) (c : Cells)
  | exc (x : Exc) (env : Env) (c : Cells)
  | stuck

def view (cs : Cells) : D → D
  | .own n => (match cs[n]? with | some c => c.d | none => .own n)
  | d => d
/-- what goes into other data changes no more -/
def fz (d : D) (cs : Cells) : D × Cells := match d with
  | .own n => (match cs[n]? with
    | some c => (c.d, cs.set n ⟨false, c.d⟩)
    | none => (.own n, cs))
  | d => (d, cs)
def fzs : List D → Cells → List D × Cells
  | [], cs => ([], cs)
  | d :: ds, cs =>
    let p := fz d cs
    let q := fzs ds p.2
    (p.1 :: q.1, q.2)

/-- how long a list, a tuple, a text may grow here -/
def big : Nat := 100000

inductive Bop where | add | sub | mul | fdiv | mod | pow
  deriving DecidableEq
inductive Cop where | eq | ne | lt | le | gt | ge | isin | notin
  deriving DecidableEq
def b2n (b : Bool) : Int := if b then 1 else 0

def mulOk (a b : Int) : Bool := decide (a.natAbs < 2 ^ 64) || decide (b.natAbs < 2 ^ 64) || decide (a.natAbs.log2 + b.natAbs.log2 < 1000000)
def divOk (b : Int) : Bool := decide (b.natAbs < 2 ^ 64) || decide (b.natAbs.log2 < 9000)
def binD (o : Bop) (x y : D) : Option D := match o, x, y with
  | .add, .int a, .int b => some (.int (a + b))
  | .add, .lst a, .lst b => if a.length + b.length ≤ big then some (.lst (a ++ b)) else none
  | .add, .tup a, .tup b => if a.length + b.length ≤ big then some (.tup (a ++ b)) else none
  | .sub, .int a, .int b => some (.int (a - b))
  | .sub, .bl a, .bl b => some (.int (b2n a - b2n b))
  | .mul, .int a, .int b => if mulOk a b then some (.int (a * b)) else none
  | .mul, .lst a, .int k => if a.length ≤ 1000 ∧ 0 ≤ k ∧ k ≤ 100 then some (.lst (List.replicate k.toNat a).flatten) else none
  | .mul, .tup a, .int k => if a.length ≤ 1000 ∧ a ≠ [] ∧ 2 ≤ k ∧ k ≤ 100 then some (.tup (List.replicate k.toNat a).flatten) else none
  | .fdiv, .int a, .int b => if 0 < b then (if divOk b then some (.int (a / b)) else none) else if b < 0 then (if divOk b then some (.int (a.fdiv b)) else none) else none
  | .mod, .int a, .int b => if 0 < b then some (.int (a % b)) else if b < 0 then some (.int (a.fmod b)) else none
  | .pow, .int a, .int b => if 0 ≤ b ∧ b ≤ 1000 ∧ a.natAbs < 2 ^ 64 then some (.int (a ^ b.toNat)) else none
  | _, _, _ => none

def eqD (x y : D) : Option Bool := match x, y with
  | .int a, .int b => some (a == b)
  | x, y => match x.py, y.py with
    | some a, some b => if SeqAt.shaped a && SeqAt.shaped b then some (PyData.eqv a b) else none
    | _, _ => none
def ltD (x y : D) : Option Bool := match x, y with
  | .int a, .int b => some (decide (a < b))
  | _, _ => none
def anyEq (d : PyData) : List PyData → Bool
  | [] => false
  | z :: zs => PyData.eqv z d || anyEq d zs
def isInD (x y : D) : Option Bool := match y with
  | .lst ys => (match x.py, D.pys ys with
    | some d, some es => if SeqAt.shaped d && SeqAt.shaped (.list es) then some (anyEq d es) else none
    | _, _ => none)
  | .tup ys => (match x.py, D.pys ys with
    | some d, some es => if SeqAt.shaped d && SeqAt.shaped (.list es) then some (anyEq d es) else none
    | _, _ => none)
  | _ => none
def cmpD (o : Cop) (x y : D) : Option Bool := match o with
  | .eq => eqD x y
  | .ne => (eqD x y).map (!·)
  | .lt => ltD x y
  | .gt => ltD y x
  | .le => (match x, y with | .int a, .int b => some (decide (a ≤ b)) | _, _ => none)
  | .ge => (match x, y with | .int a, .int b => some (decide (b ≤ a)) | _, _ => none)
  | .isin => isInD x y
  | .notin => (isInD x y).map (!·)
def truD : D → Option Bool
  | .non => some false
  | .bl b => some b
  | .int i => some (i != 0)
  | .str x => if x.cps.size ≤ big then some (x.cps.size != 0) else none
  | .tup xs => some (!xs.isEmpty)
  | .lst xs => some (!xs.isEmpty)
  | .scr xs => some (!xs.isEmpty)
  | _ => none

def ixN (n : Nat) (i : Int) : Option Nat := if 0 ≤ i then (if i < n then some i.toNat else none) else if -(n : Int) ≤ i then some (i + n).toNat else none
def at' {α : Type} (xs : List α) (i : Int) : Option α := match ixN xs.length i with
  | some j => xs[j]?
  | none => none
def idxD (x i : D) : Option D := match x, i with
  | .lst xs, .int j => at' xs j
  | .tup xs, .int j => at' xs j
  | .scr xs, .int j => at' xs j
  | _, _ => none
def sIx (n d : Nat) : Option Int → Nat
  | none => d
  | some v => if v < 0 then (v + (n : Int)).toNat else min v.toNat n
def cut {α : Type} (xs : List α) (lo hi : Option Int) : List α := (xs.drop (sIx xs.length 0 lo)).take (sIx xs.length xs.length hi - sIx xs.length 0 lo)
def partD (there : Bool) (d : D) : Option (Option Int) := match there, d with
  | false, _ => some none
  | true, .int i => some (some i)
  | _, _ => none
def cutD (x : D) (lo hi : Option Int) : Option D := match x with
  | .lst xs => some (.lst (cut xs lo hi))
  | .tup xs => some (.tup (cut xs lo hi))
  | .scr xs => some (.lst (cut xs lo hi))
  | _ => none

/-- built-ins by value -/
inductive Bi where
  | len | abs | int | list | tuple | max2 | min2 | all | any | sum | max1 | min1
  deriving DecidableEq
def allBl : List D → Option Bool
  | [] => some true
  | .bl b :: r => (match allBl r with | some c => some (b && c) | none => none)
  | _ :: _ => none
def anyBl : List D → Option Bool
  | [] => some false
  | .bl b :: r => (match anyBl r with | some c => some (b || c) | none => none)
  | _ :: _ => none
def intsD : List D → Option (List Int)
  | [] => some []
  | .int i :: r => (match intsD r with | some is => some (i :: is) | none => none)
  | _ :: _ => none
def maxI : Int → List Int → Int
  | m, [] => m
  | m, x :: xs => maxI (if m < x then x else m) xs
def minI : Int → List Int → Int
  | m, [] => m
  | m, x :: xs => minI (if x < m then x else m) xs
def sumI : List Int → Int
  | [] => 0
  | x :: xs => x + sumI xs
def biD (b : Bi) (as : List D) : Option D := match b, as with
  | .len, [.lst xs] => some (.int xs.length)
  | .len, [.tup xs] => some (.int xs.length)
  | .len, [.scr xs] => some (.int xs.length)
  | .len, [.str x] => if x.cps.size ≤ big then some (.int x.cps.size) else none
  | .abs, [.int i] => some (.int (if i < 0 then -i else i))
  | .int, [.int i] => some (.int i)
  | .int, [.bl b] => some (.int (b2n b))
  | .list, [.lst xs] => some (.lst xs)
  | .list, [.tup xs] => some (.lst xs)
  | .list, [.scr xs] => some (.lst xs)
  | .tuple, [.lst xs] => some (.tup xs)
  | .tuple, [.tup xs] => some (.tup xs)
  | .max2, [.int a, .int b] => some (.int (if a < b then b else a))
  | .min2, [.int a, .int b] => some (.int (if b < a then b else a))
  | .all, [.lst xs] => (match allBl xs with | some b => some (.bl b) | none => none)
  | .any, [.lst xs] => (match anyBl xs with | some b => some (.bl b) | none => none)
  | .sum, [.lst xs] => (match intsD xs with | some is => some (.int (sumI is)) | none => none)
  | .max1, [.lst xs] => (match intsD xs with | some (i :: is) => some (.int (maxI i is)) | _ => none)
  | .min1, [.lst xs] => (match intsD xs with | some (i :: is) => some (.int (minI i is)) | _ => none)
  | _, _ => none
/-- isinstance -/
def tyD : D → List Ty
  | .bl _ => [.bool, .int]
  | .int _ => [.int]
  | .str _ => [.str]
  | .tup _ => [.tuple]
  | .lst _ => [.list]
  | .scr _ => [.list]
  | .dic _ => [.dict]
  | _ => []
def isiD (x : D) (ts : List Ty) : Option Bool := match x with
  | .own _ => none
  | .ty _ => none
  | .fn _ => none
  | .dic _ => none
  | x => some (ts.any fun t => (tyD x).contains t)

/-- what is walked -/
inductive Ik where | seq | rng | enum | zip | zip3
  deriving DecidableEq
def zip3 {α : Type} (f : α → α → α → α) : List α → List α → List α → List α
  | a :: as, b :: bs, c :: cs => f a b c :: zip3 f as bs cs
  | _, _, _ => []
def seqOf : D → Option (List D)
  | .lst xs => some xs
  | .scr xs => some xs
  | .tup xs => some xs
  | _ => none
def rngs (lo : Int) (step : Int) : Nat → List D
  | 0 => []
  | n + 1 => .int lo :: rngs (lo + step) step n
def rngOk (i : Int) : Bool := decide (-1000000 ≤ i) && decide (i ≤ 1000000)
def enumD : Int → List D → List D
  | _, [] => []
  | i, x :: xs => .tup [.int i, x] :: enumD (i + 1) xs
def itemsOf (k : Ik) (as : List D) : Option (List D) := match k, as with
  | .seq, [x] => seqOf x
  | .rng, [.int n] => if rngOk n then some (rngs 0 1 n.toNat) else none
  | .rng, [.int a, .int b] => if rngOk a && rngOk b then some (rngs a 1 (b - a).toNat) else none
  | .rng, [.int a, .int b, .int c] => if rngOk a && rngOk b && decide (c = -1) then some (rngs a (-1) (a - b).toNat) else none
  | .enum, [x] => (match seqOf x with | some xs => some (enumD 0 xs) | none => none)
  | .zip, [x, y] => (match seqOf x, seqOf y with | some xs, some ys => some (List.zipWith (fun a b => .tup [a, b]) xs ys) | _, _ => none)
  | .zip3, [x, y, z] => (match seqOf x, seqOf y, seqOf z with | some xs, some ys, some zs => some (zip3 (fun a b c => .tup [a, b, c]) xs ys zs) | _, _, _ => none)
  | _, _ => none
def isOwn : D → Bool
  | .own _ => true
  | _ => false
def isTupD : D → Bool
  | .tup _ => true
  | _ => false
/-- which rows go together -/
def kOk (k : Ik) (ds : List D) : Bool := match k with
  | .enum => !ds.any isTupD
  | .zip => ds.all isTupD || !ds.any isTupD
  | _ => true

/-- a target: a name's slot, or a row of targets -/
inductive Tg where
  | nm (i : Nat)
  | tp (ts : List Tg)
mutual
def asg : Tg → D → Env → Option Env
  | .nm i, d, env => if i < env.length then some (env.set i (some d)) else none
  | .tp ts, d, env => (match d with
    | .tup xs => asgs ts xs env
    | _ => none)
def asgs : List Tg → List D → Env → Option Env
  | [], [], env => some env
  | t :: ts, d :: ds, env => (match asg t d env with
    | some env' => asgs ts ds env'
    | none => none)
  | _, _, _ => none
end
def wipe (env : Env) : List Nat → Env
  | [] => env
  | i :: is => (wipe env is).set i none

inductive Me where | append | extend | pop0 | pop1 | index | count
  deriving DecidableEq

inductive E where
  | cst (d : D)
  | var (i : Nat)
  | gint (x : Str) (i : Int)
  | gstr (x : Str) (z : Str)
  | gfn (k : Nat)
  | tup (es : List E) | lst (es : List E)
  | bin (o : Bop) (a b : E) | neg (a : E)
  | not (a : E) | and (es : List E) | or (es : List E)
  | cmp (o : Cop) (a b : E) | chn (o p : Cop) (a b c : E)
  | isn (neg : Bool) (a : E) | isb (neg : Bool) (a : E) (b : Bool)
  | ite (c a b : E)
  | call (k : Nat) (es : List E) | callv (i : Nat) (es : List E)
  | bi (b : Bi) (es : List E) | isi (a : E) (ts : List Ty)
  | rng (tu : Bool) (es : List E)
  | idx (a i : E) | slc (a : E) (bl bh : Bool) (lo hi : E) | rev (a : E)
  | comp (elt : E) (tg : Tg) (own : List Nat) (k : Ik) (es : List E) (ifs : List E)
  | mk (e : E)
  | mth (m : Me) (a : E) (es : List E)

mutual
/-- what gives a new list -/
def isFresh : E → Bool
  | .lst _ => true
  | .bi .list _ => true
  | .rng false _ => true
  | .bin .add _ _ => true
  | .bin .mul _ _ => true
  | .slc .. => true
  | .rev _ => true
  | .or es => areFresh es
  | _ => false
def areFresh : List E → Bool
  | [] => true
  | e :: es => isFresh e && areFresh es
end
/-- a comprehension's turns, over a walked row -/
def compL (f : D → Cells → R Unit) : List D → Cells → R Unit
  | [], cs => .ok () cs
  | d :: ds, cs => (f d cs).bind fun _ cs1 => compL f ds cs1
/-- .. over a list that may still change -/
def compO (items : Cells → Option (List D)) (f : D → Cells → R Unit) : Nat → Nat → Cells → R Unit
  | 0, _, _ => .stuck
  | n + 1, i, cs => match items cs with
    | none => .stuck
    | some ds => match ds[i]? with
      | none => .ok () cs
      | some d => (f d cs).bind fun _ cs1 => compO items f n (i + 1) cs1

/-- methods -/
def setCell (n : Nat) (f : List D → Option (D × List D)) (cs : Cells) : R D := match cs[n]? with
  | some ⟨true, .lst xs⟩ => (match f xs with
    | some (r, ys) => .ok r (cs.set n ⟨true, .lst ys⟩)
    | none => .stuck)
  | _ => .stuck
def idxIn (d : PyData) (i : Nat) : List PyData → Option Nat
  | [] => none
  | z :: zs => if PyData.eqv z d then some i else idxIn d (i + 1) zs
/-- what has the methods of a list -/
def lsD : D → Bool
  | .own _ => true
  | .lst _ => true
  | _ => false
def mthD (m : Me) (x : D) (as : List D) (cs : Cells) : R D := match m, x, as with
  | .append, .own n, [a] =>
    let p := fz a cs
    setCell n (fun xs => if xs.length < big then some (.non, xs ++ [p.1]) else none) p.2
  | .extend, .own n, [a] => (match view cs a with
    | .lst ys => setCell n (fun xs => if xs.length + ys.length ≤ big then some (.non, xs ++ ys) else none) cs
    | _ => .stuck)
  | .pop0, .own n, [] => setCell n (fun xs => match xs[xs.length - 1]? with | some d => some (d, xs.dropLast) | none => none) cs
  | .pop1, .own n, [.int i] => if !rngOk i then .stuck else setCell n (fun xs => match ixN xs.length i with
    | some j => (match xs[j]? with | some d => some (d, xs.eraseIdx j) | none => none)
    | none => none) cs
  | .index, x, [a] => (match view cs x, (view cs a).py with
    | .lst xs, some d => (match D.pys xs with
      | some es => if SeqAt.shaped d && SeqAt.shaped (.list es) then (match idxIn d 0 es with | some j => .ok (.int j) cs | none => .stuck) else .stuck
      | none => .stuck)
    | _, _ => .stuck)
  | _, _, _ => .stuck

/-- an item put behind list n -/
def pushD (n : Nat) (x : D) (cs : Cells) : R Unit := let p := fz x cs
  (setCell n (fun xs => if xs.length < big then some (.non, xs ++ [p.1]) else none) p.2).bind fun _ c => .ok () c
def turnC (tg : Tg) (env : Env) (T : Env → Cells → R Bool) (V : Env → Cells → R D) (n : Nat) : D → Cells → R Unit := fun d cs2 => match asg tg d env with
  | none => .stuck
  | some env' => (T env' cs2).bind fun b cs3 => if b then (V env' cs3).bind fun x cs4 => pushD n x cs4 else .ok () cs3
def walkC (k : Ik) (ds : List D) (f : D → Cells → R Unit) (cs1 cs2 : Cells) : R Unit := if kOk k ds then
    (if ds.any isOwn then (match itemsOf k (ds.map (view cs1)) with
      | some xs => compO (fun c => itemsOf k (ds.map (view c))) f (xs.length + 1) 0 cs2
      | none => .stuck)
    else (match itemsOf k ds with
      | some xs => compL f xs cs2
      | none => .stuck))
  else .stuck
section
variable (call : Nat → List D → Cells → R D)
mutual
def ev : E → Env → Cells → R D
  | .cst d, _, cs => .ok d cs
  | .var i, env, cs => (match env[i]? with
    | some (some d) => .ok d cs
    | _ => .stuck)
  | .gint _ i, _, cs => .ok (.int i) cs
  | .gstr _ z, _, cs => .ok (.str z) cs
  | .gfn k, _, cs => .ok (.fn k) cs
  | .tup es, env, cs => (evs es env cs).bind fun ds cs1 =>
    let p := fzs ds cs1
    .ok (.tup p.1) p.2
  | .lst es, env, cs => (evs es env cs).bind fun ds cs1 =>
    let p := fzs ds cs1
    .ok (.lst p.1) p.2
  | .bin o a b, env, cs => (ev a env cs).bind fun x cs1 => (ev b env cs1).bind fun y cs2 => .opt (binD o (view cs2 x) (view cs2 y)) cs2
  | .neg a, env, cs => (ev a env cs).bind fun x cs1 => (match x with
    | .int i => .ok (.int (-i)) cs1
    | _ => .stuck)
  | .not a, env, cs => (ev a env cs).bind fun x cs1 => (match truD (view cs1 x) with
    | some b => .ok (.bl (!b)) cs1
    | none => .stuck)
  | .and es, env, cs => evAnd es env cs
  | .or es, env, cs => evOr es env cs
  | .cmp o a b, env, cs => (ev a env cs).bind fun x cs1 => (ev b env cs1).bind fun y cs2 => (match cmpD o (view cs2 x) (view cs2 y) with
    | some b => .ok (.bl b) cs2
    | none => .stuck)
  | .chn o p a b c, env, cs => (ev a env cs).bind fun x cs1 => (ev b env cs1).bind fun y cs2 => (match cmpD o (view cs2 x) (view cs2 y) with
    | some true => (ev c env cs2).bind fun z cs3 => (match cmpD p (view cs3 y) (view cs3 z) with
      | some b => .ok (.bl b) cs3
      | none => .stuck)
    | some false => .ok (.bl false) cs2
    | none => .stuck)
  | .isn neg a, env, cs => (ev a env cs).bind fun x cs1 => .ok (.bl (match x with | .non => !neg | _ => neg)) cs1
  | .isb neg a b, env, cs => (ev a env cs).bind fun x cs1 => (match x with
    | .bl c => .ok (.bl (if neg then c != b else c == b)) cs1
    | _ => .stuck)
  | .ite c a b, env, cs => (tst c env cs).bind fun t cs1 => if t then ev a env cs1 else ev b env cs1
  | .call k es, env, cs => (evs es env cs).bind fun ds cs1 => call k ds cs1
  | .callv i es, env, cs => (match env[i]? with
    | some (some (.fn k)) => (evs es env cs).bind fun ds cs1 => call k ds cs1
    | _ => .stuck)
  | .bi b es, env, cs => (evs es env cs).bind fun ds cs1 => .opt (biD b (ds.map (view cs1))) cs1
  | .isi a ts, env, cs => (ev a env cs).bind fun x cs1 => (match isiD (view cs1 x) ts with
    | some b => .ok (.bl b) cs1
    | none => .stuck)
  | .rng tu es, env, cs => (evs es env cs).bind fun ds cs1 => (match itemsOf .rng ds with
    | some xs => .ok (if tu then .tup xs else .lst xs) cs1
    | none => .stuck)
  | .idx a i, env, cs => (ev a env cs).bind fun x cs1 => (ev i env cs1).bind fun y cs2 => .opt (idxD (view cs2 x) y) cs2
  | .slc a bl bh lo hi, env, cs => (ev a env cs).bind fun x cs1 => (if bl then ev lo env cs1 else .ok .non cs1).bind fun l cs2 => (R.opt (partD bl l) cs2).bind fun l' cs3 => (if bh then ev hi env cs3 else .ok .non cs3).bind fun h cs4 => (R.opt (partD bh h) cs4).bind fun h' cs5 => .opt (cutD (view cs5 x) l' h') cs5
  | .rev a, env, cs => (ev a env cs).bind fun x cs1 => (match view cs1 x with
    | .lst xs => .ok (.lst xs.reverse) cs1
    | _ => .stuck)
  | .comp elt tg own k es ifs, env, cs => (evs es env cs).bind fun ds cs1 =>
    (walkC k ds (turnC tg (wipe env own) (fun e c => tstAll ifs e c) (fun e c => ev elt e c) cs1.length) cs1 (cs1 ++ [⟨true, .lst []⟩])).bind fun _ cs3 => .ok (.own cs1.length) cs3
  | .mk e, env, cs => if isFresh e then (ev e env cs).bind fun d cs1 => (match d with
      | .lst xs => .ok (.own cs1.length) (cs1 ++ [⟨true, .lst xs⟩])
      | _ => .stuck) else .stuck
  | .mth m a es, env, cs => (ev a env cs).bind fun x cs1 => if lsD x then (evs es env cs1).bind fun ds cs2 => mthD m x ds cs2 else .stuck
def evs : List E → Env → Cells → R (List D)
  | [], _, cs => .ok [] cs
  | e :: es, env, cs => (ev e env cs).bind fun d cs1 => (evs es env cs1).bind fun ds cs2 => .ok (d :: ds) cs2
def evAnd : List E → Env → Cells → R D
  | [], _, _ => .stuck
  | [e], env, cs => ev e env cs
  | e :: e2 :: es, env, cs => (ev e env cs).bind fun x cs1 => (match truD (view cs1 x) with
    | some true => evAnd (e2 :: es) env cs1
    | some false => .ok x cs1
    | none => .stuck)
def evOr : List E → Env → Cells → R D
  | [], _, _ => .stuck
  | [e], env, cs => ev e env cs
  | e :: e2 :: es, env, cs => (ev e env cs).bind fun x cs1 => (match truD (view cs1 x) with
    | some false => evOr (e2 :: es) env cs1
    | some true => .ok x cs1
    | none => .stuck)
def tst : E → Env → Cells → R Bool
  | .not a, env, cs => (tst a env cs).bind fun b cs1 => .ok (!b) cs1
  | .and es, env, cs => tstAll es env cs
  | .or es, env, cs => tstAny es env cs
  | .ite c a b, env, cs => (tst c env cs).bind fun t cs1 => if t then tst a env cs1 else tst b env cs1
  | e, env, cs => (ev e env cs).bind fun x cs1 => .opt (truD (view cs1 x)) cs1
def tstAll : List E → Env → Cells → R Bool
  | [], _, cs => .ok true cs
  | e :: es, env, cs => (tst e env cs).bind fun b cs1 => if b then tstAll es env cs1 else .ok false cs1
def tstAny : List E → Env → Cells → R Bool
  | [], _, cs => .ok false cs
  | e :: es, env, cs => (tst e env cs).bind fun b cs1 => if b then .ok true cs1 else tstAny es env cs1
end
end

/-! ### statements -/
inductive Si where
  | str (x : Str)
  | isi (t : Ty)
inductive S where
  | set (tg : Tg) (e : E)
  | par (ts : List Tg) (es : List E)
  | sub (a i e : E)
  | aug (i : Nat) (o : Bop) (e : E)
  | expr (e : E)
  | ite (c : E) (a b : List S)
  | for (tg : Tg) (k : Ik) (es : List E) (body : List S)
  | whl (c : E) (body : List S)
  | ret (e : E)
  | raise (k : Nat)
  | pass | brk | cont
  | tryq (body : List S) (hs : List (Nat × Nat × Nat × List Si))

def R.rs {α : Type} (m : R α) (env : Env) (f : α → Cells → RS) : RS := match m with
  | .ok a c => f a c
  | .exc x c => .exc x env c
  | .stuck => .stuck
def RS.seq (m : RS) (f : Env → Cells → RS) : RS := match m with
  | .next env c => f env c
  | r => r
/-- behind a turn's body -/
def loopB (r : RS) (k : Env → Cells → RS) : RS := match r with
  | .next e c => k e c
  | .cont e c => k e c
  | .brk e c => .next e c
  | r => r
def forL (f : D → Env → Cells → RS) : List D → Env → Cells → RS
  | [], env, cs => .next env cs
  | d :: ds, env, cs => loopB (f d env cs) fun e c => forL f ds e c
def forO (items : Cells → Option (List D)) (f : D → Env → Cells → RS) : Nat → Nat → Env → Cells → RS
  | 0, _, _, _ => .stuck
  | n + 1, i, env, cs => (match items cs with
    | none => .stuck
    | some ds => (match ds[i]? with
      | none => .next env cs
      | some d => loopB (f d env cs) fun e c => forO items f n (i + 1) e c))
def turnS (tg : Tg) (B : Env → Cells → RS) : D → Env → Cells → RS := fun d env cs => match asg tg d env with
  | some env' => B env' cs
  | none => .stuck
def walkS (k : Ik) (ds : List D) (f : D → Env → Cells → RS) (env : Env) (cs : Cells) : RS := if kOk k ds then
    (if ds.any isOwn then (match itemsOf k (ds.map (view cs)) with
      | some xs => forO (fun c => itemsOf k (ds.map (view c))) f (xs.length + 1) 0 env cs
      | none => .stuck)
    else (match itemsOf k ds with
      | some xs => forL f xs env cs
      | none => .stuck))
  else .stuck
def whlF (c : Env → Cells → R Bool) (f : Env → Cells → RS) : Nat → Env → Cells → RS
  | 0, _, _ => .stuck
  | n + 1, env, cs => (c env cs).rs env fun b cs1 => if b then loopB (f env cs1) fun e c' => whlF c f n e c' else .next env cs1
def turns : Nat := 100000
def siD : Si → D
  | .str x => .str x
  | .isi t => .bl (t == .verr)
def setD (x i v : D) (cs : Cells) : R Unit := match x, i with
  | .own n, .int j =>
    let p := fz v cs
    (setCell n (fun xs => match ixN xs.length j with
      | some m => some (.non, xs.set m p.1)
      | none => none) p.2).bind fun _ cs2 => .ok () cs2
  | _, _ => .stuck
/-- which clause takes it -/
def clauseOf (k : Nat) : List (Nat × Nat × Nat × List Si) → Option (Nat × Nat × List Si)
  | [] => none
  | (c, h) :: r => if c = k then some h else clauseOf k r
def tryB (hs : List (Nat × Nat × Nat × List Si)) (r : RS) : RS := match r with
  | .exc x env cs => (match clauseOf x.k hs with
    | some (j, i, is) => if i < env.length ∧ j < env.length ∧ i ≠ j then .next ((env.set j none).set i (some (.lst (is.map siD)))) cs else .stuck
    | none => .exc x env cs)
  | r => r
section
variable (call : Nat → List D → Cells → R D)
mutual
def ex : S → Env → Cells → RS
  | .set tg e, env, cs => (ev call e env cs).rs env fun d cs1 => (match asg tg d env with
    | some env' => .next env' cs1
    | none => .stuck)
  | .par ts es, env, cs => (evs call es env cs).rs env fun ds cs1 => (match asgs ts ds env with
    | some env' => .next env' cs1
    | none => .stuck)
  | .sub a i e, env, cs => (ev call e env cs).rs env fun v cs1 => (ev call a env cs1).rs env fun x cs2 => (ev call i env cs2).rs env fun y cs3 => (setD x y v cs3).rs env fun _ cs4 => .next env cs4
  | .aug i o e, env, cs => (match env[i]? with
    | some (some x) => (ev call e env cs).rs env fun y cs1 => (match x, y with
      | .int a, .int b => (match binD o (.int a) (.int b) with
        | some z => if i < env.length then .next (env.set i (some z)) cs1 else .stuck
        | none => .stuck)
      | _, _ => .stuck)
    | _ => .stuck)
  | .expr e, env, cs => (ev call e env cs).rs env fun _ cs1 => .next env cs1
  | .ite c a b, env, cs => (tst call c env cs).rs env fun t cs1 => if t then exs a env cs1 else exs b env cs1
  | .for tg k es body, env, cs => (evs call es env cs).rs env fun ds cs1 => walkS k ds (turnS tg fun e c => exs body e c) env cs1
  | .whl c body, env, cs => whlF (fun e c' => tst call c e c') (fun e c' => exs body e c') turns env cs
  | .ret e, env, cs => (ev call e env cs).rs env fun d cs1 => .ret d cs1
  | .raise k, env, cs => .exc ⟨k, []⟩ env cs
  | .pass, env, cs => .next env cs
  | .brk, env, cs => .brk env cs
  | .cont, env, cs => .cont env cs
  | .tryq body hs, env, cs => tryB hs (exs body env cs)
def exs : List S → Env → Cells → RS
  | [], env, cs => .next env cs
  | s :: ss, env, cs => (ex s env cs).seq fun env' cs' => exs ss env' cs'
end
end
/-! ### defs -/
structure Df where
  np : Nat
  nl : Nat
  keep : Bool
  body : List S
def endD (keep : Bool) (n0 : Nat) (d : D) (cs : Cells) : R D := match d with
  | .own n => if n < n0 then .ok (.own n) (cs.take n0) else (match cs[n]? with
    | some c => if keep && c.mu then .ok (.own n0) (cs.take n0 ++ [c]) else .ok c.d (cs.take n0)
    | none => .stuck)
  | d => .ok d (cs.take n0)
def endS (keep : Bool) (n0 : Nat) : RS → R D
  | .ret d cs => endD keep n0 d cs
  | .next _ cs => .ok .non (cs.take n0)
  | .exc x _ cs => .exc x (cs.take n0)
  | _ => .stuck
def callN (ds : List Df) : Nat → Nat → List D → Cells → R D
  | 0, _, _, _ => .stuck
  | n + 1, k, as, cs => (match ds[k]? with
    | some df => if as.length = df.np then endS df.keep cs.length (exs (callN ds n) df.body (as.map some ++ List.replicate (df.nl - df.np) none) cs) else .stuck
    | none => .stuck)
end PV
end

section
set_option Elab.async false
set_option linter.all false
set_option maxRecDepth 100000
set_option autoImplicit false
/-! What the evaluator's data stand for; how readings are put together. -/
namespace PV
open PySem PySem.Spec PyProof.Rows L2

/-- where defs and classes stand -/
structure Gt where
  fa : Nat → Option Addr
  ca : Nat → Option Addr
  K : PySem.W.Frag

section
variable (G : Gt)
mutual
def Rep (F : Hp) : D → V → Prop
  | .non, v => v = .non
  | .bl b, v => v = .bl b
  | .int i, v => v = .int i
  | .str x, v => v = .str x
  | .tup xs, v => ∃ a vs, v = .ref a ∧ SqT G.K F a vs ∧ Reps F xs vs
  | .lst xs, v => ∃ a vs, v = .ref a ∧ F a = some (.lst vs) ∧ Reps F xs vs
  | .scr xs, v => ∃ a vs, v = .ref a ∧ SqL G.K F a vs ∧ Reps F xs vs
  | .dic _, _ => False
  | .fn k, v => ∃ f, G.fa k = some f ∧ v = .ref f
  | .ty t, v => v = .ty t.nm
  | .own _, _ => False
def Reps (F : Hp) : List D → List V → Prop
  | [], vs => vs = []
  | d :: ds, vs => ∃ v r, vs = v :: r ∧ Rep F d v ∧ Reps F ds r
end
/-- .. where the outermost list or dict may be one that changes -/
def RepV (F : Hp) (α : List Addr) : D → V → Prop
  | .own n, v => ∃ a, α[n]? = some a ∧ v = .ref a
  | d, v => Rep G F d v
def RepVs (F : Hp) (α : List Addr) : List D → List V → Prop
  | [], vs => vs = []
  | d :: ds, vs => ∃ v r, vs = v :: r ∧ RepV G F α d v ∧ RepVs F α ds r
/-- data that are read where they stand now, their items in F -/
def RepW (F H : Hp) : D → V → Prop
  | .lst xs, v => ∃ a vs, v = .ref a ∧ H a = some (.lst vs) ∧ Reps G F xs vs
  | d, v => Rep G F d v
def HoR (F : Hp) : D → HO → Prop
  | .lst xs, o => ∃ vs, o = .lst vs ∧ Reps G F xs vs
  | _, _ => False
structure CellR (F H : Hp) (a : Addr) (c : Cell) : Prop where
  ho : ∃ o, H a = some o ∧ HoR G F c.d o ∧ (c.mu = true → F a = none) ∧ (c.mu = false → F a = some o)
structure Ab (F : Hp) (α : List Addr) (H : Hp) (cs : Cells) : Prop where
  sub : Same F H
  len : α.length = cs.length
  nd : α.Nodup
  cell : ∀ (n : Nat) (a : Addr) (c : Cell), α[n]? = some a → cs[n]? = some c → CellR G F H a c
structure EnvR (F : Hp) (α : List Addr) (env : Env) (σ : L2.St) : Prop where
  len : env.length = σ.length
  at_ : ∀ (i : Nat) (d : D), env[i]? = some (some d) → ∃ v, σ[i]? = some (some v) ∧ RepV G F α d v
/-- an exception as HandS tells it -/
def ExcR (x : Exc) (cls : Value) (dx : Option Addr) (_H : Hp) : Prop := ∃ C, G.ca x.k = some C ∧ cls = .ref C ∧ dx = none ∧ x.xs = []
end

section
variable {G : Gt} {F F' F'' H H' : Hp} {α α' α'' : List Addr}
theorem same_tr {A B C : Hp} (h : Same A B) (k : Same B C) : Same A C := fun b u e => k b u (h b u e)
theorem same_rf {A : Hp} : Same A A := fun _ _ e => e
theorem same_up {p : Addr} {o : HO} (h : F p = none) : Same F (upd F p o) := fun b u e => by
  rw [upd_ne (ne_of_none e h)]; exact e
theorem same_upd {p : Addr} {o : HO} (s : Same F H) (h : F p = none) : Same F (upd H p o) := fun b u e => by
  rw [upd_ne (ne_of_none e h)]; exact s b u e
theorem same_upd2 {p : Addr} {o : HO} (s : Same F H) : Same (upd F p o) (upd H p o) := fun b u e => by
  by_cases h : b = p
  · subst h; rw [upd_same] at e ⊢; exact e
  · rw [upd_ne h] at e ⊢; exact s b u e
theorem same_none {p : Addr} (s : Same F H) (h : H p = none) : F p = none := by
  cases e : F p with
  | none => rfl
  | some o => rw [s p o e] at h; cases h
theorem Same.sqL {K : PySem.W.Frag} (s : Same F F') {a : Addr} {vs : List V} (h : SqL K F a vs) : SqL K F' a vs := by
  rcases h with (h | ⟨o, h⟩) | h
  · exact .inl (.inl (s _ _ h))
  · exact .inl (.inr ⟨o, s _ _ h⟩)
  · exact .inr h
theorem Same.sqT {K : PySem.W.Frag} (s : Same F F') {a : Addr} {vs : List V} (h : SqT K F a vs) : SqT K F' a vs := by
  rcases h with (h | ⟨o, h⟩) | h
  · exact .inl (.inl (s _ _ h))
  · exact .inl (.inr ⟨o, s _ _ h⟩)
  · exact .inr h
mutual
theorem Rep.mono (s : Same F F') : ∀ (d : D) (v : V), Rep G F d v → Rep G F' d v
  | .non, _, h => h
  | .bl _, _, h => h
  | .int _, _, h => h
  | .str _, _, h => h
  | .tup xs, _, h => by
    obtain ⟨a, vs, e, q, r⟩ := h
    exact ⟨a, vs, e, Same.sqT s q, Reps.mono s xs vs r⟩
  | .lst xs, _, h => by
    obtain ⟨a, vs, e, q, r⟩ := h
    exact ⟨a, vs, e, s _ _ q, Reps.mono s xs vs r⟩
  | .scr xs, _, h => by
    obtain ⟨a, vs, e, q, r⟩ := h
    exact ⟨a, vs, e, Same.sqL s q, Reps.mono s xs vs r⟩
  | .dic _, _, h => h
  | .fn _, _, h => h
  | .ty _, _, h => h
  | .own _, _, h => h
theorem Reps.mono (s : Same F F') : ∀ (ds : List D) (vs : List V), Reps G F ds vs → Reps G F' ds vs
  | [], _, h => h
  | d :: ds, _, h => by
    obtain ⟨v, r, e, h1, h2⟩ := h
    exact ⟨v, r, e, Rep.mono s d v h1, Reps.mono s ds r h2⟩
end
theorem pre_get (p : α <+: α') {n : Nat} {a : Addr} (h : α[n]? = some a) : α'[n]? = some a := by
  obtain ⟨t, rfl⟩ := p
  exact (List.getElem?_append_left (List.getElem?_eq_some_iff.mp h).1).trans h
theorem RepV.mono (s : Same F F') (p : α <+: α') {d : D} {v : V} (h : RepV G F α d v) : RepV G F' α' d v := by
  cases d with
  | own n => obtain ⟨a, e, q⟩ := h; exact ⟨a, pre_get p e, q⟩
  | _ => exact Rep.mono s _ _ h
theorem RepVs.mono (s : Same F F') (p : α <+: α') : ∀ {ds : List D} {vs : List V}, RepVs G F α ds vs → RepVs G F' α' ds vs
  | [], _, h => h
  | d :: ds, _, h => by
    obtain ⟨v, r, e, h1, h2⟩ := h
    exact ⟨v, r, e, RepV.mono s p h1, RepVs.mono s p h2⟩
theorem EnvR.mono (s : Same F F') (p : α <+: α') {env : Env} {σ : L2.St} (h : EnvR G F α env σ) : EnvR G F' α' env σ :=
  ⟨h.len, fun i d e => let ⟨v, e1, r⟩ := h.at_ i d e; ⟨v, e1, r.mono s p⟩⟩
theorem Reps.len : ∀ {ds : List D} {vs : List V}, Reps G F ds vs → ds.length = vs.length
  | [], _, h => by cases h; rfl
  | d :: ds, _, h => by
    obtain ⟨v, r, rfl, _, h2⟩ := h
    simp [Reps.len h2]
theorem RepVs.len : ∀ {ds : List D} {vs : List V}, RepVs G F α ds vs → ds.length = vs.length
  | [], _, h => by cases h; rfl
  | d :: ds, _, h => by
    obtain ⟨v, r, rfl, _, h2⟩ := h
    simp [RepVs.len h2]
theorem Reps.get : ∀ {ds : List D} {vs : List V} {i : Nat} {d : D}, Reps G F ds vs → ds[i]? = some d → ∃ v, vs[i]? = some v ∧ Rep G F d v
  | [], _, _, _, _, e => by simp at e
  | _ :: ds, _, 0, _, h, e => by
    obtain ⟨v, r, rfl, h1, _⟩ := h
    simp at e; subst e
    exact ⟨v, rfl, h1⟩
  | _ :: ds, _, i + 1, _, h, e => by
    obtain ⟨v, r, rfl, _, h2⟩ := h
    simp only [List.getElem?_cons_succ] at e ⊢
    exact Reps.get h2 e
theorem Reps.append : ∀ {ds es : List D} {vs ws : List V}, Reps G F ds vs → Reps G F es ws → Reps G F (ds ++ es) (vs ++ ws)
  | [], _, _, _, h, k => by cases h; exact k
  | d :: ds, _, _, _, h, k => by
    obtain ⟨v, r, rfl, h1, h2⟩ := h
    exact ⟨v, r ++ _, rfl, h1, Reps.append h2 k⟩
theorem RepW.mono (s : Same F F') (t : Same H H') {d : D} {v : V} (h : RepW G F H d v) : RepW G F' H' d v := by
  cases d with
  | lst xs => obtain ⟨a, vs, e, q, r⟩ := h; exact ⟨a, vs, e, t _ _ q, Reps.mono s _ _ r⟩
  | _ => exact Rep.mono s _ _ h
theorem Rep.w (s : Same F H) {d : D} {v : V} (h : Rep G F d v) : RepW G F H d v := by
  cases d with
  | lst xs => obtain ⟨a, vs, e, q, r⟩ := h; exact ⟨a, vs, e, s _ _ q, r⟩
  | _ => exact h
/-- what is seen of a value -/
theorem RepV.view {cs : Cells} (ab : Ab G F α H cs) {d : D} {v : V} (h : RepV G F α d v) : RepW G F H (view cs d) v := by
  cases d with
  | own n =>
    obtain ⟨a, e, rfl⟩ := h
    have hn : n < cs.length := by rw [← ab.len]; exact (List.getElem?_eq_some_iff.mp e).1
    obtain ⟨o, h1, h2, _, _⟩ := (ab.cell n a _ e (List.getElem?_eq_getElem hn)).ho
    show RepW G F H (match cs[n]? with | some c => c.d | none => .own n) _
    rw [List.getElem?_eq_getElem hn]
    show RepW G F H (cs[n]).d _
    generalize (cs[n]).d = d at h2 ⊢
    cases d with
    | lst xs => obtain ⟨vs, rfl, r⟩ := h2; exact ⟨a, vs, rfl, h1, r⟩
    | _ => exact h2.elim
  | _ => exact Rep.w ab.sub h
theorem Ab.ne {cs : Cells} (ab : Ab G F α H cs) {p : Addr} (h : H p = none) : p ∉ α := fun hm => by
  obtain ⟨n, hn, e⟩ := List.mem_iff_getElem.mp hm
  have hc : n < cs.length := by rw [← ab.len]; exact hn
  obtain ⟨o, h1, _⟩ := (ab.cell n p _ (by rw [List.getElem?_eq_getElem hn, e]) (List.getElem?_eq_getElem hc)).ho
  rw [h] at h1; cases h1
theorem HoR.mono (s : Same F F') {d : D} {o : HO} (h : HoR G F d o) : HoR G F' d o := by
  cases d with
  | lst xs => obtain ⟨vs, e, r⟩ := h; exact ⟨vs, e, Reps.mono s _ _ r⟩
  | _ => exact h
/-- more is laid, more is known to stay -/
theorem Ab.grow {cs : Cells} (ab : Ab G F α H cs) {F' H' : Hp} (s : Same F F') (t : Same H H') (sub : Same F' H') (out : ∀ a ∈ α, F' a = F a) : Ab G F' α H' cs :=
  ⟨sub, ab.len, ab.nd, fun n a c e k => by
    obtain ⟨o, h1, h2, h3, h4⟩ := (ab.cell n a c e k).ho
    have z := out a (List.mem_of_getElem? e)
    exact ⟨o, t _ _ h1, h2.mono s, fun m => by rw [z]; exact h3 m, fun m => by rw [z]; exact h4 m⟩⟩
/-- a new object that stays as it is -/
theorem Ab.fresh {cs : Cells} (ab : Ab G F α H cs) {p : Addr} (h : H p = none) (o : HO) : Ab G (upd F p o) α (upd H p o) cs := by
  have hF := same_none ab.sub h
  refine ab.grow (same_up hF) (same_up h) (same_upd2 ab.sub) fun a ha => upd_ne fun e => ?_
  rw [e] at ha
  exact ab.ne h ha
/-- a new object that nobody knows -/
theorem Ab.idle {cs : Cells} (ab : Ab G F α H cs) {p : Addr} (h : H p = none) (o : HO) : Ab G F α (upd H p o) cs :=
  ab.grow same_rf (same_up h) (same_upd ab.sub (same_none ab.sub h)) fun _ _ => rfl
/-- an object of the abstract heap is known to stay -/
theorem Ab.keep {cs : Cells} (ab : Ab G F α H cs) {p : Addr} {o : HO} (hF : F p = none) (hα : p ∉ α) (h : H p = some o) : Ab G (upd F p o) α H cs := by
  refine ab.grow (same_up hF) same_rf (fun b u e => ?_) fun a ha => upd_ne fun e => ?_
  · by_cases hb : b = p
    · subst hb; rw [upd_same] at e; rw [h]; exact e
    · rw [upd_ne hb] at e; exact ab.sub _ _ e
  · rw [e] at ha; exact hα ha
end

/-! ### readings -/
section
variable (G : Gt) (W : WX)
/-- what is wanted behind a piece that gave r -/
def Post {β : Type} (σ : L2.St) (F : Hp) (α : List Addr) (r : R β) (Q : Hp → List Addr → Hp → Cells → β → Prop) : Prop := match r with
  | .ok b cs => ∀ F' α' H', Same F F' → α <+: α' → Ab G F' α' H' cs → Q F' α' H' cs b
  | .exc x cs => ∀ F' α' H' cls dx, Same F F' → α <+: α' → Ab G F' α' H' cs → ExcR G x cls dx H' → W cls dx σ H'
  | .stuck => False
variable {G W}
theorem Post.imp {β : Type} {σ : L2.St} {F : Hp} {α : List Addr} {r : R β} {Q Q' : Hp → List Addr → Hp → Cells → β → Prop} (h : Post G W σ F α r Q)
    (k : ∀ F' α' H' cs b, Same F F' → α <+: α' → Ab G F' α' H' cs → Q F' α' H' cs b → Q' F' α' H' cs b) : Post G W σ F α r Q' := by
  cases r with
  | ok b cs => exact fun F' α' H' s p a => k _ _ _ _ _ s p a (h F' α' H' s p a)
  | exc x cs => exact h
  | stuck => exact h
theorem Post.up {β : Type} {σ : L2.St} {F F1 : Hp} {α α1 : List Addr} {r : R β} {Q : Hp → List Addr → Hp → Cells → β → Prop} (h : Post G W σ F α r Q) (s : Same F F1) (p : α <+: α1) : Post G W σ F1 α1 r Q := by
  cases r with
  | ok b cs => exact fun F' α' H' s' p' a => h F' α' H' (same_tr s s') (p.trans p') a
  | exc x cs => exact fun F' α' H' cls dx s' p' a => h F' α' H' cls dx (same_tr s s') (p.trans p') a
  | stuck => exact h
theorem Post.bind {β γ : Type} {σ : L2.St} {F : Hp} {α : List Addr} {r : R β} {f : β → Cells → R γ} {Q : Hp → List Addr → Hp → Cells → γ → Prop} (h : Post G W σ F α (r.bind f) Q) :
    Post G W σ F α r fun F' α' _ cs b => Post G W σ F' α' (f b cs) Q := by
  cases r with
  | ok b cs => exact fun F' α' H' s p _ => Post.up h s p
  | exc x cs => exact h
  | stuck => exact h
theorem Post.opt {β : Type} {σ : L2.St} {F : Hp} {α : List Addr} {o : Option β} {cs : Cells} {Q : Hp → List Addr → Hp → Cells → β → Prop} (h : Post G W σ F α (R.opt o cs) Q) : ∃ b, o = some b ∧ Post G W σ F α (.ok b cs) Q := by
  cases o with
  | none => exact h.elim
  | some b => exact ⟨b, rfl, h⟩
theorem Post.here {β : Type} {σ : L2.St} {F H : Hp} {α : List Addr} {b : β} {cs : Cells} {Q : Hp → List Addr → Hp → Cells → β → Prop} (h : Post G W σ F α (.ok b cs) Q) (a : Ab G F α H cs) : Q F α H cs b := h F α H same_rf (List.prefix_refl _) a
end
section
variable (G : Gt) (W : WX)
def tE (m : Env → Cells → R D) : TE := fun σ H Q => ∃ F α env cs, Ab G F α H cs ∧ EnvR G F α env σ ∧ Post G W σ F α (m env cs) fun F' α' H' _ d => ∀ v, RepV G F' α' d v → Q v H'
def tA (m : Env → Cells → R (List D)) : TA := fun σ H Q => ∃ F α env cs, Ab G F α H cs ∧ EnvR G F α env σ ∧ Post G W σ F α (m env cs) fun F' α' H' _ ds => ∀ vs, RepVs G F' α' ds vs → Q vs H'
def tT (m : Env → Cells → R Bool) : TT := fun σ H Q => ∃ F α env cs, Ab G F α H cs ∧ EnvR G F α env σ ∧ Post G W σ F α (m env cs) fun _ _ H' _ b => Q b H'
/-- of what makes a new list: the list is known to nobody -/
def isLst : D → Bool
  | .lst _ => true
  | _ => false
def tF (m : Env → Cells → R D) : TE := fun σ H Q => ∃ F α env cs, Ab G F α H cs ∧ EnvR G F α env σ ∧ Post G W σ F α (m env cs) fun F' α' H' _ d =>
  (isLst d = false → ∀ v, RepV G F' α' d v → Q v H') ∧ ∀ xs p vs, d = .lst xs → F' p = none → p ∉ α' → H' p = some (.lst vs) → Reps G F' xs vs → Q (.ref p) H'
end
section
variable {G : Gt} {W : WX} {X : Cx} {e : Expr}
theorem PE.weak {t t' : TE} (h : PE X e t) (k : ∀ σ H Q, t' σ H Q → t σ H Q) : PE X e t' := ⟨fun pins s σ H Q I q => h.run pins s σ H Q I (k σ H Q q)⟩
theorem PT.weak {t t' : TT} (h : PT X e t) (k : ∀ σ H Q, t' σ H Q → t σ H Q) : PT X e t' := ⟨fun pins s σ H Q I q => h.run pins s σ H Q I (k σ H Q q)⟩
theorem PW.weak {t t' : TT} (h : PW X e t) (k : ∀ σ H Q, t' σ H Q → t σ H Q) : PW X e t' := ⟨fun wh pins s σ H Q I q => h.run wh pins s σ H Q I (k σ H Q q)⟩
theorem PA.weak {es : List Expr} {t t' : TA} (h : PA X es t) (k : ∀ σ H Q, t' σ H Q → t σ H Q) : PA X es t' := ⟨fun pos pins s σ H Q I q => h.run pos pins s σ H Q I (k σ H Q q)⟩
/-- from a new list known to nobody to one that stays -/
theorem tE_tF {m : Env → Cells → R D} {σ : L2.St} {H : Hp} {Q : VK} (h : tE G W m σ H Q) : tF G W m σ H Q := by
  obtain ⟨F, α, env, cs, ab, en, po⟩ := h
  refine ⟨F, α, env, cs, ab, en, ?_⟩
  cases hr : m env cs with
  | stuck => rw [hr] at po; exact po
  | exc x c => rw [hr] at po; exact po
  | ok d c =>
    rw [hr] at po
    refine fun F' α' H' s p a => ⟨fun _ v => po F' α' H' s p a v, fun xs q vs e hF hα hH hR => ?_⟩
    subst e
    have s2 : Same F' (upd F' q (.lst vs)) := same_up hF
    exact po (upd F' q (.lst vs)) α' H' (same_tr s s2) p (a.keep hF hα hH) (.ref q) ⟨q, vs, rfl, upd_same, Reps.mono s2 _ _ hR⟩
theorem PE.ofF {m : Env → Cells → R D} (h : PE X e (tF G W m)) : PE X e (tE G W m) := PE.weak h fun _ _ _ => tE_tF
/-- one piece, then another -/
theorem tE_bind {β : Type} {m : Env → Cells → R D} {f : Env → D → Cells → R β} {σ : L2.St} {H : Hp} {F : Hp} {α : List Addr} {env : Env} {cs : Cells} {Q : Hp → List Addr → Hp → Cells → β → Prop} {R' : VK} (ab : Ab G F α H cs) (en : EnvR G F α env σ)
    (po : Post G W σ F α ((m env cs).bind (f env)) Q)
    (k : ∀ F1 α1 H1 cs1 d v, Same F F1 → α <+: α1 → Ab G F1 α1 H1 cs1 → EnvR G F1 α1 env σ → RepV G F1 α1 d v → Post G W σ F1 α1 (f env d cs1) Q → R' v H1) : tE G W m σ H R' :=
  ⟨F, α, env, cs, ab, en, (Post.bind po).imp fun F' α' H' cs' b s p a q v r => k F' α' H' cs' b v s p a (en.mono s p) r q⟩
theorem tA_bind {β : Type} {m : Env → Cells → R (List D)} {f : Env → List D → Cells → R β} {σ : L2.St} {H : Hp} {F : Hp} {α : List Addr} {env : Env} {cs : Cells} {Q : Hp → List Addr → Hp → Cells → β → Prop} {R' : List V → Hp → Prop} (ab : Ab G F α H cs) (en : EnvR G F α env σ)
    (po : Post G W σ F α ((m env cs).bind (f env)) Q)
    (k : ∀ F1 α1 H1 cs1 d v, Same F F1 → α <+: α1 → Ab G F1 α1 H1 cs1 → EnvR G F1 α1 env σ → RepVs G F1 α1 d v → Post G W σ F1 α1 (f env d cs1) Q → R' v H1) : tA G W m σ H R' :=
  ⟨F, α, env, cs, ab, en, (Post.bind po).imp fun F' α' H' cs' b s p a q v r => k F' α' H' cs' b v s p a (en.mono s p) r q⟩
theorem tT_bind {β : Type} {m : Env → Cells → R Bool} {f : Env → Bool → Cells → R β} {σ : L2.St} {H : Hp} {F : Hp} {α : List Addr} {env : Env} {cs : Cells} {Q : Hp → List Addr → Hp → Cells → β → Prop} {R' : Bool → Hp → Prop} (ab : Ab G F α H cs) (en : EnvR G F α env σ)
    (po : Post G W σ F α ((m env cs).bind (f env)) Q)
    (k : ∀ F1 α1 H1 cs1 b, Same F F1 → α <+: α1 → Ab G F1 α1 H1 cs1 → EnvR G F1 α1 env σ → Post G W σ F1 α1 (f env b cs1) Q → R' b H1) : tT G W m σ H R' :=
  ⟨F, α, env, cs, ab, en, (Post.bind po).imp fun F' α' H' cs' b s p a q => k F' α' H' cs' b s p a (en.mono s p) q⟩
end
end PV
end

section
set_option Elab.async false
set_option linter.all false
set_option maxRecDepth 100000
set_option maxHeartbeats 1000000
set_option autoImplicit false
/-! Freezing; operations by values. -/
namespace PV
open PySem PySem.Spec PyProof.Rows L2
section
variable {G : Gt} {F F' F'' H H' : Hp} {α α' α'' : List Addr} {cs : Cells}
theorem nodup_at {n m : Nat} {a : Addr} (nd : α.Nodup) (h : α[n]? = some a) (k : α[m]? = some a) : n = m := by
  obtain ⟨h1, e1⟩ := List.getElem?_eq_some_iff.mp h
  obtain ⟨h2, e2⟩ := List.getElem?_eq_some_iff.mp k
  exact (List.getElem_inj nd).mp (e1.trans e2.symm)
theorem HoR.rep {d : D} {o : HO} {a : Addr} (h : HoR G F d o) (e : F a = some o) : Rep G F d (.ref a) := by
  cases d with
  | lst xs => obtain ⟨vs, rfl, r⟩ := h; exact ⟨a, vs, rfl, e, r⟩
  | _ => exact h.elim
theorem fz_ok (ab : Ab G F α H cs) {d : D} {v : V} (r : RepV G F α d v) : ∃ F', Same F F' ∧ Ab G F' α H (fz d cs).2 ∧ Rep G F' (fz d cs).1 v := by
  cases d with
  | own n =>
    obtain ⟨a, e, rfl⟩ := r
    have hn : n < cs.length := by rw [← ab.len]; exact (List.getElem?_eq_some_iff.mp e).1
    have ec : cs[n]? = some cs[n] := List.getElem?_eq_getElem hn
    have ef : fz (.own n) cs = (cs[n].d, cs.set n ⟨false, cs[n].d⟩) := by simp only [fz, ec]
    rw [ef]
    obtain ⟨o, h1, h2, h3, h4⟩ := (ab.cell n a _ e ec).ho
    have stp : ∀ F', Same F F' → F' a = some o → (∀ m b, α[m]? = some b → m ≠ n → F' b = F b) → Same F' H → Ab G F' α H (cs.set n ⟨false, cs[n].d⟩) := fun F' s ea out sub => by
      refine ⟨sub, by simpa using ab.len, ab.nd, fun m b c eb ecm => ?_⟩
      by_cases hm : m = n
      · subst hm
        rw [List.getElem?_set_self hn] at ecm
        cases ecm
        rw [e] at eb; cases eb
        exact ⟨⟨o, h1, h2.mono s, fun z => Bool.noConfusion z, fun _ => ea⟩⟩
      · rw [List.getElem?_set_ne (Ne.symm hm)] at ecm
        obtain ⟨o', k1, k2, k3, k4⟩ := (ab.cell m b c eb ecm).ho
        have z := out m b eb hm
        exact ⟨⟨o', k1, k2.mono s, fun q => by rw [z]; exact k3 q, fun q => by rw [z]; exact k4 q⟩⟩
    cases hmu : cs[n].mu with
    | false => exact ⟨F, same_rf, stp F same_rf (h4 hmu) (fun _ _ _ _ => rfl) ab.sub, h2.rep (h4 hmu)⟩
    | true =>
      have hF := h3 hmu
      refine ⟨upd F a o, same_up hF, stp _ (same_up hF) upd_same (fun m b eb hm => upd_ne fun z => ?_) (fun b u q => ?_), (h2.mono (same_up hF)).rep upd_same⟩
      · subst z; exact hm (nodup_at ab.nd eb e)
      · by_cases hb : b = a
        · subst hb; rw [upd_same] at q; rw [h1]; exact q
        · rw [upd_ne hb] at q; exact ab.sub _ _ q
  | _ => exact ⟨F, same_rf, ab, r⟩
theorem fzs_ok : ∀ {ds : List D} {vs : List V} {F : Hp} {cs : Cells}, Ab G F α H cs → RepVs G F α ds vs → ∃ F', Same F F' ∧ Ab G F' α H (fzs ds cs).2 ∧ Reps G F' (fzs ds cs).1 vs
  | [], _, F, cs, ab, r => by cases r; exact ⟨F, same_rf, ab, rfl⟩
  | d :: ds, _, F, cs, ab, r => by
    obtain ⟨v, vr, rfl, r1, r2⟩ := r
    obtain ⟨F1, s1, a1, q1⟩ := fz_ok ab r1
    obtain ⟨F2, s2, a2, q2⟩ := fzs_ok a1 (r2.mono s1 (List.prefix_refl _))
    exact ⟨F2, same_tr s1 s2, a2, v, vr, rfl, Rep.mono s2 _ _ q1, q2⟩
/-- what is wanted of a result made by an operation -/
def NewQ (G : Gt) (F : Hp) (z : D) (H : Hp) (Q : VK) : Prop := match z with
  | .lst zs => ∀ p vs, H p = none → Reps G F zs vs → Q (.ref p) (upd H p (.lst vs))
  | .tup zs => (∀ v, Rep G F (.tup zs) v → Q v H) ∧ ∀ p vs, H p = none → Reps G F zs vs → Q (.ref p) (upd H p (.tup vs))
  | z => ∀ v, Rep G F z v → Q v H
theorem rep_v {d : D} {v : V} (h : Rep G F d v) : RepV G F α d v := by
  cases d with
  | own n => exact False.elim h
  | _ => exact h
/-- from what is wanted behind, as tF has it -/
theorem newQ_of {W : WX} {σ : L2.St} {Q : VK} {z : D} (ab : Ab G F α H cs) (po : Post G W σ F α (.ok z cs) fun F' α' H' _ d =>
    (isLst d = false → ∀ v, RepV G F' α' d v → Q v H') ∧ ∀ xs p vs, d = .lst xs → F' p = none → p ∉ α' → H' p = some (.lst vs) → Reps G F' xs vs → Q (.ref p) H') : NewQ G F z H Q := by
  cases z with
  | lst zs => exact fun p vs hp r => (po F α _ same_rf (List.prefix_refl _) (ab.idle hp _)).2 zs p vs rfl (same_none ab.sub hp) (ab.ne hp) upd_same r
  | tup zs =>
    refine ⟨fun v r => (po F α H same_rf (List.prefix_refl _) ab).1 rfl v r, fun p vs hp r => ?_⟩
    have s : Same F (upd F p (.tup vs)) := same_up (same_none ab.sub hp)
    exact (po _ α _ s (List.prefix_refl _) (ab.fresh hp _)).1 rfl _ ⟨p, vs, rfl, SqT.of upd_same, Reps.mono s _ _ r⟩
  | _ => exact fun v r => (po F α H same_rf (List.prefix_refl _) ab).1 rfl v (rep_v r)
/-- .. as tE has it -/
theorem newQ_ofE {W : WX} {σ : L2.St} {Q : VK} {z : D} (ab : Ab G F α H cs) (po : Post G W σ F α (.ok z cs) fun F' α' H' _ d => ∀ v, RepV G F' α' d v → Q v H') : NewQ G F z H Q := by
  cases z with
  | lst zs =>
    refine fun p vs hp r => ?_
    have s : Same F (upd F p (.lst vs)) := same_up (same_none ab.sub hp)
    exact po _ α _ s (List.prefix_refl _) (ab.fresh hp _) _ ⟨p, vs, rfl, upd_same, Reps.mono s _ _ r⟩
  | tup zs =>
    refine ⟨fun v r => po F α H same_rf (List.prefix_refl _) ab v r, fun p vs hp r => ?_⟩
    have s : Same F (upd F p (.tup vs)) := same_up (same_none ab.sub hp)
    exact po _ α _ s (List.prefix_refl _) (ab.fresh hp _) _ ⟨p, vs, rfl, SqT.of upd_same, Reps.mono s _ _ r⟩
  | _ => exact fun v r => po F α H same_rf (List.prefix_refl _) ab v (rep_v r)
/-- a list of data repeated -/
theorem Reps.rep {ds : List D} {vs : List V} (h : Reps G F ds vs) : ∀ k : Nat, Reps G F (List.replicate k ds).flatten (List.replicate k vs).flatten
  | 0 => rfl
  | k + 1 => by
    rw [List.replicate_succ, List.replicate_succ, List.flatten_cons, List.flatten_cons]
    exact h.append (h.rep k)
theorem Reps.take : ∀ {ds : List D} {vs : List V} (n : Nat), Reps G F ds vs → Reps G F (ds.take n) (vs.take n)
  | _, _, 0, _ => rfl
  | [], _, _ + 1, h => by cases h; rfl
  | d :: ds, _, n + 1, h => by
    obtain ⟨v, r, rfl, h1, h2⟩ := h
    exact ⟨v, r.take n, rfl, h1, Reps.take n h2⟩
theorem Reps.drop : ∀ {ds : List D} {vs : List V} (n : Nat), Reps G F ds vs → Reps G F (ds.drop n) (vs.drop n)
  | _, _, 0, h => h
  | [], _, _ + 1, h => by cases h; rfl
  | d :: ds, _, n + 1, h => by
    obtain ⟨v, r, rfl, h1, h2⟩ := h
    exact Reps.drop n h2
theorem Reps.reverse : ∀ {ds : List D} {vs : List V}, Reps G F ds vs → Reps G F ds.reverse vs.reverse
  | [], _, h => by cases h; rfl
  | d :: ds, _, h => by
    obtain ⟨v, r, rfl, h1, h2⟩ := h
    rw [List.reverse_cons, List.reverse_cons]
    exact (Reps.reverse h2).append ⟨v, [], rfl, h1, rfl⟩
theorem Reps.set : ∀ {ds : List D} {vs : List V} {d : D} {v : V} (i : Nat), Reps G F ds vs → Rep G F d v → Reps G F (ds.set i d) (vs.set i v)
  | [], _, _, _, _, h, _ => by cases h; rfl
  | _ :: ds, _, _, _, 0, h, k => by
    obtain ⟨v', r, rfl, h1, h2⟩ := h
    exact ⟨_, r, rfl, k, h2⟩
  | _ :: ds, _, _, _, i + 1, h, k => by
    obtain ⟨v', r, rfl, h1, h2⟩ := h
    exact ⟨v', _, rfl, h1, Reps.set i h2 k⟩
theorem Reps.erase : ∀ {ds : List D} {vs : List V} (i : Nat), Reps G F ds vs → Reps G F (ds.eraseIdx i) (vs.eraseIdx i)
  | [], _, _, h => by cases h; rfl
  | _ :: ds, _, 0, h => by
    obtain ⟨v', r, rfl, h1, h2⟩ := h
    exact h2
  | _ :: ds, _, i + 1, h => by
    obtain ⟨v', r, rfl, h1, h2⟩ := h
    exact ⟨v', _, rfl, h1, Reps.erase i h2⟩
theorem Reps.dropLast {ds : List D} {vs : List V} (h : Reps G F ds vs) : Reps G F ds.dropLast vs.dropLast := by
  rw [List.dropLast_eq_take, List.dropLast_eq_take, h.len]
  exact h.take _
theorem Reps.cut {ds : List D} {vs : List V} (h : Reps G F ds vs) (lo hi : Option Int) : Reps G F (cut ds lo hi) (cut vs lo hi) := by
  unfold PV.cut
  rw [h.len]
  exact (h.drop _).take _
theorem sIx_eq (n d : Nat) (o : Option Int) : sIx n d o = HT.sIx n d o := by
  cases o with
  | none => rfl
  | some v => simp only [sIx, HT.sIx]
theorem cut_eq (vs : List V) (lo hi : Option Int) : cut vs lo hi = cutV vs lo hi := by
  unfold cut cutV
  rw [sIx_eq, sIx_eq]
theorem ixN_eq (n : Nat) (i : Int) : ixN n i = L2.ixN n i := rfl
theorem Reps.at' {ds : List D} {vs : List V} {i : Int} {d : D} (h : Reps G F ds vs) (e : at' ds i = some d) : ∃ v, atI vs i = some v ∧ Rep G F d v := by
  unfold PV.at' at e
  rw [h.len] at e
  unfold atI
  rw [← ixN_eq]
  cases hx : ixN vs.length i with
  | none => rw [hx] at e; cases e
  | some j => rw [hx] at e; exact h.get e
end

/-! ### two-place operations -/
def bopOf : Operator → Option Bop
  | .Add => some .add
  | .Sub => some .sub
  | .Mult => some .mul
  | .FloorDiv => some .fdiv
  | .Mod => some .mod
  | .Pow => some .pow
  | _ => none
def rBin (G : Gt) (o : Bop) : R2 := fun x y H Q => ∃ F a b z, Same F H ∧ RepW G F H a x ∧ RepW G F H b y ∧ binD o a b = some z ∧ NewQ G F z H Q
section
variable {X : Cx} {G : Gt} {F H : Hp}
instance (a b : Int) : Decidable (CMulW a b) := inferInstanceAs (Decidable (_ < _))
theorem big_line : 2 * big ≤ sizeLine := by rw [sizeLine_eq]; decide
theorem mulOk_ok {a b : Int} (h : mulOk a b = true) : IntMulOk a b := by
  unfold mulOk at h
  rw [Bool.or_eq_true, Bool.or_eq_true] at h
  rcases h with (h | h) | h
  · have := of_decide_eq_true h
    exact .of_left (intBits_le_64 (by omega) (by omega))
  · have := of_decide_eq_true h
    exact .of_right (intBits_le_64 (by omega) (by omega))
  · have h2 : CMulW a b := of_decide_eq_true h
    exact h2.ok
theorem divOk_ok {b : Int} (h : divOk b = true) : b.natAbs.log2 < 9000 := by
  unfold divOk at h
  rw [Bool.or_eq_true] at h
  rcases h with h | h
  · have := of_decide_eq_true h
    have := PySem.Flt.log2_lt_of (by decide : 0 < 64) this
    omega
  · exact of_decide_eq_true h
theorem op_mulA : OpR X (binaryOp .Mult) (rI (fun i j => mulOk i j = true) fun i j => .int (i * j)) := opI fun _ _ _ _ _ _ _ hc q => mul_int q (mulOk_ok hc)
theorem op_fdivA : OpR X (binaryOp .FloorDiv) (rI (fun _ j => j ≠ 0 ∧ divOk j = true) fun i j => .int (i.fdiv j)) := opI fun _ _ _ _ _ _ _ hc q => floordiv_int hc.1 q (.inl (PyProof.noPylong_of_log2 (divOk_ok hc.2)))
theorem op_modA : OpR X (binaryOp .Mod) (rI (fun _ j => j ≠ 0) fun i j => .int (i.fmod j)) := opI fun _ _ _ _ _ _ _ hc q => mod_int' hc q
theorem op_subB : OpR X (binaryOp .Sub) (fun x y H Q => ∃ a b, x = .bl a ∧ y = .bl b ∧ Q (.int (b2n a - b2n b)) H) := by
  intro pins s σ H x y v u Q I rx ry h
  obtain ⟨a, b, rfl, rfl, q⟩ := h
  cases rx
  cases ry
  exact PyProof.Rows.sub_bool ⟨.int _, H, I.tok _, ⟨_, rfl⟩, q⟩
theorem op_bin (hK : X.K = G.K) {op : Operator} {o : Bop} (ho : bopOf op = some o) : OpR X (binaryOp op) (rBin G o) := by
  intro pins s σ H x y v u Q I rx ry h
  obtain ⟨F, a, b, z, sub, ra, rb, e, q⟩ := h
  have hbl := big_line
  have hsl := sizeLine_eq
  cases op <;> simp only [bopOf, Option.some.injEq, reduceCtorEq] at ho <;> subst ho
  case Add =>
    cases a <;> cases b <;> simp only [binD, reduceCtorEq] at e
    case int.int i j =>
      obtain rfl := Option.some.inj e
      obtain rfl : x = .int i := ra
      obtain rfl : y = .int j := rb
      exact op_add pins s σ H _ _ v u Q I rx ry ⟨i, j, rfl, rfl, q _ rfl⟩
    case lst.lst xs ys =>
      split at e
      · next hl =>
        obtain rfl := Option.some.inj e
        obtain ⟨p1, vs1, rfl, h1, r1⟩ := ra
        obtain ⟨p2, vs2, rfl, h2, r2⟩ := rb
        have l1 := r1.len
        have l2 := r2.len
        exact op_cat pins s σ H _ _ v u Q I rx ry ⟨p1, p2, vs1, vs2, rfl, rfl, h1, h2, by omega, fun p hp => q p _ hp (r1.append r2)⟩
      · cases e
    case tup.tup xs ys =>
      split at e
      · next hl =>
        obtain rfl := Option.some.inj e
        have ra' := ra
        have rb' := rb
        obtain ⟨p1, vs1, rfl, h1, r1⟩ := ra
        obtain ⟨p2, vs2, rfl, h2, r2⟩ := rb
        have k1 := Same.sqT sub h1
        have k2 := Same.sqT sub h2
        rw [← hK] at k1 k2
        have l1 := r1.len
        have l2 := r2.len
        refine op_catA pins s σ H _ _ v u Q I rx ry ⟨p1, p2, vs1, vs2, rfl, rfl, k1, k2, by omega, fun e1 => ?_, fun e1 e2 => ?_, fun e1 e2 p hp => q.2 p _ hp (r1.append r2)⟩
        · subst e1
          have ex : xs = [] := List.eq_nil_of_length_eq_zero l1
          subst ex
          exact q.1 _ (by rw [List.nil_append]; exact rb')
        · subst e2
          have ey : ys = [] := List.eq_nil_of_length_eq_zero l2
          subst ey
          exact q.1 _ (by rw [List.append_nil]; exact ra')
      · cases e
  case Sub =>
    cases a <;> cases b <;> simp only [binD, reduceCtorEq] at e
    case int.int i j =>
      obtain rfl := Option.some.inj e
      obtain rfl : x = .int i := ra
      obtain rfl : y = .int j := rb
      exact op_sub pins s σ H _ _ v u Q I rx ry ⟨i, j, rfl, rfl, q _ rfl⟩
    case bl.bl i j =>
      obtain rfl := Option.some.inj e
      obtain rfl : x = .bl i := ra
      obtain rfl : y = .bl j := rb
      exact op_subB pins s σ H _ _ v u Q I rx ry ⟨i, j, rfl, rfl, q _ rfl⟩
  case Mult =>
    cases a <;> cases b <;> simp only [binD, reduceCtorEq] at e
    case int.int i j =>
      split at e
      · next hl =>
        obtain rfl := Option.some.inj e
        obtain rfl : x = .int i := ra
        obtain rfl : y = .int j := rb
        exact op_mulA pins s σ H _ _ v u Q I rx ry ⟨i, j, rfl, rfl, hl, q _ rfl⟩
      · cases e
    case lst.int xs k =>
      split at e
      · next hl =>
        obtain rfl := Option.some.inj e
        obtain ⟨p1, vs1, rfl, h1, r1⟩ := ra
        obtain rfl : y = .int k := rb
        have l1 := r1.len
        refine op_rep pins s σ H _ _ v u Q I rx ry ⟨p1, k, vs1, rfl, rfl, h1, by omega, by omega, ?_, fun p hp => q p _ hp (r1.rep _)⟩
        have z : vs1.length * k.toNat ≤ 1000 * 100 := Nat.mul_le_mul (by omega) (by omega)
        omega
      · cases e
    case tup.int xs k =>
      split at e
      · next hl =>
        obtain rfl := Option.some.inj e
        obtain ⟨p1, vs1, rfl, h1, r1⟩ := ra
        obtain rfl : y = .int k := rb
        have l1 := r1.len
        have k1 := Same.sqT sub h1
        rw [← hK] at k1
        refine op_repT pins s σ H _ _ v u Q I rx ry ⟨p1, k, vs1, rfl, rfl, k1, fun z => hl.2.1 ?_, by omega, by omega, by omega, fun p hp => q.2 p _ hp (r1.rep _)⟩
        subst z
        exact List.eq_nil_of_length_eq_zero l1
      · cases e
  case FloorDiv =>
    cases a <;> cases b <;> simp only [binD, reduceCtorEq] at e
    case int.int i j =>
      obtain rfl : x = .int i := ra
      obtain rfl : y = .int j := rb
      split at e
      · next hl =>
        split at e
        · next hd =>
          obtain rfl := Option.some.inj e
          exact op_fdivA pins s σ H _ _ v u Q I rx ry ⟨i, j, rfl, rfl, ⟨by omega, hd⟩, q _ (show V.int (i.fdiv j) = V.int (i / j) by rw [Int.fdiv_eq_ediv_of_nonneg i (by omega)])⟩
        · cases e
      · split at e
        · split at e
          · next hd =>
            obtain rfl := Option.some.inj e
            exact op_fdivA pins s σ H _ _ v u Q I rx ry ⟨i, j, rfl, rfl, ⟨by omega, hd⟩, q _ rfl⟩
          · cases e
        · cases e
  case Mod =>
    cases a <;> cases b <;> simp only [binD, reduceCtorEq] at e
    case int.int i j =>
      obtain rfl : x = .int i := ra
      obtain rfl : y = .int j := rb
      split at e
      · next hl =>
        obtain rfl := Option.some.inj e
        exact op_modA pins s σ H _ _ v u Q I rx ry ⟨i, j, rfl, rfl, by omega, q _ (show V.int (i.fmod j) = V.int (i % j) by rw [Int.fmod_eq_emod_of_nonneg i (by omega)])⟩
      · split at e
        · obtain rfl := Option.some.inj e
          exact op_modA pins s σ H _ _ v u Q I rx ry ⟨i, j, rfl, rfl, by omega, q _ rfl⟩
        · cases e
  case Pow =>
    cases a <;> cases b <;> simp only [binD, reduceCtorEq] at e
    case int.int i j =>
      obtain rfl : x = .int i := ra
      obtain rfl : y = .int j := rb
      split at e
      · next hl =>
        obtain rfl := Option.some.inj e
        exact op_pow pins s σ H _ _ v u Q I rx ry ⟨i, j, rfl, rfl, ⟨hl.1, by omega, hl.2.2⟩, q _ rfl⟩
      · cases e

/-! ### comparisons -/
mutual
theorem Rep.dp (hs : Same F H) : ∀ (d : D) (v : V) (p : PyData), Rep G F d v → D.py d = some p → Dp G.K H v p
  | .non, _, _, h, e => by simp only [D.py, Option.some.injEq] at e; subst e; cases h; exact .non
  | .bl b, _, _, h, e => by simp only [D.py, Option.some.injEq] at e; subst e; cases h; exact .bl b
  | .int i, _, _, h, e => by simp only [D.py, Option.some.injEq] at e; subst e; cases h; exact .int i
  | .str x, _, _, h, e => by simp only [D.py, Option.some.injEq] at e; subst e; cases h; exact .str x
  | .tup xs, _, _, h, e => by
    simp only [D.py] at e
    cases hx : D.pys xs with
    | none => rw [hx] at e; cases e
    | some ys =>
      rw [hx] at e; cases e
      obtain ⟨a, vs, rfl, q, r⟩ := h
      exact .tup (Same.sqT hs q) (Reps.dp hs xs vs ys r hx)
  | .lst xs, _, _, h, e => by
    simp only [D.py] at e
    cases hx : D.pys xs with
    | none => rw [hx] at e; cases e
    | some ys =>
      rw [hx] at e; cases e
      obtain ⟨a, vs, rfl, q, r⟩ := h
      exact .lst (SqL.of (hs _ _ q)) (Reps.dp hs xs vs ys r hx)
  | .dic _, _, _, h, _ => h.elim
  | .fn _, _, _, _, e => by simp only [D.py, reduceCtorEq] at e
  | .ty _, _, _, _, e => by simp only [D.py, reduceCtorEq] at e
  | .own _, _, _, _, e => by simp only [D.py, reduceCtorEq] at e
  | .scr _, _, _, _, e => by simp only [D.py, reduceCtorEq] at e
theorem Reps.dp (hs : Same F H) : ∀ (ds : List D) (vs : List V) (ps : List PyData), Reps G F ds vs → D.pys ds = some ps → DpAll G.K H vs ps
  | [], _, _, h, e => by simp only [D.pys, Option.some.injEq] at e; subst e; cases h; exact .nil
  | d :: ds, _, _, h, e => by
    obtain ⟨v, r, rfl, h1, h2⟩ := h
    simp only [D.pys] at e
    cases hd : D.py d with
    | none => rw [hd] at e; cases e
    | some p =>
      rw [hd] at e
      simp only at e
      cases hx : D.pys ds with
      | none => rw [hx] at e; cases e
      | some ps =>
        rw [hx] at e; cases e
        exact .cons (Rep.dp hs d v p h1 hd) (Reps.dp hs ds r ps h2 hx)
end
theorem RepW.dp (hs : Same F H) {d : D} {v : V} {p : PyData} (h : RepW G F H d v) (e : D.py d = some p) : Dp G.K H v p := by
  cases d with
  | lst xs =>
    simp only [D.py] at e
    cases hx : D.pys xs with
    | none => rw [hx] at e; cases e
    | some ys =>
      rw [hx] at e; cases e
      obtain ⟨a, vs, rfl, q, r⟩ := h
      exact .lst (SqL.of q) (Reps.dp hs xs vs ys r hx)
  | _ => exact Rep.dp hs _ _ _ h e
theorem eqD_inv {a b : D} {c : Bool} (h : eqD a b = some c) : ∃ p q, a.py = some p ∧ b.py = some q ∧ SeqAt.shaped p = true ∧ SeqAt.shaped q = true ∧ c = PyData.eqv p q := by
  have gen : ∀ {a b : D}, (match a.py, b.py with
    | some a, some b => if SeqAt.shaped a && SeqAt.shaped b then some (PyData.eqv a b) else none
    | _, _ => none) = some c → ∃ p q, a.py = some p ∧ b.py = some q ∧ SeqAt.shaped p = true ∧ SeqAt.shaped q = true ∧ c = PyData.eqv p q := fun {a b} h => by
    cases ha : a.py with
    | none => rw [ha] at h; cases h
    | some p =>
      cases hb : b.py with
      | none => rw [ha, hb] at h; cases h
      | some q =>
        rw [ha, hb] at h
        simp only at h
        split at h
        · next hs =>
          rw [Bool.and_eq_true] at hs
          cases h
          exact ⟨p, q, rfl, rfl, hs.1, hs.2, rfl⟩
        · cases h
  unfold eqD at h
  split at h
  · cases h
    exact ⟨_, _, rfl, rfl, rfl, rfl, by simp [PyData.eqv]⟩
  · exact gen h
def rCmp (G : Gt) (o : Cop) : R2 := fun x y H Q => ∃ F a b c, Same F H ∧ RepW G F H a x ∧ RepW G F H b y ∧ cmpD o a b = some c ∧ Q (.bl c) H
def copOf : CmpOp → Option Cop
  | .Eq => some .eq
  | .NotEq => some .ne
  | .Lt => some .lt
  | .LtE => some .le
  | .Gt => some .gt
  | .GtE => some .ge
  | .In => some .isin
  | .NotIn => some .notin
  | _ => none
theorem ltD_inv {a b : D} {c : Bool} (h : ltD a b = some c) : ∃ i j, a = .int i ∧ b = .int j ∧ c = decide (i < j) := by
  cases a <;> cases b <;> simp only [ltD, reduceCtorEq, Option.some.injEq] at h
  subst h
  exact ⟨_, _, rfl, rfl, rfl⟩
theorem anyEq_eq (d : PyData) : ∀ es : List PyData, anyEq d es = es.any fun z => PyData.eqv z d
  | [] => rfl
  | z :: zs => by
    show (PyData.eqv z d || anyEq d zs) = _
    rw [List.any_cons, anyEq_eq d zs]
/-- x in a list, in a tuple, of data -/
theorem op_inA (hu : X.A.units + 65 < cLine) : OpR X (compareOp .In) (fun x y H Q => ∃ d ds, Dp X.K H x d ∧ (Dp X.K H y (.list ds) ∨ Dp X.K H y (.tuple ds)) ∧ SeqAt.shaped d = true ∧ SeqAt.shaped (.list ds) = true ∧ Q (.bl (ds.any fun z => PyData.eqv z d)) H) := by
  intro pins s σ H x y v u Q I rx ry h
  obtain ⟨d, ds, hd, he, sd, se, q⟩ := h
  rcases he with he | he
  · exact op_inD hu pins s σ H x y v u Q I rx ry ⟨d, ds, hd, he, sd, se, q⟩
  · obtain ⟨as, r1⟩ := Dp.reads I d x v hd rx
    obtain ⟨bs, r2⟩ := Dp.reads I (.tuple ds) y u he ry
    exact SeqAt.in_tuple_reads r2 r1 (SeqAt.canLay_of_shaped se) (SeqAt.canLay_of_shaped sd) (PyProof.Rows.room_in_shaped sd hu) ⟨.bl _, H, I, rfl, q⟩
theorem op_notInA (hu : X.A.units + 65 < cLine) : OpR X (compareOp .NotIn) (fun x y H Q => ∃ d ds, Dp X.K H x d ∧ (Dp X.K H y (.list ds) ∨ Dp X.K H y (.tuple ds)) ∧ SeqAt.shaped d = true ∧ SeqAt.shaped (.list ds) = true ∧ Q (.bl (!ds.any fun z => PyData.eqv z d)) H) := by
  intro pins s σ H x y v u Q I rx ry h
  obtain ⟨d, ds, hd, he, sd, se, q⟩ := h
  rcases he with he | he
  · exact op_notInD hu pins s σ H x y v u Q I rx ry ⟨d, ds, hd, he, sd, se, q⟩
  · obtain ⟨as, r1⟩ := Dp.reads I d x v hd rx
    obtain ⟨bs, r2⟩ := Dp.reads I (.tuple ds) y u he ry
    exact SeqAt.notIn_tuple_reads r2 r1 (SeqAt.canLay_of_shaped se) (SeqAt.canLay_of_shaped sd) (PyProof.Rows.room_in_shaped sd hu) ⟨.bl _, H, I, rfl, q⟩
theorem isInD_inv {a b : D} {c : Bool} (h : isInD a b = some c) : ∃ p ds es, a.py = some p ∧ (b = .lst ds ∨ b = .tup ds) ∧ D.pys ds = some es ∧ SeqAt.shaped p = true ∧ SeqAt.shaped (.list es) = true ∧ c = es.any fun z => PyData.eqv z p := by
  have gen : ∀ {ds : List D}, (match a.py, D.pys ds with
    | some d, some es => if SeqAt.shaped d && SeqAt.shaped (.list es) then some (anyEq d es) else none
    | _, _ => none) = some c → ∃ p es, a.py = some p ∧ D.pys ds = some es ∧ SeqAt.shaped p = true ∧ SeqAt.shaped (.list es) = true ∧ c = es.any fun z => PyData.eqv z p := fun {ds} h => by
    cases ha : a.py with
    | none => rw [ha] at h; cases h
    | some p =>
      cases hb : D.pys ds with
      | none => rw [ha, hb] at h; cases h
      | some q =>
        rw [ha, hb] at h
        simp only at h
        split at h
        · next hs =>
          rw [Bool.and_eq_true] at hs
          cases h
          exact ⟨p, q, rfl, rfl, hs.1, hs.2, anyEq_eq _ _⟩
        · cases h
  cases b <;> simp only [isInD, reduceCtorEq] at h
  · obtain ⟨p, es, h1, h2, h3⟩ := gen h
    exact ⟨p, _, es, h1, .inr rfl, h2, h3⟩
  · obtain ⟨p, es, h1, h2, h3⟩ := gen h
    exact ⟨p, _, es, h1, .inl rfl, h2, h3⟩
theorem py_seq {ds : List D} {es : List PyData} {b : D} {y : V} (hs : Same F H) (h : b = .lst ds ∨ b = .tup ds) (e : D.pys ds = some es) (r : RepW G F H b y) : Dp G.K H y (.list es) ∨ Dp G.K H y (.tuple es) := by
  rcases h with rfl | rfl
  · exact .inl (r.dp hs (by simp only [D.py, e]))
  · exact .inr (r.dp hs (by simp only [D.py, e]))
theorem op_cmp (hK : X.K = G.K) (hu : X.A.units + 65 < cLine) {op : CmpOp} {o : Cop} (ho : copOf op = some o) : OpR X (compareOp op) (rCmp G o) := by
  intro pins s σ H x y v u Q I rx ry h
  obtain ⟨F, a, b, c, sub, ra, rb, e, q⟩ := h
  cases op <;> simp only [copOf, Option.some.injEq, reduceCtorEq] at ho <;> subst ho <;> simp only [cmpD] at e
  case Eq =>
    obtain ⟨p1, p2, e1, e2, s1, s2, rfl⟩ := eqD_inv e
    exact op_eqD (by omega) pins s σ H x y v u Q I rx ry ⟨p1, p2, by rw [hK]; exact ra.dp sub e1, by rw [hK]; exact rb.dp sub e2, s1, s2, q⟩
  case NotEq =>
    rw [Option.map_eq_some_iff] at e
    obtain ⟨c', e, rfl⟩ := e
    obtain ⟨p1, p2, e1, e2, s1, s2, rfl⟩ := eqD_inv e
    exact op_neD (by omega) pins s σ H x y v u Q I rx ry ⟨p1, p2, by rw [hK]; exact ra.dp sub e1, by rw [hK]; exact rb.dp sub e2, s1, s2, q⟩
  case Lt =>
    obtain ⟨i, j, rfl, rfl, rfl⟩ := ltD_inv e
    obtain rfl : x = .int i := ra
    obtain rfl : y = .int j := rb
    exact op_lt pins s σ H _ _ v u Q I rx ry ⟨i, j, rfl, rfl, q⟩
  case LtE =>
    cases a <;> cases b <;> simp only [reduceCtorEq, Option.some.injEq] at e
    subst e
    cases ra
    cases rb
    exact op_le pins s σ H _ _ v u Q I rx ry ⟨_, _, rfl, rfl, q⟩
  case Gt =>
    obtain ⟨i, j, rfl, rfl, rfl⟩ := ltD_inv e
    obtain rfl : x = .int j := ra
    obtain rfl : y = .int i := rb
    exact op_gt pins s σ H _ _ v u Q I rx ry ⟨j, i, rfl, rfl, q⟩
  case GtE =>
    cases a <;> cases b <;> simp only [reduceCtorEq, Option.some.injEq] at e
    subst e
    cases ra
    cases rb
    exact op_ge pins s σ H _ _ v u Q I rx ry ⟨_, _, rfl, rfl, q⟩
  case In =>
    obtain ⟨p, ds, es, e1, e2, e3, s1, s2, rfl⟩ := isInD_inv e
    exact op_inA hu pins s σ H x y v u Q I rx ry ⟨p, es, by rw [hK]; exact ra.dp sub e1, by rw [hK]; exact py_seq sub e2 e3 rb, s1, s2, q⟩
  case NotIn =>
    rw [Option.map_eq_some_iff] at e
    obtain ⟨c', e, rfl⟩ := e
    obtain ⟨p, ds, es, e1, e2, e3, s1, s2, rfl⟩ := isInD_inv e
    exact op_notInA hu pins s σ H x y v u Q I rx ry ⟨p, es, by rw [hK]; exact ra.dp sub e1, by rw [hK]; exact py_seq sub e2 e3 rb, s1, s2, q⟩
/-- truth -/
theorem tru_rep (sub : Same F H) {d : D} {x : V} {k : Bool} (r : RepW G F H d x) (e : truD d = some k) : TruV G.K x H k := by
  have hbl := big_line
  have hsl := sizeLine_eq
  cases d <;> simp only [truD, Option.some.injEq, reduceCtorEq] at e
  case str z =>
    split at e
    · next hz =>
      cases e
      cases r
      exact ⟨show z.cps.size ≤ sizeLine by omega, by show (z.cps.size != 0) = ((z.cps.size : Int) != 0); rw [Bool.eq_iff_iff]; simp⟩
    · cases e
  all_goals subst e
  case non => cases r; exact rfl
  case bl b => cases r; exact rfl
  case int i => cases r; exact rfl
  case tup xs =>
    obtain ⟨a, vs, rfl, h, q⟩ := r
    refine .inr (.inl ⟨vs, Same.sqT sub h, ?_⟩)
    have := q.len
    cases xs <;> cases vs <;> simp_all
  case lst xs =>
    obtain ⟨a, vs, rfl, h, q⟩ := r
    refine .inl ⟨vs, SqL.of h, ?_⟩
    have := q.len
    cases xs <;> cases vs <;> simp_all
  case scr xs =>
    obtain ⟨a, vs, rfl, h, q⟩ := r
    refine .inl ⟨vs, Same.sqL sub h, ?_⟩
    have := q.len
    cases xs <;> cases vs <;> simp_all

/-! ### built-ins -/
def RepWs (G : Gt) (F H : Hp) : List D → List V → Prop
  | [], vs => vs = []
  | d :: ds, vs => ∃ v r, vs = v :: r ∧ RepW G F H d v ∧ RepWs G F H ds r
theorem RepVs.views {α : List Addr} {cs : Cells} (ab : Ab G F α H cs) : ∀ {ds : List D} {vs : List V}, RepVs G F α ds vs → RepWs G F H (ds.map (view cs)) vs
  | [], _, h => h
  | d :: ds, _, h => by
    obtain ⟨v, r, rfl, h1, h2⟩ := h
    exact ⟨v, r, rfl, h1.view ab, RepVs.views ab h2⟩
theorem RepWs.one {d : D} {vs : List V} (h : RepWs G F H [d] vs) : ∃ v, vs = [v] ∧ RepW G F H d v := by
  obtain ⟨v, r, rfl, h1, rfl⟩ := h
  exact ⟨v, rfl, h1⟩
theorem RepWs.two {d e : D} {vs : List V} (h : RepWs G F H [d, e] vs) : ∃ v u, vs = [v, u] ∧ RepW G F H d v ∧ RepW G F H e u := by
  obtain ⟨v, r, rfl, h1, h2⟩ := h
  obtain ⟨u, rfl, h3⟩ := h2.one
  exact ⟨v, u, rfl, h1, h3⟩
def Bi.val : Bi → Value
  | .len => .builtin "len"
  | .abs => .builtin "abs"
  | .int => .type "int"
  | .list => .type "list"
  | .tuple => .type "tuple"
  | .max2 => .builtin "max"
  | .min2 => .builtin "min"
  | .all => .builtin "all"
  | .any => .builtin "any"
  | .sum => .builtin "sum"
  | .max1 => .builtin "max"
  | .min1 => .builtin "min"
def Bi.nm : Bi → String
  | .len => "len"
  | .abs => "abs"
  | .int => "int"
  | .list => "list"
  | .tuple => "tuple"
  | .max2 => "max"
  | .min2 => "min"
  | .all => "all"
  | .any => "any"
  | .sum => "sum"
  | .max1 => "max"
  | .min1 => "min"
def rBi (G : Gt) (b : Bi) : List V → Hp → VK → Prop := fun xs H Q => ∃ F as z, Same F H ∧ RepWs G F H as xs ∧ biD b as = some z ∧ NewQ G F z H Q
theorem allBl_inv : ∀ {xs : List D} {c : Bool}, allBl xs = some c → ∃ bs : List Bool, xs = bs.map D.bl ∧ c = bs.all id
  | [], c, h => by simp only [allBl, Option.some.injEq] at h; subst h; exact ⟨[], rfl, rfl⟩
  | x :: xs, c, h => by
    cases x <;> simp only [allBl, reduceCtorEq] at h
    next b =>
      cases hr : allBl xs with
      | none => rw [hr] at h; cases h
      | some c' =>
        rw [hr] at h
        cases h
        obtain ⟨bs, rfl, rfl⟩ := allBl_inv hr
        exact ⟨b :: bs, rfl, rfl⟩
theorem anyBl_inv : ∀ {xs : List D} {c : Bool}, anyBl xs = some c → ∃ bs : List Bool, xs = bs.map D.bl ∧ c = bs.any id
  | [], c, h => by simp only [anyBl, Option.some.injEq] at h; subst h; exact ⟨[], rfl, rfl⟩
  | x :: xs, c, h => by
    cases x <;> simp only [anyBl, reduceCtorEq] at h
    next b =>
      cases hr : anyBl xs with
      | none => rw [hr] at h; cases h
      | some c' =>
        rw [hr] at h
        cases h
        obtain ⟨bs, rfl, rfl⟩ := anyBl_inv hr
        exact ⟨b :: bs, rfl, rfl⟩
theorem intsD_inv : ∀ {xs : List D} {is : List Int}, intsD xs = some is → xs = is.map D.int
  | [], is, h => by simp only [intsD, Option.some.injEq] at h; subst h; rfl
  | x :: xs, is, h => by
    cases x <;> simp only [intsD, reduceCtorEq] at h
    next b =>
      cases hr : intsD xs with
      | none => rw [hr] at h; cases h
      | some c' =>
        rw [hr] at h
        cases h
        rw [intsD_inv hr]
        rfl
theorem Reps.bls : ∀ {bs : List Bool} {vs : List V}, Reps G F (bs.map D.bl) vs → vs = bs.map V.bl
  | [], _, h => h
  | b :: bs, _, h => by
    obtain ⟨v, r, rfl, h1, h2⟩ := h
    cases h1
    rw [Reps.bls h2]
    rfl
theorem Reps.ints : ∀ {bs : List Int} {vs : List V}, Reps G F (bs.map D.int) vs → vs = bs.map V.int
  | [], _, h => h
  | b :: bs, _, h => by
    obtain ⟨v, r, rfl, h1, h2⟩ := h
    cases h1
    rw [Reps.ints h2]
    rfl
theorem sumI_eq : ∀ is : List Int, sumI is = is.sum
  | [] => rfl
  | i :: is => by
    show i + sumI is = _
    rw [sumI_eq is, List.sum_cons]
theorem maxI_mem : ∀ (is : List Int) (m : Int), (maxI m is = m ∨ maxI m is ∈ is) ∧ m ≤ maxI m is ∧ ∀ y ∈ is, y ≤ maxI m is
  | [], m => ⟨.inl rfl, Int.le_refl _, fun _ h => nomatch h⟩
  | x :: xs, m => by
    obtain ⟨h1, h2, h3⟩ := maxI_mem xs (if m < x then x else m)
    show (maxI (if m < x then x else m) xs = m ∨ maxI (if m < x then x else m) xs ∈ x :: xs) ∧ _ ≤ maxI (if m < x then x else m) xs ∧ ∀ y ∈ x :: xs, y ≤ maxI (if m < x then x else m) xs
    generalize maxI (if m < x then x else m) xs = M at h1 h2 h3
    by_cases h : m < x
    · rw [if_pos h] at h1 h2
      refine ⟨.inr ?_, by omega, fun y hy => ?_⟩
      · rcases h1 with h1 | h1
        · rw [h1]; exact List.mem_cons_self
        · exact List.mem_cons_of_mem _ h1
      · rcases List.mem_cons.mp hy with rfl | hy
        · exact h2
        · exact h3 y hy
    · rw [if_neg h] at h1 h2
      refine ⟨?_, h2, fun y hy => ?_⟩
      · rcases h1 with h1 | h1
        · exact .inl h1
        · exact .inr (List.mem_cons_of_mem _ h1)
      · rcases List.mem_cons.mp hy with rfl | hy
        · omega
        · exact h3 y hy
theorem minI_mem : ∀ (is : List Int) (m : Int), (minI m is = m ∨ minI m is ∈ is) ∧ minI m is ≤ m ∧ ∀ y ∈ is, minI m is ≤ y
  | [], m => ⟨.inl rfl, Int.le_refl _, fun _ h => nomatch h⟩
  | x :: xs, m => by
    obtain ⟨h1, h2, h3⟩ := minI_mem xs (if x < m then x else m)
    show (minI (if x < m then x else m) xs = m ∨ minI (if x < m then x else m) xs ∈ x :: xs) ∧ minI (if x < m then x else m) xs ≤ _ ∧ ∀ y ∈ x :: xs, minI (if x < m then x else m) xs ≤ y
    generalize minI (if x < m then x else m) xs = M at h1 h2 h3
    by_cases h : x < m
    · rw [if_pos h] at h1 h2
      refine ⟨.inr ?_, by omega, fun y hy => ?_⟩
      · rcases h1 with h1 | h1
        · rw [h1]; exact List.mem_cons_self
        · exact List.mem_cons_of_mem _ h1
      · rcases List.mem_cons.mp hy with rfl | hy
        · exact h2
        · exact h3 y hy
    · rw [if_neg h] at h1 h2
      refine ⟨?_, h2, fun y hy => ?_⟩
      · rcases h1 with h1 | h1
        · exact .inl h1
        · exact .inr (List.mem_cons_of_mem _ h1)
      · rcases List.mem_cons.mp hy with rfl | hy
        · omega
        · exact h3 y hy
/-- sum of a tuple -/
theorem call_bi (hK : X.K = G.K) (hc : X.calm = true) (b : Bi) : CallR X b.val (rBi G b) := by
  intro pins s σ H xs us Q I r h
  obtain ⟨F, as, z, sub, ra, e, q⟩ := h
  have hbl := big_line
  have hsl := sizeLine_eq
  unfold biD at e
  split at e
  all_goals try cases e
  · obtain ⟨v, rfl, p, vs, rfl, h1, r1⟩ := ra.one
    exact call_len_seq pins s σ H _ us Q I r ⟨p, vs, rfl, .inl (SqL.of h1), q _ (by rw [← r1.len]; rfl)⟩
  · obtain ⟨v, rfl, p, vs, rfl, h1, r1⟩ := ra.one
    exact call_len_seq pins s σ H _ us Q I r ⟨p, vs, rfl, .inr (by rw [hK]; exact Same.sqT sub h1), q _ (by rw [← r1.len]; rfl)⟩
  · obtain ⟨v, rfl, p, vs, rfl, h1, r1⟩ := ra.one
    exact call_len_seq pins s σ H _ us Q I r ⟨p, vs, rfl, .inl (by rw [hK]; exact Same.sqL sub h1), q _ (by rw [← r1.len]; rfl)⟩
  · split at e
    · cases e
      obtain ⟨v, rfl, rfl⟩ := ra.one
      exact call_len_str pins s σ H _ us Q I r ⟨_, rfl, show _ ≤ _ by show Str.length _ ≤ _; unfold Str.length; omega, q _ rfl⟩
    · cases e
  · obtain ⟨v, rfl, rfl⟩ := ra.one
    exact call_abs pins s σ H _ us Q I r ⟨_, rfl, q _ rfl⟩
  · obtain ⟨v, rfl, rfl⟩ := ra.one
    exact call_int1 pins s σ H _ us Q I r (.inl ⟨_, rfl, q _ rfl⟩)
  · obtain ⟨v, rfl, rfl⟩ := ra.one
    exact call_int1 pins s σ H _ us Q I r (.inr ⟨_, rfl, q _ rfl⟩)
  · obtain ⟨v, rfl, p, vs, rfl, h1, r1⟩ := ra.one
    exact call_list_of pins s σ H _ us Q I r ⟨p, vs, rfl, .inl (SqL.of h1), fun l hl => q l vs hl r1⟩
  · obtain ⟨v, rfl, p, vs, rfl, h1, r1⟩ := ra.one
    exact call_list_of pins s σ H _ us Q I r ⟨p, vs, rfl, .inr (by rw [hK]; exact Same.sqT sub h1), fun l hl => q l vs hl r1⟩
  · obtain ⟨v, rfl, p, vs, rfl, h1, r1⟩ := ra.one
    exact call_list_of pins s σ H _ us Q I r ⟨p, vs, rfl, .inl (by rw [hK]; exact Same.sqL sub h1), fun l hl => q l vs hl r1⟩
  · obtain ⟨v, rfl, p, vs, rfl, h1, r1⟩ := ra.one
    exact call_tuple_of pins s σ H _ us Q I r ⟨p, vs, rfl, .inl ⟨SqL.of h1, fun l hl => q.2 l vs hl r1⟩⟩
  · obtain ⟨v, rfl, p, vs, rfl, h1, r1⟩ := ra.one
    exact call_tuple_of pins s σ H _ us Q I r ⟨p, vs, rfl, .inr ⟨by rw [hK]; exact Same.sqT sub h1, q.1 _ ⟨p, vs, rfl, h1, r1⟩⟩⟩
  · obtain ⟨v, u, rfl, rfl, rfl⟩ := ra.two
    exact call_max2 hc pins s σ H _ us Q I r ⟨_, _, rfl, q _ rfl⟩
  · obtain ⟨v, u, rfl, rfl, rfl⟩ := ra.two
    exact call_min2 hc pins s σ H _ us Q I r ⟨_, _, rfl, q _ rfl⟩
  · obtain ⟨v, rfl, p, vs, rfl, h1, r1⟩ := ra.one
    split at e
    · next hb =>
      cases e
      obtain ⟨bs, rfl, rfl⟩ := allBl_inv hb
      exact cr_all hc pins s σ H _ us Q I r ⟨p, bs, rfl, SqL.of (by rw [← r1.bls]; exact h1), q _ rfl⟩
    · cases e
  · obtain ⟨v, rfl, p, vs, rfl, h1, r1⟩ := ra.one
    split at e
    · next hb =>
      cases e
      obtain ⟨bs, rfl, rfl⟩ := anyBl_inv hb
      exact cr_any hc pins s σ H _ us Q I r ⟨p, bs, rfl, SqL.of (by rw [← r1.bls]; exact h1), q _ rfl⟩
    · cases e
  · obtain ⟨v, rfl, p, vs, rfl, h1, r1⟩ := ra.one
    split at e
    · next hb =>
      cases e
      obtain rfl := intsD_inv hb
      exact cr_sum hc pins s σ H _ us Q I r ⟨p, _, rfl, SqL.of (by rw [← r1.ints]; exact h1), q _ (by rw [sumI_eq]; rfl)⟩
    · cases e
  · obtain ⟨v, rfl, p, vs, rfl, h1, r1⟩ := ra.one
    split at e
    · next i is hb =>
      cases e
      obtain rfl := intsD_inv hb
      obtain ⟨m1, m2, m3⟩ := maxI_mem is i
      refine cr_max hc pins s σ H _ us Q I r ⟨p, _, rfl, SqL.of (by rw [← Reps.ints (bs := i :: is) r1]; exact h1), (by simp), fun m hm hu => q _ ?_⟩
      have e : m = maxI i is := by
        have a1 : maxI i is ≤ m := hu _ (by rcases m1 with z | z; rw [z]; exact List.mem_cons_self; exact List.mem_cons_of_mem _ z)
        have a2 : m ≤ maxI i is := by rcases List.mem_cons.mp hm with z | z; rw [z]; exact m2; exact m3 _ z
        omega
      rw [e]
      rfl
    · cases e
  · obtain ⟨v, rfl, p, vs, rfl, h1, r1⟩ := ra.one
    split at e
    · next i is hb =>
      cases e
      obtain rfl := intsD_inv hb
      obtain ⟨m1, m2, m3⟩ := minI_mem is i
      refine cr_min hc pins s σ H _ us Q I r ⟨p, _, rfl, SqL.of (by rw [← Reps.ints (bs := i :: is) r1]; exact h1), (by simp), fun m hm hu => q _ ?_⟩
      have e : m = minI i is := by
        have a1 : m ≤ minI i is := hu _ (by rcases m1 with z | z; rw [z]; exact List.mem_cons_self; exact List.mem_cons_of_mem _ z)
        have a2 : minI i is ≤ m := by rcases List.mem_cons.mp hm with z | z; rw [z]; exact m2; exact m3 _ z
        omega
      rw [e]
      rfl
    · cases e
/-- isinstance -/
theorem tyX_of (hK : X.K = G.K) (sub : Same F H) {d : D} {x : V} (r : RepW G F H d x) : ∀ t, (tyD d).head? = some t → TyX X.K H x (.type t.nm) := by
  intro t ht
  cases d <;> simp only [tyD, List.head?_cons, List.head?_nil, Option.some.injEq, reduceCtorEq] at ht <;> subst ht
  case bl b => cases r; exact .base (.bl b)
  case int i => cases r; exact .base (.int i)
  case str z => cases r; exact .base (.str z)
  case dic => exact r.elim
  case tup xs =>
    obtain ⟨a, vs, rfl, h, q⟩ := r
    rcases Same.sqT sub h with (h | ⟨o, h⟩) | ⟨o, its, n, h1, h2, _⟩
    · exact .base (.tup h)
    · exact .fTuple h
    · exact .kTuple (by rw [hK]; exact h1) h2
  case lst xs =>
    obtain ⟨a, vs, rfl, h, q⟩ := r
    exact .base (.lst h)
  case scr xs =>
    obtain ⟨a, vs, rfl, h, q⟩ := r
    rcases Same.sqL sub h with (h | ⟨o, h⟩) | ⟨o, its, n, h1, h2, _⟩
    · exact .base (.lst h)
    · exact .base (.frz h)
    · exact .kList (by rw [hK]; exact h1) h2
def tyS : D → Option String
  | .non => some "NoneType"
  | .bl _ => some "bool"
  | .int _ => some "int"
  | .str _ => some "str"
  | .tup _ => some "tuple"
  | .lst _ => some "list"
  | .scr _ => some "list"
  | _ => none
theorem kit_all {d : D} {nm : String} (h : tyS d = some nm) (t : Ty) : kitB nm t.nm = some ((tyD d).contains t) := by
  cases d <;> simp only [tyS, Option.some.injEq, reduceCtorEq] at h <;> subst h <;> simp only [tyD] <;> cases t <;> decide +kernel
theorem tyX_s (hK : X.K = G.K) (sub : Same F H) {d : D} {x : V} (r : RepW G F H d x) {nm : String} (h : tyS d = some nm) : TyX X.K H x (.type nm) := by
  cases d <;> simp only [tyS, Option.some.injEq, reduceCtorEq] at h <;> subst h
  case non => cases r; exact .base .non
  all_goals exact tyX_of hK sub r _ rfl
theorem isi_any {K : PySem.W.Frag} {d : D} {nm : String} (h : tyS d = some nm) : ∀ ts : List Ty, PySem.W.kitAny K (.type nm) (ts.map fun t => Value.type t.nm) = some (ts.any fun t => (tyD d).contains t)
  | [] => kitAny_nil
  | t :: ts => by
    refine kitAny_cons (kit_ty (kit_all h t)) (fun e => ?_) (fun e => ?_)
    · rw [isi_any h ts, List.any_cons, e, Bool.false_or]
    · rw [List.any_cons, e, Bool.true_or]
theorem isiD_inv {d : D} {ts : List Ty} {b : Bool} (h : isiD d ts = some b) : ∃ nm, tyS d = some nm ∧ b = ts.any fun t => (tyD d).contains t := by
  cases d <;> simp only [isiD, Option.some.injEq, reduceCtorEq] at h <;> subst h <;> exact ⟨_, rfl, rfl⟩
theorem paired_ty : ∀ ts : List Ty, Paired ClsV (ts.map fun t => V.ty t.nm) (ts.map fun t => Value.type t.nm)
  | [] => .nil
  | t :: ts => .cons (.ty _) (paired_ty ts)
end
end PV
end

section
set_option Elab.async false
set_option linter.all false
set_option maxRecDepth 100000
set_option maxHeartbeats 1000000
set_option autoImplicit false
/-! An exception in the air of a frame, seen from a comprehension's block too. -/
namespace PV
open PySem PySem.Spec PyProof.Rows L2
/-- an exception (at a) in the air over X, the frame at L: sI without it, B the ground -/
structure AirAt (X : Cx) (L : Addr) (W : WX) (a : Addr) (s' : Shared) (B : Heap) (sI : Shared) (pins : List (Addr × Obj)) (σ : L2.St) (H : Hp) (cls : Value) (d : Option Addr) : Prop where
  inv : Inv X pins σ H sI
  gr : ∀ b o, sI.heap.get? b = some o → b ∉ frs X.stack → B.get? b = some o
  up : sI.heap.UpToSlots s'.heap
  sky : Sky B X.stack a (Zc cls d) L s'.heap
  na : H a = none
  os : s'.os = sI.os
  ag : AllBare s'.gens
  w : W cls d σ H
def Air (X : Cx) (L : Addr) (W : WX) (u : Value) (s' : Shared) : Prop := ∃ a B sI pins σ H cls d, u = Value.ref a ∧ AirAt X L W a s' B sI pins σ H cls d
section
variable {X : Cx} {L : Addr} {W : WX} {E : XK} {pins : List (Addr × Obj)} {σ : L2.St} {H : Hp} {s s' : Shared} {u : Value}
theorem Air.to (hL : X.env.locals = L) (h : Air X L W u s') : XE X W u s' := by
  obtain ⟨a, B, sI, pins, σ, H, cls, d, e, h⟩ := h
  subst hL
  exact ⟨a, B, sI, pins, σ, H, cls, d, e, h.inv, h.gr, h.up, h.sky, h.na, h.os, h.ag, h.w⟩
theorem Air.of (hL : X.env.locals = L) (h : XE X W u s') : Air X L W u s' := by
  subst hL
  obtain ⟨a, B, sI, pins, σ, H, cls, d, e, h1, h2, h3, h4, h5, h6, h7, h8⟩ := h
  exact ⟨a, B, sI, pins, σ, H, cls, d, e, ⟨h1, h2, h3, h4, h5, h6, h7, h8⟩⟩
/-- what a callee let out -/
theorem Air.call (I : Inv X pins σ H s) (hW : ∀ cls d H', E cls d H' → W cls d σ H') (c : L2.CX X.prog X.w X.stack H s E u s') : Air X L W u s' := by
  obtain ⟨a, B, H', cls, d, eu, fly, hB, kept, hna, hos, hag, hE⟩ := c
  have hst : B.StaysIn s'.heap := fly.1
  -- the ground, and the frames as they are now
  obtain ⟨M, inM, outM⟩ := restrict s'.heap (fun b => (B.get? b).isSome || decide (b ∈ frs X.stack))
  have hBM : ∀ b o, B.get? b = some o → M.get? b = some o := by
    intro b o q
    have z : ((B.get? b).isSome || decide (b ∈ frs X.stack)) = true := by rw [q]; rfl
    exact (inM b z).trans (hst b o q)
  have hFM : ∀ b ∈ frs X.stack, M.get? b = s'.heap.get? b := by
    intro b hb
    refine inM b ?_
    rw [decide_eq_true hb, Bool.or_true]
  have hM : ∀ b o, M.get? b = some o → s'.heap.get? b = some o ∧ (b ∉ frs X.stack → B.get? b = some o) := by
    intro b o q
    by_cases z : ((B.get? b).isSome || decide (b ∈ frs X.stack)) = true
    · rw [inM b z] at q
      refine ⟨q, fun nb => ?_⟩
      rw [decide_eq_false nb, Bool.or_false] at z
      obtain ⟨o', q'⟩ := Option.isSome_iff_exists.mp z
      have := hst b o' q'
      rw [q] at this
      rw [q', ← this]
    · rw [outM b (by simpa using z)] at q
      cases q
  refine ⟨a, B, { s with heap := M, gens := s'.gens, drawn := s'.drawn, toks := s'.toks }, pins, σ, H', cls, d, eu, ?_, fun b o q nb => (hM b o q).2 nb, Heap.UpToSlots.of_keeps fun b o q => (hM b o q).1, .inr (.inl fly), hna, hos, hag, hW _ _ _ hE⟩
  have hun : Un (frs X.stack) [] H H' s.heap M := by
    refine ⟨fun b o q n nb _ => hBM b o (kept.keep b o q n nb), fun b o q n hb _ => ?_, fun b o q n _ => kept.free b o q n, fun b o q _ => ?_, kept.tups, kept.frzs, kept.tbls⟩
    · obtain ⟨sl, z⟩ := kept.slot b o q hb
      exact ⟨sl, (hFM b hb).trans z⟩
    · by_cases hb : b ∈ frs X.stack
      · obtain ⟨sl, z⟩ := kept.slot b o q hb
        exact ⟨_, (hFM b hb).trans z⟩
      · obtain ⟨o', z⟩ := kept.there b o q hb
        exact ⟨o', hBM b o' z⟩
  exact I.call (ch := []) hun (hB.kept hBM) hag fun _ z => nomatch z
end
end PV
end

section
set_option Elab.async false
set_option linter.all false
set_option maxRecDepth 100000
set_option maxHeartbeats 1000000
set_option autoImplicit false
/-! The program's text beside the evaluator's code. -/
namespace PV
open PySem PySem.Spec PyProof.Rows L2
/-- names: slots, defs, constants of the module, classes -/
structure Mc where
  N : List Str
  nm : List Str
  gi : List (Str × Int)
  gs : List (Str × Str)
  cl : List Str
def blts : List Str := ["len", "abs", "int", "list", "tuple", "max", "min", "all", "any", "sum", "range", "enumerate", "zip", "isinstance", "bool", "str", "dict", "sorted", "ValueError", "LookupError"]
def okName (x : Str) : Bool := !(x == ("__debug__" : Str)) && !(x == ("__classdict__" : Str)) && !decide (x = ("__name__" : Str))
def vis (sc : Scope) (x : Str) : Bool := (match sc.names.lookup x with | some .local => true | some .cell => true | some .free => true | _ => false) && okName x
def glo (sc : Scope) (x : Str) : Bool := decide (sc.names.lookup x = some .globalImplicit) && okName x
def mC : D → Const → Bool
  | .non, .none => true
  | .bl b, .bool c => b == c
  | .int i, .int j => decide (i = j)
  | .str x, .str y => decide (x = y)
  | _, _ => false
def isSlice : Expr → Bool
  | .Slice .. => true
  | _ => false
def mTys (sc : Scope) : List Ty → List Expr → Bool
  | [], [] => true
  | t :: ts, .Name y _ :: es => decide (y = Str.ofString t.nm) && glo sc y && mTys sc ts es
  | _, _ => false
def mTy (sc : Scope) (ts : List Ty) (e : Expr) : Bool := match ts, e with
  | [t], .Name y _ => decide (y = Str.ofString t.nm) && glo sc y
  | ts, .Tuple es _ _ => decide (ts.length ≤ 1000) && mTys sc ts es
  | _, _ => false
/-- the expressions of what is walked -/
def itArgs (k : Ik) (sc : Scope) (e : Expr) : Option (List Expr) := match k with
  | .seq => some [e]
  | .rng => (match e with | .Call (.Name f _) as [] _ => if f = ("range" : Str) ∧ glo sc f = true ∧ (as.length = 1 ∨ as.length = 2 ∨ as.length = 3) then some as else none | _ => none)
  | .enum => (match e with | .Call (.Name f _) [a] [] _ => if f = ("enumerate" : Str) ∧ glo sc f = true then some [a] else none | _ => none)
  | .zip => (match e with | .Call (.Name f _) [a, b] [] _ => if f = ("zip" : Str) ∧ glo sc f = true then some [a, b] else none | _ => none)
  | .zip3 => none
def isTup : Expr → Bool
  | .Tuple .. => true
  | _ => false
mutual
/-- a target; own: of a comprehension (its names' cells are the block's own) -/
def mTg (N : List Str) (sc : Scope) (fn : Str → Bool) : Tg → Expr → Bool
  | .nm i, e => (match e with
    | .Name x _ => decide (N[i]? = some x) && (decide (sc.names.lookup x = some .local) || (decide (sc.names.lookup x = some .cell) && fn x))
    | _ => false)
  | .tp ts, e => (match e with
    | .Tuple es _ _ => mTgs N sc fn ts es
    | _ => false)
def mTgs (N : List Str) (sc : Scope) (fn : Str → Bool) : List Tg → List Expr → Bool
  | [], [] => true
  | t :: ts, e :: es => mTg N sc fn t e && mTgs N sc fn ts es
  | _, _ => false
end
mutual
def tgSlots : Tg → List Nat
  | .nm i => [i]
  | .tp ts => tgsSlots ts
def tgsSlots : List Tg → List Nat
  | [] => []
  | t :: ts => tgSlots t ++ tgsSlots ts
end
/-- the slots' names -/
def named (N : List Str) (own : List Nat) : List (Str × Nat) := own.map fun i => (N.getD i Str.empty, i)
def ownFn (scope : Scope) : Str → Bool := fun x => scope.names.lookup x == some .cell
def meName : Me → Str
  | .append => "append"
  | .extend => "extend"
  | .pop0 => "pop"
  | .pop1 => "pop"
  | .index => "index"
  | .count => "count"
def meArgs : Me → Nat
  | .pop0 => 0
  | _ => 1
/-- no call without arguments: `super()` has a reading of its own -/
def plainBase : Expr → Bool
  | .Call _ [] _ _ => false
  | _ => true
mutual
/-- code that a test may be -/
def testable : E → Bool
  | .mk _ => false
  | .not a => testable a
  | .and es => testables es
  | .or es => testables es
  | .ite _ a b => testable a && testable b
  | _ => true
def testables : List E → Bool
  | [] => true
  | e :: es => testable e && testables es
end
mutual
def mE (C : Mc) : E → Scope → Expr → Bool
  | .cst d, _, e => (match e with | .Constant c _ _ => mC d c | _ => false)
  | .var i, sc, e => (match e with | .Name x _ => decide (C.N[i]? = some x) && vis sc x | _ => false)
  | .gint y i, sc, e => (match e with | .Name x _ => decide (x = y) && glo sc x && decide ((y, i) ∈ C.gi) | _ => false)
  | .gstr y z, sc, e => (match e with | .Name x _ => decide (x = y) && glo sc x && decide ((y, z) ∈ C.gs) | _ => false)
  | .gfn k, sc, e => (match e with | .Name x _ => decide (C.nm[k]? = some x) && glo sc x | _ => false)
  | .tup es, sc, e => (match e with | .Tuple as _ _ => decide (as.length ≤ 1000) && mEs C es sc as | _ => false)
  | .lst es, sc, e => (match e with | .List as _ => decide (as.length ≤ 1000) && mEs C es sc as | _ => false)
  | .bin o a b, sc, e => (match e with | .BinOp x op y _ => decide (bopOf op = some o) && mE C a sc x && mE C b sc y | _ => false)
  | .neg a, sc, e => (match e with | .UnaryOp .USub x _ => mE C a sc x | _ => false)
  | .not a, sc, e => (match e with | .UnaryOp .Not x _ => mE C a sc x | _ => false)
  | .and es, sc, e => (match e with | .BoolOp .And as _ => mEs C es sc as | _ => false)
  | .or es, sc, e => (match e with | .BoolOp .Or as _ => mEs C es sc as | _ => false)
  | .cmp o a b, sc, e => (match e with | .Compare x [op] [y] _ => decide (copOf op = some o) && !behindInMarks op y && mE C a sc x && mE C b sc y | _ => false)
  | .chn o p a b c, sc, e => (match e with | .Compare x [op, oq] [y, z] _ => decide (copOf op = some o) && decide (copOf oq = some p) && !lastMarks [op, oq] [y, z] && mE C a sc x && mE C b sc y && mE C c sc z | _ => false)
  | .isn neg a, sc, e => (match e with | .Compare x [op] [.Constant .none _ _] _ => decide (op = if neg then CmpOp.IsNot else CmpOp.Is) && mE C a sc x | _ => false)
  | .isb neg a b, sc, e => (match e with | .Compare x [op] [.Constant (.bool c) _ _] _ => decide (op = if neg then CmpOp.IsNot else CmpOp.Is) && (b == c) && mE C a sc x | _ => false)
  | .ite c a b, sc, e => (match e with | .IfExp z x y _ => testable c && mE C c sc z && mE C a sc x && mE C b sc y | _ => false)
  | .call k es, sc, e => (match e with | .Call (.Name x _) (a :: as) [] _ => decide (C.nm[k]? = some x) && glo sc x && mEs C es sc (a :: as) | _ => false)
  | .callv i es, sc, e => (match e with | .Call (.Name x _) (a :: as) [] _ => decide (C.N[i]? = some x) && vis sc x && mEs C es sc (a :: as) | _ => false)
  | .bi b es, sc, e => (match e with | .Call (.Name x _) (a :: as) [] _ => decide (x = Str.ofString b.nm) && glo sc x && mEs C es sc (a :: as) | _ => false)
  | .isi a ts, sc, e => (match e with | .Call (.Name x _) [y, z] [] _ => decide (x = ("isinstance" : Str)) && glo sc x && mE C a sc y && mTy sc ts z | _ => false)
  | .rng tu es, sc, e => (match e with | .Call (.Name x _) [.Call (.Name y _) as [] _] [] _ => decide (x = if tu then ("tuple" : Str) else ("list" : Str)) && glo sc x && decide (y = ("range" : Str)) && glo sc y && (as.length == 1 || as.length == 2) && mEs C es sc as | _ => false)
  | .idx a i, sc, e => (match e with | .Subscript x y _ => !isSlice y && mE C a sc x && mE C i sc y | _ => false)
  | .slc a bl bh lo hi, sc, e => (match e with | .Subscript x (.Slice l h none _) _ => mE C a sc x && (match bl, l with | false, none => true | true, some y => mE C lo sc y | _, _ => false) && (match bh, h with | false, none => true | true, some y => mE C hi sc y | _, _ => false) | _ => false)
  | .rev a, sc, e => (match e with | .Subscript x (.Slice none none (some (.UnaryOp .USub (.Constant (.int i) _ _) _)) _) _ => decide (i = 1) && mE C a sc x | _ => false)
  | .comp elt tg own k es ifs, sc, e => (match e with
    | .ListComp x [⟨t, it, fs, asy⟩] scope _ => decide (asy = 0) && testables ifs && blkC C.N sc scope (named C.N own) && mTg C.N (relS scope sc) (ownFn scope) tg t && (k == .seq || k == .rng || isTup t) && decide (fs.length ≤ 1) && (tgSlots tg).all (own.contains ·) && (match itArgs k sc it with
      | some as => mEs C es sc as
      | none => false) && mEs C ifs (relS scope sc) fs && mE C elt (relS scope sc) x
    | _ => false)
  | .mth m a es, sc, e => (match e with | .Call (.Attribute o n apos) as [] cpos => decide (n = meName m) && decide (m ≠ .count) && decide (as.length = meArgs m) && (apos.endLine == cpos.line) && plainBase o && mE C a sc o && mEs C es sc as | _ => false)
  | .mk a, sc, e => mE C a sc e
def mEs (C : Mc) : List E → Scope → List Expr → Bool
  | [], _, [] => true
  | t :: ts, sc, e :: es => mE C t sc e && mEs C ts sc es
  | _, _, _ => false
end
end PV
end

section
set_option Elab.async false
set_option linter.all false
set_option maxRecDepth 100000
set_option maxHeartbeats 2000000
set_option autoImplicit false
/-! What code gives, the text gives: the single constructs. -/
namespace PV
open PySem PySem.Spec PyProof.Rows L2
abbrev Call := Nat → List D → Cells → R D
/-- the promise of def k -/
def spOf (G : Gt) (call : Call) (k : Nat) : Sp := fun vs H Q E => ∃ F α as cs, Ab G F α H cs ∧ RepVs G F α as vs ∧ Post G (fun cls dx _ H => E cls dx H) [] F α (call k as cs) fun F' α' H' _ d => ∀ v, RepV G F' α' d v → Q v H'
structure Good (G : Gt) (C : Mc) (W : WX) (L : Addr) (call : Call) (X : Cx) : Prop where
  K : X.K = G.K
  N : X.N = C.N
  calm : X.calm = true
  nd : X.N.Nodup
  hu : X.A.units + 200 < cLine
  fr : X.env.frame = some L
  top : ∃ e0 l0, X.stack = e0 :: l0 ∧ e0.frame = some L
  free : ∀ x ∈ blts, X.mg x = none
  gi : ∀ p ∈ C.gi, ∃ t, X.mg p.1 = some (.int p.2 t)
  gs : ∀ p ∈ C.gs, ∃ t, X.mg p.1 = some (.str p.2 t)
  fn : ∀ k x, C.nm[k]? = some x → ∃ f, G.fa k = some f ∧ X.mg x = some (.ref f)
  ok : ∀ k f, G.fa k = some f → ∃ j fd ps, FnOk X.prog X.w X.K X.mg X.base (L2.CX X.prog X.w) j f fd ps (spOf G call k) ∧ Room j X.A ∧ PySem.W.keepIn X.K (.ref f) = true ∧ Binds X.K fd ps []
  tk : ∀ u s', Air X L W u s' → X.xe u s'
section
variable {G : Gt} {C : Mc} {W : WX} {L : Addr} {call : Call} {X : Cx}
theorem okName_d {x : Str} (h : okName x = true) : (x == ("__debug__" : Str)) = false ∧ (x == ("__classdict__" : Str)) = false ∧ x ≠ "__name__" := by
  unfold okName at h
  simp only [Bool.and_eq_true, Bool.not_eq_true', decide_eq_false_iff_not] at h
  exact ⟨h.1.1, h.1.2, h.2⟩
theorem vis_ok {sc : Scope} {x : Str} (h : vis sc x = true) : Vis sc x ∧ (x == ("__debug__" : Str)) = false ∧ (x == ("__classdict__" : Str)) = false := by
  unfold vis at h
  rw [Bool.and_eq_true] at h
  obtain ⟨h1, h2⟩ := h
  obtain ⟨a, b, _⟩ := okName_d h2
  refine ⟨?_, a, b⟩
  split at h1
  · next e => exact .inl e
  · next e => exact .inr (.inl e)
  · next e => exact .inr (.inr e)
  · cases h1
theorem glo_ok {x : Str} (h : glo X.env.scope x = true) : Gl X x ∧ (x == ("__debug__" : Str)) = false ∧ x ≠ "__name__" := by
  unfold glo at h
  rw [Bool.and_eq_true] at h
  obtain ⟨h1, h2⟩ := h
  obtain ⟨a, _, b⟩ := okName_d h2
  have h3 : X.env.scope.names.lookup x = some .globalImplicit := of_decide_eq_true h1
  exact ⟨h3, a, b⟩
/-! constants, names -/
theorem tE_ok {m : Env → Cells → R D} {σ : L2.St} {H : Hp} {Q : VK} {d : D} {v : V} (h : tE G W m σ H Q) (hm : ∀ env cs, m env cs = .ok d cs) (hv : ∀ F α, RepV G F α d v) : Q v H := by
  obtain ⟨F, α, env, cs, ab, en, po⟩ := h
  rw [hm] at po
  exact po.here ab v (hv F α)
theorem ok_cst {d : D} {c : Const} {k : Nat} {pos : Pos} (h : mC d c = true) : PE X (.Constant c k pos) (tE G W (ev call (.cst d))) := by
  cases d <;> cases c <;> simp only [mC, reduceCtorEq] at h
  · exact PE.weak pe_non fun σ H Q q => tE_ok (d := .non) q (fun _ _ => by simp only [ev]) (fun _ _ => rfl)
  · next b c => obtain rfl := eq_of_beq h; exact PE.weak pe_bl fun σ H Q q => tE_ok (d := .bl b) q (fun _ _ => by simp only [ev]) (fun _ _ => rfl)
  · next i j => obtain rfl := of_decide_eq_true h; exact PE.weak pe_int fun σ H Q q => tE_ok (d := .int i) q (fun _ _ => by simp only [ev]) (fun _ _ => rfl)
  · next i j => obtain rfl := of_decide_eq_true h; exact PE.weak pe_str fun σ H Q q => tE_ok (d := .str i) q (fun _ _ => by simp only [ev]) (fun _ _ => rfl)
theorem ok_var {i : Nat} {x : Str} {pos : Pos} (g : Good G C W L call X) (hN : C.N[i]? = some x) (hv : vis X.env.scope x = true) : PE X (.Name x pos) (tE G W (ev call (.var i))) := by
  obtain ⟨v1, v2, v3⟩ := vis_ok hv
  refine PE.weak (pe_var (i := i) (by rw [g.N]; exact hN) v1 v2 v3) fun σ H Q q => ?_
  obtain ⟨F, α, env, cs, ab, en, po⟩ := q
  cases he : env[i]? with
  | none => simp only [ev, he] at po; exact po.elim
  | some o =>
    cases o with
    | none => simp only [ev, he] at po; exact po.elim
    | some d =>
      simp only [ev, he] at po
      obtain ⟨v, e1, r⟩ := en.at_ i d he
      exact ⟨v, e1, po.here ab v r⟩
theorem ok_gint {y : Str} {i : Int} {pos : Pos} (g : Good G C W L call X) (hv : glo X.env.scope y = true) (hm : (y, i) ∈ C.gi) : PE X (.Name y pos) (tE G W (ev call (.gint y i))) := by
  obtain ⟨v1, v2, v3⟩ := glo_ok hv
  obtain ⟨t, e⟩ := g.gi _ hm
  exact PE.weak (pe_glob v1 e (v := .int i) ⟨t, rfl⟩ v2) fun σ H Q q => tE_ok (d := .int i) q (fun _ _ => by simp only [ev]) (fun _ _ => rfl)
theorem ok_gstr {y : Str} {i : Str} {pos : Pos} (g : Good G C W L call X) (hv : glo X.env.scope y = true) (hm : (y, i) ∈ C.gs) : PE X (.Name y pos) (tE G W (ev call (.gstr y i))) := by
  obtain ⟨v1, v2, v3⟩ := glo_ok hv
  obtain ⟨t, e⟩ := g.gs _ hm
  exact PE.weak (pe_glob v1 e (v := .str i) ⟨t, rfl⟩ v2) fun σ H Q q => tE_ok (d := .str i) q (fun _ _ => by simp only [ev]) (fun _ _ => rfl)
theorem ok_gfn {k : Nat} {x : Str} {pos : Pos} (g : Good G C W L call X) (hv : glo X.env.scope x = true) (hm : C.nm[k]? = some x) : PE X (.Name x pos) (tE G W (ev call (.gfn k))) := by
  obtain ⟨v1, v2, v3⟩ := glo_ok hv
  obtain ⟨f, e1, e2⟩ := g.fn k x hm
  exact PE.weak (pe_glob v1 e2 (v := .ref f) rfl v2) fun σ H Q q => tE_ok (d := .fn k) q (fun _ _ => by simp only [ev]) (fun _ _ => ⟨f, e1, rfl⟩)
theorem blt_free {x : Str} (g : Good G C W L call X) (h : x ∈ blts) : X.mg x = none := g.free x h
/-! displays -/
theorem post_tup {σ : L2.St} {F H : Hp} {α : List Addr} {cs : Cells} {ds : List D} {vs : List V} {Q : VK} (ab : Ab G F α H cs) (r : RepVs G F α ds vs)
    (po : Post G W σ F α (.ok (.tup (fzs ds cs).1) (fzs ds cs).2) fun F' α' H' _ d => ∀ v, RepV G F' α' d v → Q v H') {p : Addr} (hp : H p = none) : Q (.ref p) (upd H p (.tup vs)) := by
  obtain ⟨F1, s1, a1, q1⟩ := fzs_ok ab r
  exact (newQ_ofE a1 (po.up s1 (List.prefix_refl _))).2 p vs hp q1
theorem evs_len : ∀ (es : List E) (env : Env) (cs cs' : Cells) (ds : List D), evs call es env cs = .ok ds cs' → ds.length = es.length
  | [], _, _, _, _, h => by simp only [evs, R.ok.injEq] at h; rw [← h.1]; rfl
  | e :: es, env, cs, cs', ds, h => by
    simp only [evs] at h
    cases h1 : ev call e env cs with
    | stuck => rw [h1] at h; cases h
    | exc _ _ => rw [h1] at h; cases h
    | ok d c1 =>
      rw [h1] at h
      simp only [R.bind] at h
      cases h2 : evs call es env c1 with
      | stuck => rw [h2] at h; cases h
      | exc _ _ => rw [h2] at h; cases h
      | ok r c2 =>
        rw [h2] at h
        simp only [R.ok.injEq] at h
        rw [← h.1, List.length_cons, List.length_cons, evs_len es env c1 c2 r h2]
theorem small_line {n : Nat} (h : n ≤ 1000) : n ≤ sizeLine := by rw [sizeLine_eq]; omega
/-- an argument list, then what its values are for -/
theorem tA_of {es : List E} {β : Type} {f : Env → List D → Cells → R β} {σ : L2.St} {F H : Hp} {α : List Addr} {env : Env} {cs : Cells} {Q : Hp → List Addr → Hp → Cells → β → Prop} {R' : List V → Hp → Prop} (ab : Ab G F α H cs) (en : EnvR G F α env σ)
    (po : Post G W σ F α ((evs call es env cs).bind (f env)) Q)
    (k : ∀ F1 α1 H1 cs1 ds vs, Same F F1 → α <+: α1 → Ab G F1 α1 H1 cs1 → EnvR G F1 α1 env σ → RepVs G F1 α1 ds vs → vs.length = es.length → Post G W σ F1 α1 (f env ds cs1) Q → R' vs H1) : tA G W (evs call es) σ H R' := by
  cases he : evs call es env cs with
  | stuck => rw [he] at po; exact po.elim
  | exc x c => exact ⟨F, α, env, cs, ab, en, by rw [he] at po ⊢; exact po⟩
  | ok ds c =>
    refine ⟨F, α, env, cs, ab, en, ?_⟩
    rw [he] at po ⊢
    exact fun F' α' H' s p a vs r => k F' α' H' c ds vs s p a (en.mono s p) r (by rw [← r.len, evs_len es env cs c ds he]) (Post.up (r := f env ds c) po s p)
theorem ok_tup {es : List E} {as : List Expr} {k : Nat} {pos : Pos} (ha : PA X as (tA G W (evs call es))) (hz : es.length ≤ 1000) : PE X (.Tuple as k pos) (tE G W (ev call (.tup es))) := by
  refine PE.weak (pe_tup ha) fun σ H Q q => ?_
  obtain ⟨F, α, env, cs, ab, en, po⟩ := q
  simp only [ev] at po
  refine tA_of (f := fun _ ds cs1 => R.ok (D.tup (fzs ds cs1).1) (fzs ds cs1).2) ab en po fun F1 α1 H1 cs1 ds vs s p a en1 r hl po1 => ⟨by rw [hl]; exact small_line hz, fun q hq => ?_⟩
  exact post_tup a r po1 hq
theorem ok_lstF {es : List E} {as : List Expr} {pos : Pos} (ha : PA X as (tA G W (evs call es))) (hz : es.length ≤ 1000) : PE X (.List as pos) (tF G W (ev call (.lst es))) := by
  refine PE.weak (pe_lst ha) fun σ H Q q => ?_
  obtain ⟨F, α, env, cs, ab, en, po⟩ := q
  simp only [ev] at po
  refine tA_of (f := fun _ ds cs1 => R.ok (D.lst (fzs ds cs1).1) (fzs ds cs1).2) ab en po fun F1 α1 H1 cs1 ds vs s p a en1 r hl po1 => ⟨by rw [hl]; exact small_line hz, fun q hq => ?_⟩
  obtain ⟨F2, s2, a2, q2⟩ := fzs_ok a r
  exact newQ_of a2 (po1.up s2 (List.prefix_refl _)) q vs hq q2
/-! two-place operations -/
theorem ok_binF (g : Good G C W L call X) {op : Operator} {o : Bop} {a b : E} {x y : Expr} {pos : Pos} (ho : bopOf op = some o) (ha : PE X x (tE G W (ev call a))) (hb : PE X y (tE G W (ev call b))) : PE X (.BinOp x op y pos) (tF G W (ev call (.bin o a b))) := by
  refine PE.weak (pe_op (op_bin g.K ho) ha hb) fun σ H Q q => ?_
  obtain ⟨F, α, env, cs, ab, en, po⟩ := q
  simp only [ev] at po
  refine tE_bind (f := fun env x cs1 => (ev call b env cs1).bind fun y cs2 => R.opt (binD o (view cs2 x) (view cs2 y)) cs2) ab en po fun F1 α1 H1 cs1 d v s p a1 en1 r po1 => ?_
  refine tE_bind (f := fun env y cs2 => R.opt (binD o (view cs2 d) (view cs2 y)) cs2) a1 en1 po1 fun F2 α2 H2 cs2 d2 v2 s2 p2 a2 en2 r2 po2 => ?_
  obtain ⟨z, ez, po3⟩ := po2.opt
  exact ⟨F2, _, _, z, a2.sub, (r.mono s2 p2).view a2, r2.view a2, ez, newQ_of a2 po3⟩
theorem tF_weak {m : Env → Cells → R D} {e : Expr} (h : PE X e (tF G W m)) : PE X e (tE G W m) := PE.ofF h
/-- a test whose value is a bool -/
theorem tT_bl {t : E} {σ : L2.St} {H : Hp} {Q : Bool → Hp → Prop} (hd : ∀ env cs, tst call t env cs = (ev call t env cs).bind fun x cs1 => R.opt (truD (view cs1 x)) cs1) (hb : ∀ env cs d c, ev call t env cs = .ok d c → ∃ b, d = .bl b)
    (q : tT G W (tst call t) σ H Q) : tE G W (ev call t) σ H (fun x H' => ∃ k, x = .bl k ∧ Q k H') := by
  obtain ⟨F, α, env, cs, ab, en, po⟩ := q
  refine ⟨F, α, env, cs, ab, en, ?_⟩
  rw [hd] at po
  cases he : ev call t env cs with
  | stuck => rw [he] at po; exact po
  | exc x c => rw [he] at po; exact po
  | ok d c =>
    rw [he] at po
    obtain ⟨b, rfl⟩ := hb _ _ _ _ he
    intro F' α' H' s p a v r
    cases r
    exact ⟨b, rfl, po F' α' H' s p a⟩
theorem gives_cmp {o : Cop} {a b : E} : ∀ env cs d c, ev call (.cmp o a b) env cs = .ok d c → ∃ b, d = .bl b := fun env cs d c h => by
  simp only [ev] at h
  cases h1 : ev call a env cs with
  | stuck => rw [h1] at h; cases h
  | exc x c => rw [h1] at h; cases h
  | ok x c1 =>
    rw [h1] at h
    simp only [R.bind] at h
    cases h2 : ev call b env c1 with
    | stuck => rw [h2] at h; cases h
    | exc x c => rw [h2] at h; cases h
    | ok y c2 =>
      rw [h2] at h
      simp only at h
      split at h
      · cases h; exact ⟨_, rfl⟩
      · cases h
theorem gives_chn {o o' : Cop} {a b e : E} : ∀ env cs d c, ev call (.chn o o' a b e) env cs = .ok d c → ∃ b, d = .bl b := fun env cs d c h => by
  simp only [ev] at h
  cases h1 : ev call a env cs with
  | stuck => rw [h1] at h; cases h
  | exc x c => rw [h1] at h; cases h
  | ok x c1 =>
    rw [h1] at h
    simp only [R.bind] at h
    cases h2 : ev call b env c1 with
    | stuck => rw [h2] at h; cases h
    | exc x c => rw [h2] at h; cases h
    | ok y c2 =>
      rw [h2] at h
      simp only at h
      split at h
      · cases h3 : ev call e env c2 with
        | stuck => rw [h3] at h; cases h
        | exc x c => rw [h3] at h; cases h
        | ok z c3 =>
          rw [h3] at h
          simp only at h
          split at h
          · cases h; exact ⟨_, rfl⟩
          · cases h
      · cases h; exact ⟨_, rfl⟩
      · cases h
theorem gives_isn {n : Bool} {a : E} : ∀ env cs d c, ev call (.isn n a) env cs = .ok d c → ∃ b, d = .bl b := fun env cs d c h => by
  simp only [ev] at h
  cases h1 : ev call a env cs with
  | stuck => rw [h1] at h; cases h
  | exc x c => rw [h1] at h; cases h
  | ok x c1 => rw [h1] at h; cases h; exact ⟨_, rfl⟩
theorem gives_isb {n b : Bool} {a : E} : ∀ env cs d c, ev call (.isb n a b) env cs = .ok d c → ∃ b, d = .bl b := fun env cs d c h => by
  simp only [ev] at h
  cases h1 : ev call a env cs with
  | stuck => rw [h1] at h; cases h
  | exc x c => rw [h1] at h; cases h
  | ok x c1 =>
    rw [h1] at h
    simp only [R.bind] at h
    split at h
    · cases h; exact ⟨_, rfl⟩
    · cases h
theorem cmp_lead {o : Cop} {a b : E} {σ : L2.St} {H : Hp} {Q : VK} (q : tE G W (ev call (.cmp o a b)) σ H Q) : tOp (rCmp G o) (tE G W (ev call a)) (tE G W (ev call b)) σ H Q := by
  obtain ⟨F, α, env, cs, ab, en, po⟩ := q
  simp only [ev] at po
  refine tE_bind (f := fun env x cs1 => (ev call b env cs1).bind fun y cs2 => (match cmpD o (view cs2 x) (view cs2 y) with
    | some b => R.ok (D.bl b) cs2
    | none => .stuck)) ab en po fun F1 α1 H1 cs1 d v s p a1 en1 r po1 => ?_
  refine tE_bind (f := fun env y cs2 => (match cmpD o (view cs2 d) (view cs2 y) with
    | some b => R.ok (D.bl b) cs2
    | none => .stuck)) a1 en1 po1 fun F2 α2 H2 cs2 d2 v2 s2 p2 a2 en2 r2 po2 => ?_
  cases hc : cmpD o (view cs2 d) (view cs2 d2) with
  | none => rw [hc] at po2; exact po2.elim
  | some c =>
    rw [hc] at po2
    exact ⟨F2, _, _, c, a2.sub, (r.mono s2 p2).view a2, r2.view a2, hc, po2.here a2 _ rfl⟩
theorem ok_cmp (g : Good G C W L call X) {op : CmpOp} {o : Cop} {a b : E} {x y : Expr} {pos : Pos} (ho : copOf op = some o) (hm : behindInMarks op y = false) (ha : PE X x (tE G W (ev call a))) (hb : PE X y (tE G W (ev call b))) : PE X (.Compare x [op] [y] pos) (tE G W (ev call (.cmp o a b))) :=
  PE.weak (pe_cmpR (op_cmp g.K (by have := g.hu; omega) ho) ha hb hm) fun _ _ _ => cmp_lead
theorem ot_cmp (g : Good G C W L call X) {op : CmpOp} {o : Cop} {a b : E} {x y : Expr} {pos : Pos} (ho : copOf op = some o) (hm : behindInMarks op y = false) (ha : PE X x (tE G W (ev call a))) (hb : PE X y (tE G W (ev call b))) : PT X (.Compare x [op] [y] pos) (tT G W (tst call (.cmp o a b))) :=
  PT.weak (pt_cmpR (op_cmp g.K (by have := g.hu; omega) ho) ha hb hm) fun _ _ _ q => cmp_lead (tT_bl (fun _ _ => by simp only [tst]) gives_cmp q)
theorem chn_lead {o o' : Cop} {a b c : E} {σ : L2.St} {H : Hp} {Q : VK} (q : tE G W (ev call (.chn o o' a b c)) σ H Q) : tChain (rCmp G o) (rCmp G o') (tE G W (ev call a)) (tE G W (ev call b)) (tE G W (ev call c)) σ H Q := by
  obtain ⟨F, α, env, cs, ab, en, po⟩ := q
  simp only [ev] at po
  refine tE_bind (f := fun env x cs1 => (ev call b env cs1).bind fun y cs2 => (match cmpD o (view cs2 x) (view cs2 y) with
    | some true => (ev call c env cs2).bind fun z cs3 => (match cmpD o' (view cs3 y) (view cs3 z) with
      | some b => R.ok (D.bl b) cs3
      | none => .stuck)
    | some false => R.ok (D.bl false) cs2
    | none => .stuck)) ab en po fun F1 α1 H1 cs1 d v s p a1 en1 r po1 => ?_
  refine tE_bind (f := fun env y cs2 => (match cmpD o (view cs2 d) (view cs2 y) with
    | some true => (ev call c env cs2).bind fun z cs3 => (match cmpD o' (view cs3 y) (view cs3 z) with
      | some b => R.ok (D.bl b) cs3
      | none => .stuck)
    | some false => R.ok (D.bl false) cs2
    | none => .stuck)) a1 en1 po1 fun F2 α2 H2 cs2 d2 v2 s2 p2 a2 en2 r2 po2 => ?_
  cases hc : cmpD o (view cs2 d) (view cs2 d2) with
  | none => rw [hc] at po2; exact po2.elim
  | some c1 =>
    rw [hc] at po2
    refine ⟨F2, _, _, c1, a2.sub, (r.mono s2 p2).view a2, r2.view a2, hc, c1, rfl, ?_⟩
    cases c1 with
    | false => exact po2.here a2 _ rfl
    | true =>
      refine tE_bind (f := fun _ z cs3 => (match cmpD o' (view cs3 d2) (view cs3 z) with
        | some b => R.ok (D.bl b) cs3
        | none => .stuck)) a2 en2 po2 fun F3 α3 H3 cs3 d3 v3 s3 p3 a3 en3 r3 po3 => ?_
      cases hc' : cmpD o' (view cs3 d2) (view cs3 d3) with
      | none => rw [hc'] at po3; exact po3.elim
      | some c2 =>
        rw [hc'] at po3
        exact ⟨F3, _, _, c2, a3.sub, (r2.mono s3 p3).view a3, r3.view a3, hc', po3.here a3 _ rfl⟩
theorem ok_chn (g : Good G C W L call X) {op oq : CmpOp} {o o' : Cop} {a b c : E} {x y z : Expr} {pos : Pos} (ho : copOf op = some o) (ho' : copOf oq = some o') (hm : lastMarks [op, oq] [y, z] = false)
    (ha : PE X x (tE G W (ev call a))) (hb : PE X y (tE G W (ev call b))) (hc : PE X z (tE G W (ev call c))) : PE X (.Compare x [op, oq] [y, z] pos) (tE G W (ev call (.chn o o' a b c))) :=
  PE.weak (pe_chain (op_cmp g.K (by have := g.hu; omega) ho) (op_cmp g.K (by have := g.hu; omega) ho') ha hb hc hm) fun _ _ _ => chn_lead
theorem ot_chn (g : Good G C W L call X) {op oq : CmpOp} {o o' : Cop} {a b c : E} {x y z : Expr} {pos : Pos} (ho : copOf op = some o) (ho' : copOf oq = some o') (hm : lastMarks [op, oq] [y, z] = false)
    (ha : PE X x (tE G W (ev call a))) (hb : PE X y (tE G W (ev call b))) (hc : PE X z (tE G W (ev call c))) : PT X (.Compare x [op, oq] [y, z] pos) (tT G W (tst call (.chn o o' a b c))) :=
  PT.weak (pt_chain (op_cmp g.K (by have := g.hu; omega) ho) (op_cmp g.K (by have := g.hu; omega) ho') ha hb hc hm) fun _ _ _ q => chn_lead (tT_bl (fun _ _ => by simp only [tst]) gives_chn q)
theorem isNon {d : D} {v : V} {F : Hp} {α : List Addr} (r : RepV G F α d v) : (decide (v = .non)) = (match d with | .non => true | _ => false) := by
  cases d with
  | non => cases r; rfl
  | bl b => cases r; rfl
  | int i => cases r; rfl
  | str x => cases r; rfl
  | tup xs => obtain ⟨a, vs, rfl, _⟩ := r; rfl
  | lst xs => obtain ⟨a, vs, rfl, _⟩ := r; rfl
  | scr xs => obtain ⟨a, vs, rfl, _⟩ := r; rfl
  | dic _ => exact r.elim
  | fn k => obtain ⟨a, _, rfl⟩ := r; rfl
  | ty t => cases r; rfl
  | own n => obtain ⟨a, _, rfl⟩ := r; rfl
theorem isn_lead {a : E} {σ : L2.St} {H : Hp} {Q : VK} (q : tE G W (ev call (.isn false a)) σ H Q) : tOp (fun x y H Q => y = .non ∧ Q (.bl (decide (x = .non))) H) (tE G W (ev call a)) (fun _ H Q => Q .non H) σ H Q := by
  obtain ⟨F, α, env, cs, ab, en, po⟩ := q
  simp only [ev] at po
  refine tE_bind (f := fun _ x cs1 => R.ok (D.bl (match x with | .non => !false | _ => false)) cs1) ab en po fun F1 α1 H1 cs1 d v s p a1 en1 r po1 => ⟨rfl, ?_⟩
  rw [isNon r]
  exact po1.here a1 _ (by cases d <;> rfl)
theorem isn_lead' {a : E} {σ : L2.St} {H : Hp} {Q : VK} (q : tE G W (ev call (.isn true a)) σ H Q) : tOp (fun x y H Q => y = .non ∧ Q (.bl (!decide (x = .non))) H) (tE G W (ev call a)) (fun _ H Q => Q .non H) σ H Q := by
  obtain ⟨F, α, env, cs, ab, en, po⟩ := q
  simp only [ev] at po
  refine tE_bind (f := fun _ x cs1 => R.ok (D.bl (match x with | .non => !true | _ => true)) cs1) ab en po fun F1 α1 H1 cs1 d v s p a1 en1 r po1 => ⟨rfl, ?_⟩
  rw [isNon r]
  exact po1.here a1 _ (by cases d <;> rfl)
theorem ok_isn {neg : Bool} {a : E} {x : Expr} {op : CmpOp} {k : Nat} {p2 pos : Pos} (ho : op = if neg then CmpOp.IsNot else CmpOp.Is) (ha : PE X x (tE G W (ev call a))) : PE X (.Compare x [op] [.Constant .none k p2] pos) (tE G W (ev call (.isn neg a))) := by
  subst ho
  cases neg with
  | false => exact PE.weak (pe_cmpR op_isN ha pe_non (nomark _ (by decide) (by decide))) fun _ _ _ => isn_lead
  | true => exact PE.weak (pe_cmpR op_notN ha pe_non (nomark _ (by decide) (by decide))) fun _ _ _ => isn_lead'
theorem ot_isn {neg : Bool} {a : E} {x : Expr} {op : CmpOp} {k : Nat} {p2 pos : Pos} (ho : op = if neg then CmpOp.IsNot else CmpOp.Is) (ha : PE X x (tE G W (ev call a))) : PT X (.Compare x [op] [.Constant .none k p2] pos) (tT G W (tst call (.isn neg a))) := by
  subst ho
  cases neg with
  | false => exact PT.weak (pt_cmpR op_isN ha pe_non (nomark _ (by decide) (by decide))) fun _ _ _ q => isn_lead (tT_bl (fun _ _ => by simp only [tst]) gives_isn q)
  | true => exact PT.weak (pt_cmpR op_notN ha pe_non (nomark _ (by decide) (by decide))) fun _ _ _ q => isn_lead' (tT_bl (fun _ _ => by simp only [tst]) gives_isn q)
theorem isb_lead {a : E} {b : Bool} {σ : L2.St} {H : Hp} {Q : VK} (q : tE G W (ev call (.isb false a b)) σ H Q) : tOp rIsB (tE G W (ev call a)) (fun _ H Q => Q (.bl b) H) σ H Q := by
  obtain ⟨F, α, env, cs, ab, en, po⟩ := q
  simp only [ev] at po
  refine tE_bind (f := fun _ x cs1 => (match x with
    | .bl c => R.ok (D.bl (if false = true then c != b else c == b)) cs1
    | _ => .stuck)) ab en po fun F1 α1 H1 cs1 d v s p a1 en1 r po1 => ?_
  cases d <;> first | exact po1.elim | skip
  cases r
  refine ⟨_, _, rfl, rfl, po1.here a1 _ ?_⟩
  rw [Bool.beq_eq_decide_eq] <;> rfl
theorem isb_lead' {a : E} {b : Bool} {σ : L2.St} {H : Hp} {Q : VK} (q : tE G W (ev call (.isb true a b)) σ H Q) : tOp rNotB (tE G W (ev call a)) (fun _ H Q => Q (.bl b) H) σ H Q := by
  obtain ⟨F, α, env, cs, ab, en, po⟩ := q
  simp only [ev] at po
  refine tE_bind (f := fun _ x cs1 => (match x with
    | .bl c => R.ok (D.bl (if true = true then c != b else c == b)) cs1
    | _ => .stuck)) ab en po fun F1 α1 H1 cs1 d v s p a1 en1 r po1 => ?_
  cases d <;> first | exact po1.elim | skip
  cases r
  refine ⟨_, _, rfl, rfl, po1.here a1 _ ?_⟩
  rw [bne, Bool.beq_eq_decide_eq] <;> rfl
theorem ok_isb {neg b : Bool} {a : E} {x : Expr} {op : CmpOp} {k : Nat} {p2 pos : Pos} (ho : op = if neg then CmpOp.IsNot else CmpOp.Is) (ha : PE X x (tE G W (ev call a))) : PE X (.Compare x [op] [.Constant (.bool b) k p2] pos) (tE G W (ev call (.isb neg a b))) := by
  subst ho
  cases neg with
  | false => exact PE.weak (pe_cmpR op_isBl ha pe_bl (nomark _ (by decide) (by decide))) fun _ _ _ => isb_lead
  | true => exact PE.weak (pe_cmpR op_notBl ha pe_bl (nomark _ (by decide) (by decide))) fun _ _ _ => isb_lead'
theorem ot_isb {neg b : Bool} {a : E} {x : Expr} {op : CmpOp} {k : Nat} {p2 pos : Pos} (ho : op = if neg then CmpOp.IsNot else CmpOp.Is) (ha : PE X x (tE G W (ev call a))) : PT X (.Compare x [op] [.Constant (.bool b) k p2] pos) (tT G W (tst call (.isb neg a b))) := by
  subst ho
  cases neg with
  | false => exact PT.weak (pt_cmpR op_isBl ha pe_bl (nomark _ (by decide) (by decide))) fun _ _ _ q => isb_lead (tT_bl (fun _ _ => by simp only [tst]) gives_isb q)
  | true => exact PT.weak (pt_cmpR op_notBl ha pe_bl (nomark _ (by decide) (by decide))) fun _ _ _ q => isb_lead' (tT_bl (fun _ _ => by simp only [tst]) gives_isb q)

/-! rows of expressions -/
def isStar : Expr → Bool
  | .Starred .. => true
  | _ => false
inductive AllE (P : E → Expr → Prop) : List E → List Expr → Prop
  | nil : AllE P [] []
  | cons {t : E} {e : Expr} {ts : List E} {es : List Expr} : P t e → AllE P ts es → AllE P (t :: ts) (e :: es)
theorem AllE.imp {P Q : E → Expr → Prop} (h : ∀ t e, P t e → Q t e) : ∀ {ts : List E} {es : List Expr}, AllE P ts es → AllE Q ts es
  | _, _, .nil => .nil
  | _, _, .cons a b => .cons (h _ _ a) (b.imp h)
theorem AllE.len {P : E → Expr → Prop} : ∀ {ts : List E} {es : List Expr}, AllE P ts es → ts.length = es.length
  | _, _, .nil => rfl
  | _, _, .cons _ b => by simp [b.len]
theorem star_cons {e : Expr} (es : List Expr) (env : PySem.Env) (h : isStar e = false) : starEach (e :: es) env = (false, eval e env) :: starEach es env := by
  cases e <;> first | rfl | simp [isStar] at h
/-- what is shown of a piece of code -/
structure Ok (G : Gt) (W : WX) (call : Call) (X : Cx) (t : E) (e : Expr) : Prop where
  pe : PE X e (tE G W (ev call t))
  star : isStar e = false
theorem stars {es : List Expr} {ts : List E} {env : PySem.Env} (h : AllE (fun _ e => isStar e = false) ts es) (pos : Pos) : (backTo pos (starEach es env)).any (·.1) = false := by
  unfold backTo
  induction h with
  | nil => rfl
  | cons a b ih =>
    rw [star_cons _ _ a]
    simpa using ih
theorem ok_args : ∀ {ts : List E} {es : List Expr}, AllE (Ok G W call X) ts es → PA X es (tA G W (evs call ts))
  | _, _, .nil => by
    refine PA.weak pa_nil fun σ H Q q => ?_
    obtain ⟨F, α, env, cs, ab, en, po⟩ := q
    simp only [evs] at po
    exact po.here ab [] rfl
  | _, _, .cons (t := t) (e := e) (ts := ts) (es := es) a b => by
    refine PA.weak (pa_cons a.pe (ok_args b) (star_cons _ _ a.star)) fun σ H Q q => ?_
    obtain ⟨F, α, env, cs, ab, en, po⟩ := q
    simp only [evs] at po
    refine tE_bind (f := fun env d cs1 => (evs call ts env cs1).bind fun ds cs2 => R.ok (d :: ds) cs2) ab en po fun F1 α1 H1 cs1 d v s p a1 en1 r po1 => ?_
    refine tA_bind (f := fun _ ds cs2 => R.ok (d :: ds) cs2) a1 en1 po1 fun F2 α2 H2 cs2 ds vs s2 p2 a2 en2 r2 po2 => ?_
    exact po2.here a2 _ ⟨v, vs, rfl, r.mono s2 p2, r2⟩
/-! calls -/
theorem ok_call (g : Good G C W L call X) {k : Nat} {x : Str} {ts : List E} {e : Expr} {es : List Expr} {p pos : Pos} (hx : C.nm[k]? = some x) (hv : glo X.env.scope x = true) (h : AllE (Ok G W call X) ts (e :: es)) :
    PE X (.Call (.Name x p) (e :: es) [] pos) (tE G W (ev call (.call k ts))) := by
  obtain ⟨v1, v2, v3⟩ := PV.glo_ok hv
  obtain ⟨f, e1, e2⟩ := g.fn k x hx
  obtain ⟨j, fd, ps, F, hr, kp, hb⟩ := g.ok k f e1
  have hs := h.imp fun _ _ z => z.star
  have hs2 : isStar e = false ∧ ∃ ts', AllE (fun _ e => isStar e = false) ts' es := by
    cases hs with
    | cons a b => exact ⟨a, _, b⟩
  obtain ⟨ts', hs3⟩ := hs2.2
  refine PE.weak (pe_callS (E := WE W) F hr v1 e2 kp hb (fun σ pins H s u s' I c => g.tk u s' (Air.call I (fun _ _ _ z => z) c)) (ok_args h) v2 (star_cons _ _ hs2.1) (stars hs3 pos)) fun σ H Q q => ?_
  obtain ⟨F, α, env, cs, ab, en, po⟩ := q
  simp only [ev] at po
  refine tA_bind (f := fun _ ds cs1 => call k ds cs1) ab en po fun F1 α1 H1 cs1 ds vs s p a1 en1 r po1 => ?_
  refine ⟨F1, α1, ds, cs1, a1, r, ?_⟩
  cases hc : call k ds cs1 with
  | ok d c => rw [hc] at po1; exact po1
  | exc y c => rw [hc] at po1; exact po1
  | stuck => rw [hc] at po1; exact po1
/-- a call of a name that holds a def -/
theorem ok_callv (g : Good G C W L call X) {i : Nat} {x : Str} {ts : List E} {e : Expr} {es : List Expr} {p pos : Pos} (hN : C.N[i]? = some x) (hv : vis X.env.scope x = true) (h : AllE (Ok G W call X) ts (e :: es)) :
    PE X (.Call (.Name x p) (e :: es) [] pos) (tE G W (ev call (.callv i ts))) := by
  obtain ⟨v1, v2, v3⟩ := vis_ok hv
  have hs := h.imp fun _ _ z => z.star
  have hs2 : isStar e = false ∧ ∃ ts', AllE (fun _ e => isStar e = false) ts' es := by
    cases hs with
    | cons a b => exact ⟨a, _, b⟩
  obtain ⟨ts', hs3⟩ := hs2.2
  refine ⟨fun pins s σ H Q I q => ?_⟩
  obtain ⟨F, α, env, cs, ab, en, po⟩ := q
  simp only [ev] at po
  -- the def that the slot holds
  split at po
  case h_2 => exact po.elim
  case h_1 k e1 =>
    obtain ⟨v, es1, f, ef, rfl⟩ := en.at_ i _ e1
    obtain ⟨j, fd, ps, F', hr, kp, hb⟩ := g.ok k f ef
    refine wpAny_Call_Name_kw (thn ((pe_var (pos := p) (i := i) (by rw [g.N]; exact hN) v1 v2 v3).run pins s σ H (fun v H1 => v = .ref f ∧ H1 = H) I ⟨.ref f, es1, rfl, rfl⟩) fun u s1 hu => ?_)
    obtain ⟨v, H1, I1, r1, rfl, rfl⟩ := hu
    cases r1
    have hA : tA G W (evs call ts) σ H1 fun vs H2 => spOf G call k vs H2 Q (WE W σ) := by
      refine tA_bind (f := fun _ ds cs1 => call k ds cs1) ab en po fun F1 α1 H2 cs1 ds vs s p a1 en1 r po1 => ?_
      refine ⟨F1, α1, ds, cs1, a1, r, ?_⟩
      cases hc : call k ds cs1 with
      | ok d c => rw [hc] at po1; exact po1
      | exc y c => rw [hc] at po1; exact po1
      | stuck => rw [hc] at po1; exact po1
    refine PySem.W.callWith_K (h₀ := X.base) I1.ok.mod.kin kp (thn ((ok_args h).run pos pins s1 σ H1 _ I1 hA) fun us s2 hs' => ?_) (star_cons _ _ hs2.1) (stars hs3 pos)
    obtain ⟨vs, H2, I2, r, q⟩ := hs'
    exact ⟨I2.kIn, run_fnS F' hr hb (fun pins H s u s' I c => g.tk u s' (Air.call I (fun _ _ _ z => z) c)) I2 r q⟩
/-! built-ins -/
theorem bi_blt (b : Bi) : (Str.ofString b.nm) ∈ blts ∧ Str.ofString b.nm ≠ "__name__" ∧ bootBuiltins (Str.ofString b.nm) = some b.val := by
  cases b <;> exact ⟨by decide +kernel, by decide +kernel, by decide +kernel⟩
theorem ok_biF (g : Good G C W L call X) {b : Bi} {x : Str} {ts : List E} {e : Expr} {es : List Expr} {p pos : Pos} (hx : x = Str.ofString b.nm) (hv : glo X.env.scope x = true) (h : AllE (Ok G W call X) ts (e :: es)) :
    PE X (.Call (.Name x p) (e :: es) [] pos) (tF G W (ev call (.bi b ts))) := by
  subst hx
  obtain ⟨v1, v2, v3⟩ := PV.glo_ok hv
  obtain ⟨b1, b2, b3⟩ := bi_blt b
  have hm := g.free _ b1
  have hs := h.imp fun _ _ z => z.star
  have hs2 : isStar e = false ∧ ∃ ts', AllE (fun _ e => isStar e = false) ts' es := by
    cases hs with
    | cons a b => exact ⟨a, _, b⟩
  obtain ⟨ts', hs3⟩ := hs2.2
  have lead : ∀ σ H Q, tF G W (ev call (.bi b ts)) σ H Q → tCB (rBi G b) (tA G W (evs call ts)) σ H Q := fun σ H Q q => by
    obtain ⟨F, α, env, cs, ab, en, po⟩ := q
    simp only [ev] at po
    refine tA_bind (f := fun _ ds cs1 => R.opt (biD b (ds.map (view cs1))) cs1) ab en po fun F1 α1 H1 cs1 ds vs s p a1 en1 r po1 => ?_
    obtain ⟨z, ez, po2⟩ := po1.opt
    exact ⟨F1, _, z, a1.sub, r.views a1, ez, newQ_of a1 po2⟩
  have hcr := call_bi (X := X) g.K g.calm b
  cases b
  case int | list | tuple => exact PE.weak (pe_callTy hcr v1 hm b3 (ok_args h) v3 v2 (star_cons _ _ hs2.1) (stars hs3 pos)) lead
  all_goals exact PE.weak (pe_callB hcr v1 hm b3 (ok_args h) v3 v2 (star_cons _ _ hs2.1) (stars hs3 pos)) lead
end
end PV
end

section
set_option Elab.async false
set_option linter.all false
set_option maxRecDepth 100000
set_option maxHeartbeats 2000000
set_option autoImplicit false
/-! What code gives, the text gives: more constructs. -/
namespace PV
open PySem PySem.Spec PyProof.Rows L2
section
variable {G : Gt} {C : Mc} {W : WX} {L : Addr} {call : Call} {X : Cx}
/-! isinstance -/
theorem ty_blt (t : Ty) : (Str.ofString t.nm) ∈ blts ∧ Str.ofString t.nm ≠ "__name__" ∧ bootBuiltins (Str.ofString t.nm) = some (.type t.nm) := by
  cases t <;> exact ⟨by decide +kernel, by decide +kernel, by decide +kernel⟩
theorem pe_ty (g : Good G C W L call X) {t : Ty} {y : Str} {pos : Pos} (hy : y = Str.ofString t.nm) (hv : glo X.env.scope y = true) : PE X (.Name y pos) (tC (.ty t.nm)) := by
  subst hy
  obtain ⟨v1, v2, v3⟩ := PV.glo_ok hv
  obtain ⟨b1, b2, b3⟩ := ty_blt t
  exact pe_bltn v1 (g.free _ b1) b3 rfl v3 v2
/-- the types' names, one after another -/
def tTys : List Ty → TA
  | [] => tNil
  | t :: ts => tCons (tC (.ty t.nm)) (tTys ts)
theorem pa_tys (g : Good G C W L call X) : ∀ {ts : List Ty} {es : List Expr}, mTys X.env.scope ts es = true → PA X es (tTys ts)
  | [], [], _ => pa_nil
  | [], e :: es, h => by simp [mTys] at h
  | t :: ts, [], h => by simp [mTys] at h
  | t :: ts, e :: es, h => by
    cases e <;> simp only [mTys, Bool.false_eq_true] at h
    next y p =>
      simp only [Bool.and_eq_true, decide_eq_true_eq] at h
      exact pa_cons (pe_ty g h.1.1 h.1.2) (pa_tys g h.2) (star_cons _ _ rfl)
theorem tTys_do {σ : L2.St} {H : Hp} : ∀ (ts : List Ty) {Q : List V → Hp → Prop}, Q (ts.map fun t => V.ty t.nm) H → tTys ts σ H Q
  | [], _, h => h
  | t :: ts, Q, h => by
    show tTys ts σ H fun xs H2 => Q (.ty t.nm :: xs) H2
    exact tTys_do ts h
theorem blt_isi : ("isinstance" : Str) ∈ blts ∧ ("isinstance" : Str) ≠ "__name__" ∧ bootBuiltins "isinstance" = some (.builtin "isinstance") := ⟨by decide +kernel, by decide +kernel, by decide +kernel⟩
theorem ok_isi (g : Good G C W L call X) {a : E} {ts : List Ty} {x : Str} {y z : Expr} {p pos : Pos} (hx : x = "isinstance") (hv : glo X.env.scope x = true) (ha : Ok G W call X a y) (ht : mTy X.env.scope ts z = true) :
    PE X (.Call (.Name x p) [y, z] [] pos) (tE G W (ev call (.isi a ts))) := by
  subst hx
  obtain ⟨v1, v2, v3⟩ := PV.glo_ok hv
  have hm := g.free _ blt_isi.1
  unfold mTy at ht
  split at ht
  · next t y' p' =>
    simp only [Bool.and_eq_true, decide_eq_true_eq] at ht
    have hb := pe_ty (pos := p') g ht.1 ht.2
    refine PE.weak (pe_callB call_isi v1 hm blt_isi.2.2 (pa_cons ha.pe (pa_cons hb pa_nil (star_cons _ _ rfl)) (star_cons _ _ ha.star)) v3 v2 (star_cons _ _ ha.star) rfl) fun σ H Q q => ?_
    obtain ⟨F, α, env, cs, ab, en, po⟩ := q
    simp only [ev] at po
    refine tE_bind (f := fun _ x cs1 => (match isiD (view cs1 x) [t] with
      | some b => R.ok (D.bl b) cs1
      | none => .stuck)) ab en po fun F1 α1 H1 cs1 d v s p a1 en1 r po1 => ?_
    cases hi : isiD (view cs1 d) [t] with
    | none => rw [hi] at po1; exact po1.elim
    | some b =>
      rw [hi] at po1
      obtain ⟨nm, e1, e2⟩ := isiD_inv hi
      refine ⟨v, .ty t.nm, .type nm, .type t.nm, b, rfl, .ty _, tyX_s g.K a1.sub (r.view a1) e1, ?_, po1.here a1 _ rfl⟩
      rw [e2, List.any_cons, List.any_nil, Bool.or_false]
      exact kit_ty (kit_all e1 t)
  · next ts' es k p' hne =>
    rw [Bool.and_eq_true] at ht
    obtain ⟨hz, ht⟩ := ht
    refine PE.weak (pe_callB call_isiT v1 hm blt_isi.2.2 (pa_cons ha.pe (pa_cons (pe_tup (pa_tys g ht)) pa_nil (star_cons _ _ rfl)) (star_cons _ _ ha.star)) v3 v2 (star_cons _ _ ha.star) rfl) fun σ H Q q => ?_
    obtain ⟨F, α, env, cs, ab, en, po⟩ := q
    simp only [ev] at po
    refine tE_bind (f := fun _ x cs1 => (match isiD (view cs1 x) ts with
      | some b => R.ok (D.bl b) cs1
      | none => .stuck)) ab en po fun F1 α1 H1 cs1 d v s p a1 en1 r po1 => ?_
    refine tTys_do ts ⟨?_, fun q hq => ?_⟩
    · rw [List.length_map]
      exact small_line (of_decide_eq_true hz)
    · cases hi : isiD (view cs1 d) ts with
      | none => rw [hi] at po1; exact po1.elim
      | some b =>
        rw [hi] at po1
        obtain ⟨nm, e1, e2⟩ := isiD_inv hi
        have s2 := same_up (o := .tup (ts.map fun t => V.ty t.nm)) hq
        refine ⟨v, q, _, .type nm, _, b, rfl, upd_same, paired_ty ts, tyX_s g.K (same_upd a1.sub (same_none a1.sub hq)) ((r.view a1).mono same_rf s2) e1, ?_, ?_⟩
        · rw [e2]; exact isi_any e1 ts
        · exact po1 F1 α1 _ same_rf (List.prefix_refl _) (a1.idle hq _) _ rfl
  · cases ht
/-! minus, not, if-else -/
theorem ok_neg {a : E} {x : Expr} {pos : Pos} (ha : PE X x (tE G W (ev call a))) : PE X (.UnaryOp .USub x pos) (tE G W (ev call (.neg a))) := by
  refine PE.weak (pe_un un_neg ha) fun σ H Q q => ?_
  obtain ⟨F, α, env, cs, ab, en, po⟩ := q
  simp only [ev] at po
  refine tE_bind (f := fun _ x cs1 => (match x with
      | .int i => R.ok (D.int (-i)) cs1
      | _ => .stuck)) ab en po fun F1 α1 H1 cs1 d v s p a1 en1 r po1 => ?_
  cases d <;> first | exact po1.elim | skip
  cases r
  exact ⟨_, rfl, po1.here a1 _ rfl⟩
theorem ok_not (g : Good G C W L call X) {a : E} {x : Expr} {pos : Pos} (ha : PE X x (tE G W (ev call a))) : PE X (.UnaryOp .Not x pos) (tE G W (ev call (.not a))) := by
  refine PE.weak (pe_notT ha) fun σ H Q q => ?_
  obtain ⟨F, α, env, cs, ab, en, po⟩ := q
  simp only [ev] at po
  refine tE_bind (f := fun _ x cs1 => (match truD (view cs1 x) with
      | some b => R.ok (D.bl (!b)) cs1
      | none => .stuck)) ab en po fun F1 α1 H1 cs1 d v s p a1 en1 r po1 => ?_
  cases ht : truD (view cs1 d) with
  | none => rw [ht] at po1; exact po1.elim
  | some b =>
    rw [ht] at po1
    exact ⟨b, by rw [g.K]; exact tru_rep a1.sub (r.view a1) ht, po1.here a1 _ rfl⟩
theorem ok_ite {c a b : E} {z x y : Expr} {pos : Pos} (hc : PT X z (tT G W (tst call c))) (ha : PE X x (tE G W (ev call a))) (hb : PE X y (tE G W (ev call b))) : PE X (.IfExp z x y pos) (tE G W (ev call (.ite c a b))) := by
  refine PE.weak (pe_ifExp hc ha hb) fun σ H Q q => ?_
  obtain ⟨F, α, env, cs, ab, en, po⟩ := q
  simp only [ev] at po
  refine tT_bind (f := fun env t cs1 => if t then ev call a env cs1 else ev call b env cs1) ab en po fun F1 α1 H1 cs1 t s p a1 en1 po1 => ?_
  cases t with
  | true => exact ⟨F1, α1, env, cs1, a1, en1, po1⟩
  | false => exact ⟨F1, α1, env, cs1, a1, en1, po1⟩
/-! and, or as values -/
theorem ok_and (g : Good G C W L call X) {pos : Pos} : ∀ {ts : List E} {es : List Expr}, AllE (Ok G W call X) ts es → ts ≠ [] → PE X (.BoolOp .And es pos) (tE G W (evAnd call ts))
  | _, _, .nil, h => absurd rfl h
  | _, _, .cons (t := t) a .nil, _ => by
    refine PE.weak (pe_one a.pe) fun σ H Q q => ?_
    obtain ⟨F, α, env, cs, ab, en, po⟩ := q
    simp only [evAnd] at po
    exact ⟨F, α, env, cs, ab, en, po⟩
  | _, _, .cons (t := t) a (.cons (t := t2) (ts := ts) b c), _ => by
    refine PE.weak (pe_andT a.pe (ok_and g (.cons b c) (by simp))) fun σ H Q q => ?_
    obtain ⟨F, α, env, cs, ab, en, po⟩ := q
    simp only [evAnd] at po
    refine tE_bind (f := fun env x cs1 => (match truD (view cs1 x) with
      | some true => evAnd call (t2 :: ts) env cs1
      | some false => R.ok x cs1
      | none => .stuck)) ab en po fun F1 α1 H1 cs1 d v s p a1 en1 r po1 => ?_
    cases ht : truD (view cs1 d) with
    | none => rw [ht] at po1; exact po1.elim
    | some k =>
      rw [ht] at po1
      refine ⟨k, by rw [g.K]; exact tru_rep a1.sub (r.view a1) ht, ?_⟩
      cases k with
      | true => exact ⟨F1, α1, env, cs1, a1, en1, po1⟩
      | false => exact po1.here a1 v r
theorem ok_or (g : Good G C W L call X) {pos : Pos} : ∀ {ts : List E} {es : List Expr}, AllE (Ok G W call X) ts es → ts ≠ [] → PE X (.BoolOp .Or es pos) (tE G W (evOr call ts))
  | _, _, .nil, h => absurd rfl h
  | _, _, .cons (t := t) a .nil, _ => by
    refine PE.weak (pe_one a.pe) fun σ H Q q => ?_
    obtain ⟨F, α, env, cs, ab, en, po⟩ := q
    simp only [evOr] at po
    exact ⟨F, α, env, cs, ab, en, po⟩
  | _, _, .cons (t := t) a (.cons (t := t2) (ts := ts) b c), _ => by
    refine PE.weak (pe_orT a.pe (ok_or g (.cons b c) (by simp))) fun σ H Q q => ?_
    obtain ⟨F, α, env, cs, ab, en, po⟩ := q
    simp only [evOr] at po
    refine tE_bind (f := fun env x cs1 => (match truD (view cs1 x) with
      | some false => evOr call (t2 :: ts) env cs1
      | some true => R.ok x cs1
      | none => .stuck)) ab en po fun F1 α1 H1 cs1 d v s p a1 en1 r po1 => ?_
    cases ht : truD (view cs1 d) with
    | none => rw [ht] at po1; exact po1.elim
    | some k =>
      rw [ht] at po1
      refine ⟨k, by rw [g.K]; exact tru_rep a1.sub (r.view a1) ht, ?_⟩
      cases k with
      | false => exact ⟨F1, α1, env, cs1, a1, en1, po1⟩
      | true => exact po1.here a1 v r
theorem tF_bind {β : Type} {m : Env → Cells → R D} {f : Env → D → Cells → R β} {σ : L2.St} {H : Hp} {F : Hp} {α : List Addr} {env : Env} {cs : Cells} {Q : Hp → List Addr → Hp → Cells → β → Prop} {R' : VK} (ab : Ab G F α H cs) (en : EnvR G F α env σ)
    (po : Post G W σ F α ((m env cs).bind (f env)) Q)
    (k1 : ∀ F1 α1 H1 cs1 d v, Same F F1 → α <+: α1 → Ab G F1 α1 H1 cs1 → EnvR G F1 α1 env σ → isLst d = false → RepV G F1 α1 d v → Post G W σ F1 α1 (f env d cs1) Q → R' v H1)
    (k2 : ∀ F1 α1 H1 cs1 xs p vs, Same F F1 → α <+: α1 → Ab G F1 α1 H1 cs1 → EnvR G F1 α1 env σ → F1 p = none → p ∉ α1 → H1 p = some (.lst vs) → Reps G F1 xs vs → Post G W σ F1 α1 (f env (.lst xs) cs1) Q → R' (.ref p) H1) : tF G W m σ H R' :=
  ⟨F, α, env, cs, ab, en, (Post.bind po).imp fun F' α' H' cs' b s p a q => ⟨fun hb v r => k1 F' α' H' cs' b v s p a (en.mono s p) hb r q, fun xs p' vs e h1 h2 h3 h4 => by subst e; exact k2 F' α' H' cs' xs p' vs s p a (en.mono s p) h1 h2 h3 h4 q⟩⟩
/-- what is wanted of a result, as tF wants it -/
abbrev KF (G : Gt) (Q : VK) : Hp → List Addr → Hp → Cells → D → Prop := fun F' α' H' _ d => (isLst d = false → ∀ v, RepV G F' α' d v → Q v H') ∧ ∀ xs p vs, d = .lst xs → F' p = none → p ∉ α' → H' p = some (.lst vs) → Reps G F' xs vs → Q (.ref p) H'
/-! a row of new lists, by or -/
theorem ok_orF (g : Good G C W L call X) {pos : Pos} : ∀ {ts : List E} {es : List Expr}, AllE (fun t e => PE X e (tF G W (ev call t))) ts es → ts ≠ [] → PE X (.BoolOp .Or es pos) (tF G W (evOr call ts))
  | _, _, .nil, h => absurd rfl h
  | _, _, .cons (t := t) a .nil, _ => by
    refine PE.weak (pe_one a) fun σ H Q q => ?_
    obtain ⟨F, α, env, cs, ab, en, po⟩ := q
    simp only [evOr] at po
    exact ⟨F, α, env, cs, ab, en, po⟩
  | _, _, .cons (t := t) a (.cons (t := t2) (ts := ts) b c), _ => by
    refine PE.weak (pe_orT a (ok_orF g (.cons b c) (by simp))) fun σ H Q q => ?_
    obtain ⟨F, α, env, cs, ab, en, po⟩ := q
    simp only [evOr] at po
    refine tF_bind (f := fun env x cs1 => (match truD (view cs1 x) with
      | some false => evOr call (t2 :: ts) env cs1
      | some true => R.ok x cs1
      | none => .stuck)) ab en po (fun F1 α1 H1 cs1 d v s p a1 en1 hd r po1 => ?_) (fun F1 α1 H1 cs1 xs p' vs s p a1 en1 h1 h2 h3 h4 po1 => ?_)
    · cases ht : truD (view cs1 d) with
      | none => rw [ht] at po1; exact po1.elim
      | some k =>
        rw [ht] at po1
        refine ⟨k, by rw [g.K]; exact tru_rep a1.sub (r.view a1) ht, ?_⟩
        cases k with
        | false => exact ⟨F1, α1, env, cs1, a1, en1, po1⟩
        | true => exact (po1.here a1).1 hd v r
    · have ht : truD (view cs1 (.lst xs)) = some (!xs.isEmpty) := rfl
      rw [ht] at po1
      have hl := h4.len
      refine ⟨!xs.isEmpty, .inl ⟨vs, SqL.of h3, by cases xs <;> cases vs <;> simp_all⟩, ?_⟩
      cases hx : (!xs.isEmpty) with
      | false =>
        rw [hx] at po1
        exact ⟨F1, α1, env, cs1, a1, en1, po1⟩
      | true =>
        rw [hx] at po1
        exact (po1.here a1).2 xs p' vs rfl h1 h2 h3 h4
/-! a list of one's own -/
theorem ok_mk {a : E} {x : Expr} (hf : isFresh a = true) (ha : PE X x (tF G W (ev call a))) : PE X x (tE G W (ev call (.mk a))) := by
  refine PE.weak ha fun σ H Q q => ?_
  obtain ⟨F, α, env, cs, ab, en, po⟩ := q
  simp only [ev, hf, if_true] at po
  refine tF_bind (f := fun _ d cs1 => (match d with
      | .lst xs => R.ok (D.own cs1.length) (cs1 ++ [⟨true, .lst xs⟩])
      | _ => .stuck)) ab en po (fun F1 α1 H1 cs1 d v s p a1 en1 hd r po1 => ?_) (fun F1 α1 H1 cs1 xs p' vs s p a1 en1 h1 h2 h3 h4 po1 => ?_)
  · cases d <;> first | exact po1.elim | exact absurd hd (by simp [isLst])
  · have hl := a1.len
    refine po1 F1 (α1 ++ [p']) H1 same_rf (List.prefix_append _ _) ⟨a1.sub, by simp [hl], ?_, fun n b c eb ec => ?_⟩ _ ⟨p', ?_, rfl⟩
    · rw [List.nodup_append]
      refine ⟨a1.nd, by simp, fun b hb c hc => ?_⟩
      simp only [List.mem_singleton] at hc
      subst hc
      intro e
      subst e
      exact h2 hb
    · by_cases hn : n < cs1.length
      · rw [List.getElem?_append_left hn] at ec
        rw [List.getElem?_append_left (by omega)] at eb
        exact a1.cell n b c eb ec
      · have hn' : n = cs1.length := by
          have := (List.getElem?_eq_some_iff.mp ec).1
          simp at this
          omega
        subst hn'
        rw [List.getElem?_append_right (by omega)] at ec eb
        rw [hl] at eb
        simp at eb ec
        subst eb ec
        exact ⟨⟨_, h3, ⟨vs, rfl, h4⟩, fun _ => h1, fun z => Bool.noConfusion z⟩⟩
    · rw [List.getElem?_append_right (by omega), hl]
      simp
/-! subscripts -/
def rIdx (G : Gt) : R2 := fun x y H Q => ∃ F a i z, Same F H ∧ RepW G F H a x ∧ y = .int i ∧ idxD a (.int i) = some z ∧ ∀ v, Rep G F z v → Q v H
theorem ix_ok (hK : X.K = G.K) : IxR X (rIdx G) := by
  intro value slice pins s σ H x y v u Q I rx ry h hs
  obtain ⟨F, a, i, z, sub, ra, rfl, e, q⟩ := h
  cases a <;> simp only [idxD, reduceCtorEq] at e
  case tup xs =>
    obtain ⟨p, vs, rfl, h1, r1⟩ := ra
    obtain ⟨w, e1, e2⟩ := r1.at' e
    exact ix_seq value slice pins s σ H _ _ v u Q I rx ry (.inr (.inl ⟨p, vs, i, w, rfl, rfl, by rw [hK]; exact Same.sqT sub h1, e1, q w e2⟩)) hs
  case lst xs =>
    obtain ⟨p, vs, rfl, h1, r1⟩ := ra
    obtain ⟨w, e1, e2⟩ := r1.at' e
    exact ix_seq value slice pins s σ H _ _ v u Q I rx ry (.inl ⟨p, vs, i, w, rfl, rfl, SqL.of h1, e1, q w e2⟩) hs
  case scr xs =>
    obtain ⟨p, vs, rfl, h1, r1⟩ := ra
    obtain ⟨w, e1, e2⟩ := r1.at' e
    exact ix_seq value slice pins s σ H _ _ v u Q I rx ry (.inl ⟨p, vs, i, w, rfl, rfl, by rw [hK]; exact Same.sqL sub h1, e1, q w e2⟩) hs
theorem plainIx {e : Expr} (h : isSlice e = false) : PlainIx e := by
  intro o i
  cases e <;> first | rfl | simp [isSlice] at h
theorem ok_idx (g : Good G C W L call X) {a i : E} {x y : Expr} {pos : Pos} (hs : isSlice y = false) (ha : PE X x (tE G W (ev call a))) (hi : PE X y (tE G W (ev call i))) : PE X (.Subscript x y pos) (tE G W (ev call (.idx a i))) := by
  refine PE.weak (pe_ix (ix_ok g.K) ha hi (plainIx hs)) fun σ H Q q => ?_
  obtain ⟨F, α, env, cs, ab, en, po⟩ := q
  simp only [ev] at po
  refine tE_bind (f := fun env x cs1 => (ev call i env cs1).bind fun y cs2 => R.opt (idxD (view cs2 x) y) cs2) ab en po fun F1 α1 H1 cs1 d v s p a1 en1 r po1 => ?_
  refine tE_bind (f := fun env y cs2 => R.opt (idxD (view cs2 d) y) cs2) a1 en1 po1 fun F2 α2 H2 cs2 d2 v2 s2 p2 a2 en2 r2 po2 => ?_
  obtain ⟨z, ez, po3⟩ := po2.opt
  have hj : ∃ j, d2 = .int j := by
    cases hv : view cs2 d <;> rw [hv] at ez <;> cases d2 <;> simp only [idxD, reduceCtorEq] at ez <;> exact ⟨_, rfl⟩
  obtain ⟨j, rfl⟩ := hj
  cases r2
  exact ⟨F2, _, j, z, a2.sub, (r.mono s2 p2).view a2, rfl, ez, fun w rw' => po3.here a2 w (rep_v rw')⟩
def rCut (G : Gt) : V → Option Int → Option Int → Hp → VK → Prop := fun x lo hi H Q => ∃ F a z, Same F H ∧ RepW G F H a x ∧ cutD a lo hi = some z ∧ NewQ G F z H Q
theorem cut_ok (hK : X.K = G.K) : SlR X (rCut G) := by
  intro pins s σ H x v vl vu lo hi sl Q I rx hs pl pu h
  obtain ⟨F, a, z, sub, ra, e, q⟩ := h
  cases a <;> simp only [cutD, reduceCtorEq, Option.some.injEq] at e <;> subst e
  case tup xs =>
    have ra' := ra
    obtain ⟨p, vs, rfl, h1, r1⟩ := ra
    refine sl_tupA pins s σ H _ v vl vu lo hi sl Q I rx hs pl pu ⟨p, vs, rfl, by rw [hK]; exact Same.sqT sub h1, fun w => ?_, fun w p' hp => ?_⟩
    · refine q.1 _ ?_
      have e : cut xs lo hi = xs := by
        unfold cut
        have hl := r1.len
        rw [sIx_eq, sIx_eq, hl, w.1, w.2, ← hl]
        simp
      rw [e]
      exact ra'
    · have := q.2 p' _ hp (r1.cut lo hi)
      rw [cut_eq] at this
      exact this
  case lst xs =>
    obtain ⟨p, vs, rfl, h1, r1⟩ := ra
    refine sl_list pins s σ H _ v vl vu lo hi sl Q I rx hs pl pu ⟨p, vs, rfl, SqL.of h1, fun p' hp => ?_⟩
    have := q p' _ hp (r1.cut lo hi)
    rw [cut_eq] at this
    exact this
  case scr xs =>
    obtain ⟨p, vs, rfl, h1, r1⟩ := ra
    refine sl_list pins s σ H _ v vl vu lo hi sl Q I rx hs pl pu ⟨p, vs, rfl, by rw [hK]; exact Same.sqL sub h1, fun p' hp => ?_⟩
    have := q p' _ hp (r1.cut lo hi)
    rw [cut_eq] at this
    exact this
/-- a part of a slice -/
def tO (G : Gt) (W : WX) (b : Bool) (m : Env → Cells → R D) : TO := fun σ H Q => ∃ F α env cs, Ab G F α H cs ∧ EnvR G F α env σ ∧ Post G W σ F α (if b then m env cs else .ok .non cs) fun _ _ H' _ d => ∃ o, partD b d = some o ∧ Q o H'
theorem PO.weak {o : Option Expr} {t t' : TO} (h : PO X o t) (k : ∀ σ H Q, t' σ H Q → t σ H Q) : PO X o t' := ⟨fun pins s σ H Q I q => h.run pins s σ H Q I (k σ H Q q)⟩
theorem po_part {a : E} {y : Expr} (ha : PE X y (tE G W (ev call a))) : PO X (some y) (tO G W true (ev call a)) := by
  refine PO.weak (po_some ha) fun σ H Q q => ?_
  obtain ⟨F, α, env, cs, ab, en, po⟩ := q
  simp only [if_true] at po
  refine ⟨F, α, env, cs, ab, en, po.imp fun F' α' H' cs' d s p a1 hd v r => ?_⟩
  obtain ⟨o, e1, q⟩ := hd
  cases d <;> simp only [partD, reduceCtorEq, Option.some.injEq] at e1
  subst e1
  cases r
  exact ⟨_, rfl, q⟩
theorem po_omit {m : Env → Cells → R D} : PO X none (tO G W false m) := by
  refine PO.weak po_none fun σ H Q q => ?_
  obtain ⟨F, α, env, cs, ab, en, po⟩ := q
  simp only [Bool.false_eq_true, if_false] at po
  obtain ⟨o, e, q⟩ := po.here ab
  simp only [partD, Option.some.injEq] at e
  subst e
  exact q
theorem ok_slcF (g : Good G C W L call X) {a lo hi : E} {bl bh : Bool} {x : Expr} {l h : Option Expr} {p2 pos : Pos} (ha : PE X x (tE G W (ev call a))) (hl : PO X l (tO G W bl (ev call lo))) (hh : PO X h (tO G W bh (ev call hi))) :
    PE X (.Subscript x (.Slice l h none p2) pos) (tF G W (ev call (.slc a bl bh lo hi))) := by
  refine PE.weak (pe_slice (cut_ok g.K) ha hl hh) fun σ H Q q => ?_
  obtain ⟨F, α, env, cs, ab, en, po⟩ := q
  simp only [ev] at po
  refine tE_bind (f := fun env x cs1 => (if bl then ev call lo env cs1 else .ok .non cs1).bind fun l cs2 => (R.opt (partD bl l) cs2).bind fun l' cs3 => (if bh then ev call hi env cs3 else .ok .non cs3).bind fun h cs4 => (R.opt (partD bh h) cs4).bind fun h' cs5 => R.opt (cutD (view cs5 x) l' h') cs5) ab en po fun F1 α1 H1 cs1 d v s p a1 en1 r po1 => ?_
  refine ⟨F1, α1, env, cs1, a1, en1, po1.bind.imp fun F2 α2 H2 cs2 d2 s2 p2 a2 po2 => ?_⟩
  cases hd2 : partD bl d2 with
  | none => rw [hd2] at po2; exact po2.elim
  | some l' =>
    rw [hd2] at po2
    refine ⟨l', rfl, F2, α2, env, cs2, a2, en1.mono s2 p2, Post.imp (Post.bind po2) fun F3 α3 H3 cs3 d3 s3 p3 a3 po3 => ?_⟩
    cases hd3 : partD bh d3 with
    | none => rw [hd3] at po3; exact po3.elim
    | some h' =>
      rw [hd3] at po3
      obtain ⟨z, ez, po4⟩ := Post.opt (show Post G W σ F3 α3 (R.opt (cutD (view cs3 d) l' h') cs3) _ from po3)
      exact ⟨h', rfl, F3, _, z, a3.sub, ((r.mono s2 p2).mono s3 p3).view a3, ez, newQ_of a3 po4⟩
theorem ok_revF (g : Good G C W L call X) {a : E} {x : Expr} {k : Nat} {q1 q2 q3 pos : Pos} (ha : PE X x (tE G W (ev call a))) : PE X (.Subscript x (.Slice none none (some (.UnaryOp .USub (.Constant (.int 1) k q1) q2)) q3) pos) (tF G W (ev call (.rev a))) := by
  refine PE.weak (pe_revL ha) fun σ H Q q => ?_
  obtain ⟨F, α, env, cs, ab, en, po⟩ := q
  simp only [ev] at po
  refine tE_bind (f := fun _ x cs1 => (match view cs1 x with
    | .lst xs => R.ok (D.lst xs.reverse) cs1
    | _ => .stuck)) ab en po fun F1 α1 H1 cs1 d v s p a1 en1 r po1 => ?_
  have rv := r.view a1
  cases hv : view cs1 d <;> rw [hv] at po1 rv <;> first | exact po1.elim | skip
  next xs =>
    obtain ⟨b, vs, rfl, h1, r1⟩ := rv
    exact ⟨b, vs, rfl, SqL.of h1, fun q hq => newQ_of a1 po1 q _ hq r1.reverse⟩
/-! list(range(..)), tuple(range(..)) -/
theorem reps_rgs {F : Hp} : ∀ (n : Nat) (a : Int), Reps G F (rngs a 1 n) ((List.range n).map fun i => V.int (a + (i : Nat)))
  | 0, _ => rfl
  | n + 1, a => by
    rw [List.range_succ_eq_map, List.map_cons, List.map_map]
    have h := reps_rgs (F := F) n (a + 1)
    have e : ((fun i : Nat => V.int (a + (i : Nat))) ∘ Nat.succ) = fun i : Nat => V.int (a + 1 + (i : Nat)) := by
      funext i
      show V.int (a + ((i + 1 : Nat) : Int)) = _
      congr 1
      omega
    rw [e]
    have ez : a + ((0 : Nat) : Int) = a := by omega
    rw [ez]
    exact ⟨.int a, _, rfl, rfl, h⟩
theorem rngOk_le {i : Int} (h : rngOk i = true) : -1000000 ≤ i ∧ i ≤ 1000000 := by
  unfold rngOk at h
  rw [Bool.and_eq_true] at h
  exact ⟨of_decide_eq_true h.1, of_decide_eq_true h.2⟩
def rgArgs : List E → Bool
  | [_] => true
  | [_, _] => true
  | _ => false
/-- what is known of a range's bounds -/
theorem ok_prg (g : Good G C W L call X) {ts : List E} {es : List Expr} {p pos : Pos} (hv : glo X.env.scope "range" = true) (h : AllE (Ok G W call X) ts es) (hl : es.length = 1 ∨ es.length = 2) :
    ∃ t, PRg X (.Call (.Name "range" p) es [] pos) t ∧ ∀ {σ H} {R' : Int → Int → Hp → Prop} {β : Type} {f : Env → List D → Cells → R β} {F α env cs} {Q : Hp → List Addr → Hp → Cells → β → Prop}, Ab G F α H cs → EnvR G F α env σ → Post G W σ F α ((evs call ts env cs).bind (f env)) Q →
      (∀ env ds c, itemsOf .rng ds = none → f env ds c = .stuck) → (∀ F1 α1 H1 cs1 ds a b, Same F F1 → α <+: α1 → Ab G F1 α1 H1 cs1 → RgOk a b → itemsOf .rng ds = some (rngs a 1 (b - a).toNat) → Post G W σ F1 α1 (f env ds cs1) Q → R' a b H1) → t σ H R' := by
  obtain ⟨v1, v2, v3⟩ := PV.glo_ok hv
  have hm := g.free "range" (by decide +kernel)
  cases h with
  | nil => simp at hl
  | cons a b =>
    cases b with
    | nil =>
      rename_i t e
      refine ⟨_, prg_1 v1 hm a.pe (star_cons _ _ a.star), fun {σ H R' β f F α env cs Q} ab en po hst hk => ?_⟩
      simp only [evs] at po
      have po' : Post G W σ F α ((ev call t env cs).bind fun d cs1 => f env [d] cs1) Q := by
        cases he : ev call t env cs with
        | ok d c => rw [he] at po; exact po
        | exc y c => rw [he] at po; exact po
        | stuck => rw [he] at po; exact po
      refine tE_bind (f := fun env d cs1 => f env [d] cs1) ab en po' fun F1 α1 H1 cs1 d v s p a1 en1 r po1 => ?_
      cases hi : itemsOf .rng [d] with
      | none => rw [hst _ _ _ hi] at po1; exact po1.elim
      | some xs =>
        have hi' := hi
        cases d <;> simp only [itemsOf, reduceCtorEq] at hi
        next n =>
          split at hi
          · next hr =>
            have hb := rngOk_le hr
            cases r
            refine ⟨n, rfl, hk F1 α1 H1 cs1 [.int n] 0 n s p a1 ⟨by omega, by omega, by omega, by omega, by omega⟩ ?_ po1⟩
            rw [hi', ← Option.some.inj hi, Int.sub_zero]
          · cases hi
    | cons b c =>
      cases c with
      | nil =>
        rename_i t e t2 e2
        refine ⟨_, prg_2 v1 hm a.pe b.pe (star_cons _ _ a.star) (star_cons _ _ b.star) (by rw [star_cons _ _ b.star]; rfl), fun {σ H R' β f F α env cs Q} ab en po hst hk => ?_⟩
        simp only [evs] at po
        have po' : Post G W σ F α ((ev call t env cs).bind fun d cs1 => (ev call t2 env cs1).bind fun d2 cs2 => f env [d, d2] cs2) Q := by
          cases he : ev call t env cs with
          | ok d c =>
            rw [he] at po
            simp only [R.bind] at po ⊢
            cases he2 : ev call t2 env c with
            | ok d2 c2 => rw [he2] at po; exact po
            | exc y c2 => rw [he2] at po; exact po
            | stuck => rw [he2] at po; exact po
          | exc y c => rw [he] at po; exact po
          | stuck => rw [he] at po; exact po
        refine tE_bind (f := fun env d cs1 => (ev call t2 env cs1).bind fun d2 cs2 => f env [d, d2] cs2) ab en po' fun F1 α1 H1 cs1 d v s p a1 en1 r po1 => ?_
        refine tE_bind (f := fun env d2 cs2 => f env [d, d2] cs2) a1 en1 po1 fun F2 α2 H2 cs2 d2 v2 s2 p2 a2 en2 r2 po2 => ?_
        cases hi : itemsOf .rng [d, d2] with
        | none => rw [hst _ _ _ hi] at po2; exact po2.elim
        | some xs =>
          have hi' := hi
          cases d <;> cases d2 <;> simp only [itemsOf, reduceCtorEq] at hi
          next i j =>
            split at hi
            · next hr =>
              rw [Bool.and_eq_true] at hr
              have hb := rngOk_le hr.1
              have hb2 := rngOk_le hr.2
              cases r
              cases r2
              refine ⟨i, j, rfl, rfl, hk F2 α2 H2 cs2 [.int i, .int j] i j (same_tr s s2) (p.trans p2) a2 ⟨by omega, by omega, by omega, by omega, by omega⟩ ?_ po2⟩
              rw [hi', ← Option.some.inj hi]
            · cases hi
      | cons c d => simp at hl
theorem ok_rngF (g : Good G C W L call X) {tu : Bool} {ts : List E} {x y : Str} {es : List Expr} {p q pos pos2 : Pos} (hx : x = if tu then ("tuple" : Str) else ("list" : Str)) (hvx : glo X.env.scope x = true) (hy : y = "range") (hvy : glo X.env.scope y = true)
    (h : AllE (Ok G W call X) ts es) (hl : es.length = 1 ∨ es.length = 2) : PE X (.Call (.Name x p) [.Call (.Name y q) es [] pos] [] pos2) (tF G W (ev call (.rng tu ts))) := by
  subst hx hy
  obtain ⟨t, hp, ht⟩ := ok_prg (p := q) (pos := pos) g hvy h hl
  obtain ⟨v1, v2, v3⟩ := PV.glo_ok hvx
  cases tu with
  | false =>
    refine PE.weak (pe_listRg g.calm v1 (g.free "list" (by decide +kernel)) hp) fun σ H Q qq => ?_
    obtain ⟨F, α, env, cs, ab, en, po⟩ := qq
    simp only [ev] at po
    refine ht (f := fun _ ds cs1 => (match itemsOf .rng ds with
      | some xs => R.ok (if false = true then D.tup xs else D.lst xs) cs1
      | none => .stuck)) ab en po (fun _ ds c hn => by rw [hn]) fun F1 α1 H1 cs1 ds a b s p a1 hb hi po1 => ⟨hb, fun q hq => ?_⟩
    rw [hi] at po1
    exact newQ_of a1 po1 q _ hq (reps_rgs _ a)
  | true =>
    refine PE.weak (pe_tupRg g.calm v1 (g.free "tuple" (by decide +kernel)) hp) fun σ H Q qq => ?_
    obtain ⟨F, α, env, cs, ab, en, po⟩ := qq
    simp only [ev] at po
    refine ht (f := fun _ ds cs1 => (match itemsOf .rng ds with
      | some xs => R.ok (if true = true then D.tup xs else D.lst xs) cs1
      | none => .stuck)) ab en po (fun _ ds c hn => by rw [hn]) fun F1 α1 H1 cs1 ds a b s p a1 hb hi po1 => ⟨hb, fun q hq => ?_⟩
    rw [hi] at po1
    exact (newQ_of a1 po1).2 q _ hq (reps_rgs _ a)
end
end PV
end

section
set_option Elab.async false
set_option linter.all false
set_option maxRecDepth 100000
set_option maxHeartbeats 2000000
set_option autoImplicit false
/-! What is walked. -/
namespace PV
open PySem PySem.Spec PyProof.Rows L2
/-- what a turn hands out: an item as it stands, or a new tuple -/
def YldR (G : Gt) (F : Hp) (d : D) (H : Hp) (x : V) (H' : Hp) : Prop := (H' = H ∧ Rep G F d x) ∨ ∃ T vs ds, d = .tup ds ∧ x = .ref T ∧ H T = none ∧ H' = upd H T (.tup vs) ∧ Reps G F ds vs
structure Items (G : Gt) (F0 : Hp) (α0 : List Addr) (J : It) (f : Cells → Option (List D)) : Prop where
  go : ∀ i F α H cs ds d, Same F0 F → α0 <+: α → Ab G F α H cs → f cs = some ds → ds[i]? = some d → J.go i H
  stop : ∀ i F α H cs ds, Same F0 F → α0 <+: α → Ab G F α H cs → f cs = some ds → ds[i]? = none → J.stop i H
  yld : ∀ i F α H cs ds d x H', Same F0 F → α0 <+: α → Ab G F α H cs → f cs = some ds → ds[i]? = some d → J.yld i H x H' → YldR G F d H x H'
def tI (G : Gt) (W : WX) (k : Ik) (m : Env → Cells → R (List D)) : TI := fun σ H R' => ∃ F α env cs, Ab G F α H cs ∧ EnvR G F α env σ ∧ Post G W σ F α (m env cs) fun F' α' H' cs' ds => (itemsOf k (ds.map (view cs'))).isSome = true ∧ kOk k ds = true ∧ ∀ J, Items G F' α' J (fun c => itemsOf k (ds.map (view c))) → R' J H'
section
variable {G : Gt} {C : Mc} {W : WX} {L : Addr} {call : Call} {X : Cx} {tg iter : Expr}
theorem PI.weak {t t' : TI} (h : PI X tg iter t) (k : ∀ σ H Q, t' σ H Q → t σ H Q) : PI X tg iter t' := ⟨fun pins s σ H Q I q => h.run pins s σ H Q I (k σ H Q q)⟩
theorem PI.or {t t' : TI} (h : PI X tg iter t) (h' : PI X tg iter t') : PI X tg iter (fun σ H R => t σ H R ∨ t' σ H R) := ⟨fun pins s σ H Q I q => q.elim (h.run pins s σ H Q I) (h'.run pins s σ H Q I)⟩
theorem sqL_inj {K : PySem.W.Frag} {H : Hp} {a : Addr} {vs ws : List V} (h : H a = some (.lst vs)) (k : K.lookup a = none ∨ True) (q : H a = some (.lst ws)) : vs = ws := by
  rw [h] at q; cases q; rfl
/-- a row that is a list now -/
theorem list_items {F0 : Hp} {α0 : List Addr} {d : D} {a : Addr} (r : RepV G F0 α0 d (.ref a)) (hl : ∀ F α H cs, Same F0 F → α0 <+: α → Ab G F α H cs → ∀ xs, seqOf (view cs d) = some xs → ∃ vs, SqL G.K H a vs ∧ Reps G F xs vs) :
    Items G F0 α0 (Itl G.K a) (fun c => itemsOf .seq ([d].map (view c))) := by
  refine ⟨fun i F α H cs ds e s p ab hf he => ?_, fun i F α H cs ds s p ab hf he => ?_, fun i F α H cs ds e x H' s p ab hf he hy => ?_⟩
  · obtain ⟨vs, h1, h2⟩ := hl F α H cs s p ab ds hf
    obtain ⟨v, h3, _⟩ := h2.get he
    exact ⟨vs, v, h1, h3⟩
  · obtain ⟨vs, h1, h2⟩ := hl F α H cs s p ab ds hf
    exact ⟨vs, h1, by rw [← h2.len]; exact List.getElem?_eq_none_iff.mp he⟩
  · obtain ⟨vs, h1, h2⟩ := hl F α H cs s p ab ds hf
    obtain ⟨v, h3, h4⟩ := h2.get he
    obtain ⟨rfl, h5⟩ := hy
    have := h5 vs h1
    rw [h3] at this
    cases this
    exact .inl ⟨rfl, h4⟩
theorem tup_items {F0 : Hp} {α0 : List Addr} {d : D} {a : Addr} (hl : ∀ F α H cs, Same F0 F → α0 <+: α → Ab G F α H cs → ∀ xs, seqOf (view cs d) = some xs → ∃ vs, SqT G.K H a vs ∧ Reps G F xs vs) :
    Items G F0 α0 (Itt G.K a) (fun c => itemsOf .seq ([d].map (view c))) := by
  refine ⟨fun i F α H cs ds e s p ab hf he => ?_, fun i F α H cs ds s p ab hf he => ?_, fun i F α H cs ds e x H' s p ab hf he hy => ?_⟩
  · obtain ⟨vs, h1, h2⟩ := hl F α H cs s p ab ds hf
    obtain ⟨v, h3, _⟩ := h2.get he
    exact ⟨vs, v, h1, h3⟩
  · obtain ⟨vs, h1, h2⟩ := hl F α H cs s p ab ds hf
    exact ⟨vs, h1, by rw [← h2.len]; exact List.getElem?_eq_none_iff.mp he⟩
  · obtain ⟨vs, h1, h2⟩ := hl F α H cs s p ab ds hf
    obtain ⟨v, h3, h4⟩ := h2.get he
    obtain ⟨rfl, h5⟩ := hy
    have := h5 vs h1
    rw [h3] at this
    cases this
    exact .inl ⟨rfl, h4⟩
/-- the row that a value is, now and later -/
theorem seq_list {F0 H : Hp} {α0 : List Addr} {cs : Cells} {d : D} {v : V} {xs : List D} (ab : Ab G F0 α0 H cs) (r : RepV G F0 α0 d v) (ht : isTupD d = false) (e : seqOf (view cs d) = some xs) :
    ∃ a, v = .ref a ∧ (∃ vs, SqL G.K H a vs) ∧ ∀ F α H cs, Same F0 F → α0 <+: α → Ab G F α H cs → ∀ xs, seqOf (view cs d) = some xs → ∃ vs, SqL G.K H a vs ∧ Reps G F xs vs := by
  cases d with
  | own n =>
    obtain ⟨a, ea, rfl⟩ := r
    have key : ∀ F α H cs, Same F0 F → α0 <+: α → Ab G F α H cs → ∀ xs, seqOf (view cs (.own n)) = some xs → ∃ vs, SqL G.K H a vs ∧ Reps G F xs vs := fun F α H cs s p ab xs e => by
      have rv : RepW G F H (view cs (.own n)) (.ref a) := RepV.view ab ⟨a, pre_get p ea, rfl⟩
      have hcell : ∃ ys, view cs (.own n) = .lst ys := by
        have hn : n < cs.length := by rw [← ab.len]; exact (List.getElem?_eq_some_iff.mp (pre_get p ea)).1
        have ec : cs[n]? = some cs[n] := List.getElem?_eq_getElem hn
        obtain ⟨o, h1, h2, _, _⟩ := (ab.cell n a _ (pre_get p ea) ec).ho
        have ev : view cs (.own n) = cs[n].d := by simp only [view, ec]
        rw [ev]
        cases hd : cs[n].d <;> rw [hd] at h2 <;> first | exact h2.elim | exact ⟨_, rfl⟩
      obtain ⟨ys, hy⟩ := hcell
      rw [hy] at rv e
      obtain ⟨b, vs, eb, h1, h2⟩ := rv
      cases eb
      simp only [seqOf, Option.some.injEq] at e
      subst e
      exact ⟨vs, SqL.of h1, h2⟩
    exact ⟨a, rfl, let ⟨vs, h, _⟩ := key F0 α0 H cs same_rf (List.prefix_refl _) ab xs e; ⟨vs, h⟩, key⟩
  | lst ys =>
    obtain ⟨a, vs, rfl, h1, h2⟩ := r
    refine ⟨a, rfl, ⟨vs, SqL.of (ab.sub _ _ h1)⟩, fun F α H cs s p ab xs e => ?_⟩
    simp only [view, seqOf, Option.some.injEq] at e
    subst e
    exact ⟨vs, SqL.of (ab.sub _ _ (s _ _ h1)), Reps.mono s _ _ h2⟩
  | scr ys =>
    obtain ⟨a, vs, rfl, h1, h2⟩ := r
    refine ⟨a, rfl, ⟨vs, Same.sqL ab.sub h1⟩, fun F α H cs s p ab xs e => ?_⟩
    simp only [view, seqOf, Option.some.injEq] at e
    subst e
    exact ⟨vs, Same.sqL ab.sub (Same.sqL s h1), Reps.mono s _ _ h2⟩
  | tup ys => simp [isTupD] at ht
  | _ => simp [view, seqOf] at e
theorem seq_tup {F0 H : Hp} {α0 : List Addr} {cs : Cells} {ys : List D} {v : V} (ab : Ab G F0 α0 H cs) (r : RepV G F0 α0 (.tup ys) v) :
    ∃ a, v = .ref a ∧ (∃ vs, SqT G.K H a vs) ∧ ∀ F α H cs, Same F0 F → α0 <+: α → Ab G F α H cs → ∀ xs, seqOf (view cs (.tup ys)) = some xs → ∃ vs, SqT G.K H a vs ∧ Reps G F xs vs := by
  obtain ⟨a, vs, rfl, h1, h2⟩ := r
  refine ⟨a, rfl, ⟨vs, Same.sqT ab.sub h1⟩, fun F α H cs s p ab xs e => ?_⟩
  simp only [view, seqOf, Option.some.injEq] at e
  subst e
  exact ⟨vs, Same.sqT ab.sub (Same.sqT s h1), Reps.mono s _ _ h2⟩
theorem pi_seq (g : Good G C W L call X) {a : E} {x : Expr} (ha : PE X x (tE G W (ev call a))) : PI X tg x (tI G W .seq (evs call [a])) := by
  refine PI.weak (PI.or (pi_list (tg := tg) ha) (pi_tup (tg := tg) ha)) fun σ H R' q => ?_
  obtain ⟨F, α, env, cs, ab, en, po⟩ := q
  simp only [evs] at po
  cases he : ev call a env cs with
  | stuck => rw [he] at po; exact po.elim
  | exc y c => left; exact ⟨F, α, env, cs, ab, en, by rw [he] at po ⊢; exact po⟩
  | ok d c =>
    rw [he] at po
    simp only [R.bind] at po
    cases ht : isTupD d with
    | false =>
      left
      refine ⟨F, α, env, cs, ab, en, ?_⟩
      rw [he]
      intro F' α' H' s p a1 v r
      obtain ⟨h1, _, h2⟩ := po F' α' H' s p a1
      obtain ⟨xs, hx⟩ := Option.isSome_iff_exists.mp h1
      obtain ⟨b, rfl, hv, hl⟩ := seq_list a1 r ht hx
      rw [g.K]
      exact ⟨b, rfl, hv, h2 _ (list_items r hl)⟩
    | true =>
      right
      obtain ⟨ys, rfl⟩ : ∃ ys, d = .tup ys := by
        cases d with
        | tup ys => exact ⟨ys, rfl⟩
        | _ => simp [isTupD] at ht
      refine ⟨F, α, env, cs, ab, en, ?_⟩
      rw [he]
      intro F' α' H' s p a1 v r
      obtain ⟨h1, _, h2⟩ := po F' α' H' s p a1
      obtain ⟨b, rfl, hv, hl⟩ := seq_tup a1 r
      rw [g.K]
      exact ⟨b, rfl, hv, h2 _ (tup_items hl)⟩
/-! range -/
theorem rngs_get : ∀ (n : Nat) (lo c : Int) (i : Nat), (rngs lo c n)[i]? = if i < n then some (.int (lo + (i : Nat) * c)) else none
  | 0, lo, c, i => by simp [rngs]
  | n + 1, lo, c, 0 => by simp [rngs]
  | n + 1, lo, c, i + 1 => by
    show (rngs (lo + c) c n)[i]? = _
    rw [rngs_get n (lo + c) c i]
    by_cases h : i < n
    · rw [if_pos h, if_pos (by omega)]
      congr 2
      have : ((i + 1 : Nat) : Int) = (i : Int) + 1 := by omega
      rw [this, Int.add_mul]
      omega
    · rw [if_neg h, if_neg (by omega)]
theorem rng_items {F0 : Hp} {α0 : List Addr} {lo : Int} {n : Nat} {f : Cells → Option (List D)} (hf : ∀ c, f c = some (rngs lo 1 n)) : Items G F0 α0 (Itr lo n) f := by
  refine ⟨fun i F α H cs ds e s p ab hx he => ?_, fun i F α H cs ds s p ab hx he => ?_, fun i F α H cs ds e x H' s p ab hx he hy => ?_⟩
  all_goals
    rw [hf] at hx
    obtain rfl := Option.some.inj hx
    rw [rngs_get] at he
  · split at he
    · assumption
    · cases he
  · split at he
    · cases he
    · show n ≤ i; omega
  · split at he
    · obtain rfl := Option.some.inj he
      obtain ⟨rfl, rfl⟩ := hy
      exact .inl ⟨rfl, by show V.int _ = V.int _; congr 1; omega⟩
    · cases he
theorem rngc_items {F0 : Hp} {α0 : List Addr} {lo c : Int} {n : Nat} {f : Cells → Option (List D)} (hf : ∀ cs, f cs = some (rngs lo c n)) : Items G F0 α0 (Itc lo c n) f := by
  refine ⟨fun i F α H cs ds e s p ab hx he => ?_, fun i F α H cs ds s p ab hx he => ?_, fun i F α H cs ds e x H' s p ab hx he hy => ?_⟩
  all_goals
    rw [hf] at hx
    obtain rfl := Option.some.inj hx
    rw [rngs_get] at he
  · split at he
    · assumption
    · cases he
  · split at he
    · cases he
    · show n ≤ i; omega
  · split at he
    · obtain rfl := Option.some.inj he
      obtain ⟨rfl, rfl⟩ := hy
      exact .inl ⟨rfl, rfl⟩
    · cases he
/-- ints are seen as they are -/
theorem view_int {cs : Cells} {d : D} {i : Int} {F H : Hp} {α : List Addr} {v : V} (ab : Ab G F α H cs) (r : RepV G F α d v) (e : view cs d = .int i) : d = .int i := by
  cases d with
  | own n =>
    obtain ⟨a, ea, rfl⟩ := r
    have hn : n < cs.length := by rw [← ab.len]; exact (List.getElem?_eq_some_iff.mp ea).1
    have ec : cs[n]? = some cs[n] := List.getElem?_eq_getElem hn
    obtain ⟨o, h1, h2, _, _⟩ := (ab.cell n a _ ea ec).ho
    have ev : view cs (.own n) = cs[n].d := by simp only [view, ec]
    rw [ev] at e
    rw [e] at h2
    exact h2.elim
  | _ => exact e
theorem bind_ok {β : Type} (r : R β) : (r.bind fun d c => R.ok d c) = r := by cases r <;> rfl
theorem tI_A {k : Ik} {ts : List E} {σ : L2.St} {H : Hp} {R' : It → Hp → Prop} (q : tI G W k (evs call ts) σ H R') {Q : List V → Hp → Prop}
    (h : ∀ F α H1 cs ds vs, Ab G F α H1 cs → RepVs G F α ds vs → ds.length = ts.length → (itemsOf k (ds.map (view cs))).isSome = true → kOk k ds = true → (∀ J, Items G F α J (fun c => itemsOf k (ds.map (view c))) → R' J H1) → Q vs H1) : tA G W (evs call ts) σ H Q := by
  obtain ⟨F, α, env, cs, ab, en, po⟩ := q
  refine tA_of (f := fun _ ds c => R.ok ds c) ab en (by rw [bind_ok]; exact po) fun F1 α1 H1 cs1 ds vs s p a1 en1 r hl po1 => ?_
  obtain ⟨h1, hk, h2⟩ := po1.here a1
  exact h F1 α1 H1 cs1 ds vs a1 r (r.len.trans hl) h1 hk h2
theorem len1 {α : Type} {xs : List α} (h : xs.length = 1) : ∃ a, xs = [a] := by
  match xs, h with
  | [a], _ => exact ⟨a, rfl⟩
theorem len2 {α : Type} {xs : List α} (h : xs.length = 2) : ∃ a b, xs = [a, b] := by
  match xs, h with
  | [a, b], _ => exact ⟨a, b, rfl⟩
theorem len3 {α : Type} {xs : List α} (h : xs.length = 3) : ∃ a b c, xs = [a, b, c] := by
  match xs, h with
  | [a, b, c], _ => exact ⟨a, b, c, rfl⟩
theorem isInt {d : D} (h : ∃ i, d = .int i) : True := trivial
theorem pi_rng (g : Good G C W L call X) {ts : List E} {es : List Expr} {p pos : Pos} (hv : glo X.env.scope "range" = true) (h : AllE (Ok G W call X) ts es) (hl : es.length = 1 ∨ es.length = 2 ∨ es.length = 3) : PI X tg (.Call (.Name "range" p) es [] pos) (tI G W .rng (evs call ts)) := by
  obtain ⟨v1, v2, v3⟩ := PV.glo_ok hv
  have hm := g.free "range" (by decide +kernel)
  have hargs := ok_args h
  have hst : AllE (fun _ e => isStar e = false) ts es := h.imp fun _ _ z => z.star
  have hlen := h.len
  rcases hl with hl | hl | hl
  · obtain ⟨e, rfl⟩ := len1 hl
    obtain ⟨t, rfl⟩ := len1 (hlen.trans hl)
    have s1 : isStar e = false := by cases hst with | cons a b => exact a
    refine PI.weak (pi_range1 v1 hm hargs (star_cons _ _ s1)) fun σ H R' q => tI_A q fun F α H1 cs ds vs ab r hd hi _ hJ => ?_
    obtain ⟨d, rfl⟩ := len1 hd
    obtain ⟨v, _, rfl, rd, rfl⟩ := r
    obtain ⟨n, hn, hr⟩ : ∃ n, view cs d = .int n ∧ rngOk n = true := by
      cases hvw : view cs d <;> simp only [List.map, hvw, itemsOf, Option.isSome_none, Bool.false_eq_true] at hi
      next n => split at hi <;> first | exact ⟨n, rfl, by assumption⟩ | cases hi
    obtain rfl := view_int ab rd hn
    cases rd
    have hb := rngOk_le hr
    refine ⟨n, rfl, by omega, by omega, hJ _ (rng_items fun c => ?_)⟩
    simp only [List.map, view, itemsOf, hr, if_true]
  · obtain ⟨e, e2, rfl⟩ := len2 hl
    obtain ⟨t, t2, rfl⟩ := len2 (hlen.trans hl)
    have s1 : isStar e = false ∧ isStar e2 = false := by
      cases hst with
      | cons a b => cases b with | cons b c => exact ⟨a, b⟩
    refine PI.weak (pi_range2 v1 hm hargs (by rw [star_cons _ _ s1.1, star_cons _ _ s1.2]; rfl) (by rw [star_cons _ _ s1.2]; rfl)) fun σ H R' q => tI_A q fun F α H1 cs ds vs ab r hd hi _ hJ => ?_
    obtain ⟨d, d2, rfl⟩ := len2 hd
    obtain ⟨v, _, rfl, rd, v2, _, rfl, rd2, rfl⟩ := r
    obtain ⟨n, n2, hn, hn2, hr⟩ : ∃ n n2, view cs d = .int n ∧ view cs d2 = .int n2 ∧ (rngOk n && rngOk n2) = true := by
      cases hvw : view cs d <;> cases hvw2 : view cs d2 <;> simp only [List.map, hvw, hvw2, itemsOf, Option.isSome_none, Bool.false_eq_true] at hi
      next n n2 => split at hi <;> first | exact ⟨n, n2, rfl, rfl, by assumption⟩ | cases hi
    obtain rfl := view_int ab rd hn
    obtain rfl := view_int ab rd2 hn2
    cases rd
    cases rd2
    rw [Bool.and_eq_true] at hr
    have hb := rngOk_le hr.1
    have hb2 := rngOk_le hr.2
    refine ⟨n, n2, rfl, ⟨by omega, by omega, by omega, by omega⟩, hJ _ (rng_items fun c => ?_)⟩
    simp only [List.map, view, itemsOf, hr.1, hr.2, Bool.and_self, if_true]
  · obtain ⟨e, e2, e3, rfl⟩ := len3 hl
    obtain ⟨t, t2, t3, rfl⟩ := len3 (hlen.trans hl)
    have s1 : isStar e = false ∧ isStar e2 = false ∧ isStar e3 = false := by
      cases hst with
      | cons a b => cases b with | cons b c => cases c with | cons c d => exact ⟨a, b, c⟩
    refine PI.weak (pi_range3 v1 hm hargs (star_cons _ _ s1.1) (by rw [star_cons _ _ s1.2.1, star_cons _ _ s1.2.2]; rfl)) fun σ H R' q => tI_A q fun F α H1 cs ds vs ab r hd hi _ hJ => ?_
    obtain ⟨d, d2, d3, rfl⟩ := len3 hd
    obtain ⟨v, _, rfl, rd, v2, _, rfl, rd2, v3, _, rfl, rd3, rfl⟩ := r
    obtain ⟨n, n2, n3, hn, hn2, hn3, hr⟩ : ∃ n n2 n3, view cs d = .int n ∧ view cs d2 = .int n2 ∧ view cs d3 = .int n3 ∧ (rngOk n && rngOk n2 && decide (n3 = -1)) = true := by
      cases hvw : view cs d <;> cases hvw2 : view cs d2 <;> cases hvw3 : view cs d3 <;> simp only [List.map, hvw, hvw2, hvw3, itemsOf, Option.isSome_none, Bool.false_eq_true] at hi
      next n n2 n3 => split at hi <;> first | exact ⟨n, n2, n3, rfl, rfl, rfl, by assumption⟩ | cases hi
    obtain rfl := view_int ab rd hn
    obtain rfl := view_int ab rd2 hn2
    obtain rfl := view_int ab rd3 hn3
    cases rd
    cases rd2
    cases rd3
    have hr0 := hr
    rw [Bool.and_eq_true, Bool.and_eq_true] at hr
    have hb := rngOk_le hr.1.1
    have hb2 := rngOk_le hr.1.2
    obtain rfl := of_decide_eq_true hr.2
    refine ⟨n, n2, -1, _, rfl, RgC.neg (by omega) (by omega) (by omega) (by omega), hJ _ (rngc_items fun c => ?_)⟩
    exact if_pos hr0
/-! enumerate -/
theorem enum_get : ∀ (xs : List D) (k : Int) (i : Nat), (enumD k xs)[i]? = (xs[i]?).map fun x => .tup [.int (k + (i : Nat)), x]
  | [], k, i => by simp [enumD]
  | x :: xs, k, 0 => by simp [enumD]
  | x :: xs, k, i + 1 => by
    simp only [enumD, List.getElem?_cons_succ]
    rw [enum_get xs (k + 1) i]
    congr 1
    funext y
    congr 3
    have : ((i + 1 : Nat) : Int) = (i : Int) + 1 := by omega
    omega
theorem enum_items {F0 : Hp} {α0 : List Addr} {d : D} {a : Addr} (hl : ∀ F α H cs, Same F0 F → α0 <+: α → Ab G F α H cs → ∀ xs, seqOf (view cs d) = some xs → ∃ vs, SqL G.K H a vs ∧ Reps G F xs vs) :
    Items G F0 α0 (Ite G.K a) (fun c => itemsOf .enum ([d].map (view c))) := by
  have key : ∀ F α H cs ds, Same F0 F → α0 <+: α → Ab G F α H cs → itemsOf .enum ([d].map (view cs)) = some ds → ∃ xs vs, ds = enumD 0 xs ∧ SqL G.K H a vs ∧ Reps G F xs vs := fun F α H cs ds s p ab hf => by
    simp only [List.map, itemsOf] at hf
    split at hf
    · next xs hx =>
      obtain ⟨vs, h1, h2⟩ := hl F α H cs s p ab xs hx
      exact ⟨xs, vs, (Option.some.inj hf).symm, h1, h2⟩
    · cases hf
  refine ⟨fun i F α H cs ds e s p ab hf he => ?_, fun i F α H cs ds s p ab hf he => ?_, fun i F α H cs ds e x H' s p ab hf he hy => ?_⟩
  all_goals
    obtain ⟨xs, vs, rfl, h1, h2⟩ := key F α H cs _ s p ab hf
    rw [enum_get] at he
  · cases hx : xs[i]? with
    | none => rw [hx] at he; cases he
    | some y =>
      obtain ⟨v, h3, _⟩ := h2.get hx
      exact ⟨vs, v, h1, h3⟩
  · cases hx : xs[i]? with
    | none => exact ⟨vs, h1, by rw [← h2.len]; exact List.getElem?_eq_none_iff.mp hx⟩
    | some y => rw [hx] at he; cases he
  · cases hx : xs[i]? with
    | none => rw [hx] at he; cases he
    | some y =>
      rw [hx] at he
      obtain rfl := Option.some.inj he
      obtain ⟨v, h3, h4⟩ := h2.get hx
      obtain ⟨T, w, rfl, hT, rfl, h5⟩ := hy
      have := h5 vs h1
      rw [h3] at this
      obtain rfl := Option.some.inj this
      refine .inr ⟨T, [.int (i : Nat), v], _, rfl, rfl, hT, rfl, .int (i : Nat), [v], rfl, ?_, v, [], rfl, h4, rfl⟩
      show V.int _ = V.int _
      congr 1
      omega
theorem pi_enumD (g : Good G C W L call X) {t : E} {e : Expr} {elts : List Expr} {kk : Nat} {p pos tpos : Pos} (hv : glo X.env.scope "enumerate" = true) (h : Ok G W call X t e) : PI X (.Tuple elts kk tpos) (.Call (.Name "enumerate" p) [e] [] pos) (tI G W .enum (evs call [t])) := by
  obtain ⟨v1, v2, v3⟩ := PV.glo_ok hv
  have hm := g.free "enumerate" (by decide +kernel)
  refine PI.weak (pi_enum v1 hm (ok_args (.cons h .nil)) (star_cons _ _ h.star)) fun σ H R' q => ?_
  refine tI_A q fun F1 α1 H1 cs1 ds vs a1 r hlen h1 hk h3 => ?_
  have h2 : ds.any isTupD = false := by simpa [kOk] using hk
  obtain ⟨d, rfl⟩ := len1 hlen
  obtain ⟨v, _, rfl, rd, rfl⟩ := r
  simp only [List.map, itemsOf] at h1
  split at h1
  · next xs hx =>
    have ht : isTupD d = false := by simpa using h2
    obtain ⟨a, rfl, ⟨vs, hv⟩, hl⟩ := seq_list a1 rd ht hx
    rw [g.K]
    exact ⟨a, vs, rfl, hv, h3 _ (enum_items hl)⟩
  · cases h1
/-! zip -/
theorem zip_get : ∀ (xs ys : List D) (i : Nat), (List.zipWith (fun a b => D.tup [a, b]) xs ys)[i]? = (match xs[i]?, ys[i]? with | some x, some y => some (.tup [x, y]) | _, _ => none)
  | [], ys, i => by simp
  | x :: xs, [], i => by cases h : (x :: xs)[i]? <;> simp
  | x :: xs, y :: ys, 0 => by simp
  | x :: xs, y :: ys, i + 1 => by simp only [List.zipWith_cons_cons, List.getElem?_cons_succ]; exact zip_get xs ys i
theorem zip_key {F0 : Hp} {α0 : List Addr} {d d2 : D} {P P2 : Hp → List V → Prop}
    (hl : ∀ F α H cs, Same F0 F → α0 <+: α → Ab G F α H cs → ∀ xs, seqOf (view cs d) = some xs → ∃ vs, P H vs ∧ Reps G F xs vs)
    (hl2 : ∀ F α H cs, Same F0 F → α0 <+: α → Ab G F α H cs → ∀ xs, seqOf (view cs d2) = some xs → ∃ vs, P2 H vs ∧ Reps G F xs vs)
    {F H : Hp} {α : List Addr} {cs : Cells} {ds : List D} (s : Same F0 F) (p : α0 <+: α) (ab : Ab G F α H cs) (hf : itemsOf .zip ([d, d2].map (view cs)) = some ds) :
    ∃ xs ys vs ws, ds = List.zipWith (fun a b => .tup [a, b]) xs ys ∧ P H vs ∧ Reps G F xs vs ∧ P2 H ws ∧ Reps G F ys ws := by
  simp only [List.map, itemsOf] at hf
  split at hf
  · next xs ys hx hy =>
    obtain ⟨vs, h1, h2⟩ := hl F α H cs s p ab xs hx
    obtain ⟨ws, h3, h4⟩ := hl2 F α H cs s p ab ys hy
    exact ⟨xs, ys, vs, ws, (Option.some.inj hf).symm, h1, h2, h3, h4⟩
  · cases hf
def ItzP (P P2 : Hp → List V → Prop) : It :=
  ⟨fun i H => ∃ (xs ys : List V) (x y : V), P H xs ∧ P2 H ys ∧ xs[i]? = some x ∧ ys[i]? = some y,
    fun i H v H' => ∃ T x y, v = .ref T ∧ H T = none ∧ H' = upd H T (.tup [x, y]) ∧ (∀ xs, P H xs → xs[i]? = some x) ∧ ∀ ys, P2 H ys → ys[i]? = some y,
    fun i H => ∃ xs ys : List V, P H xs ∧ P2 H ys ∧ (xs.length ≤ i ∨ ys.length ≤ i)⟩
theorem zip_items {F0 : Hp} {α0 : List Addr} {d d2 : D} {P P2 : Hp → List V → Prop}
    (hl : ∀ F α H cs, Same F0 F → α0 <+: α → Ab G F α H cs → ∀ xs, seqOf (view cs d) = some xs → ∃ vs, P H vs ∧ Reps G F xs vs)
    (hl2 : ∀ F α H cs, Same F0 F → α0 <+: α → Ab G F α H cs → ∀ xs, seqOf (view cs d2) = some xs → ∃ vs, P2 H vs ∧ Reps G F xs vs) :
    Items G F0 α0 (ItzP P P2) (fun c => itemsOf .zip ([d, d2].map (view c))) := by
  refine ⟨fun i F α H cs ds e s p ab hf he => ?_, fun i F α H cs ds s p ab hf he => ?_, fun i F α H cs ds e x H' s p ab hf he hy => ?_⟩
  all_goals
    obtain ⟨xs, ys, vs, ws, rfl, h1, h2, h3, h4⟩ := zip_key hl hl2 s p ab hf
    rw [zip_get] at he
  · cases hx : xs[i]? with
    | none => rw [hx] at he; cases he
    | some x =>
      cases hy : ys[i]? with
      | none => rw [hx, hy] at he; cases he
      | some y =>
        obtain ⟨v, e1, _⟩ := h2.get hx
        obtain ⟨w, e2, _⟩ := h4.get hy
        exact ⟨vs, ws, v, w, h1, h3, e1, e2⟩
  · cases hx : xs[i]? with
    | none => exact ⟨vs, ws, h1, h3, .inl (by rw [← h2.len]; exact List.getElem?_eq_none_iff.mp hx)⟩
    | some x =>
      cases hy : ys[i]? with
      | none => exact ⟨vs, ws, h1, h3, .inr (by rw [← h4.len]; exact List.getElem?_eq_none_iff.mp hy)⟩
      | some y => rw [hx, hy] at he; cases he
  · cases hx : xs[i]? with
    | none => rw [hx] at he; cases he
    | some x0 =>
      cases hy' : ys[i]? with
      | none => rw [hx, hy'] at he; cases he
      | some y0 =>
        rw [hx, hy'] at he
        obtain rfl := Option.some.inj he
        obtain ⟨v, e1, r1⟩ := h2.get hx
        obtain ⟨w, e2, r2⟩ := h4.get hy'
        obtain ⟨T, x', y', rfl, hT, rfl, h5, h6⟩ := hy
        have z1 := h5 vs h1
        have z2 := h6 ws h3
        rw [e1] at z1
        rw [e2] at z2
        obtain rfl := Option.some.inj z1
        obtain rfl := Option.some.inj z2
        exact .inr ⟨T, [v, w], _, rfl, rfl, hT, rfl, v, [w], rfl, r1, w, [], rfl, r2, rfl⟩
theorem pi_zipD (g : Good G C W L call X) {t t2 : E} {e e2 : Expr} {elts : List Expr} {kk : Nat} {p pos tpos : Pos} (hv : glo X.env.scope "zip" = true) (h : Ok G W call X t e) (h2 : Ok G W call X t2 e2) : PI X (.Tuple elts kk tpos) (.Call (.Name "zip" p) [e, e2] [] pos) (tI G W .zip (evs call [t, t2])) := by
  obtain ⟨v1, v2, v3⟩ := PV.glo_ok hv
  have hm := g.free "zip" (by decide +kernel)
  refine PI.weak (RZ.pi_zipA v1 hm (ok_args (.cons h (.cons h2 .nil))) (star_cons _ _ h.star) (by rw [star_cons _ _ h2.star]; rfl)) fun σ H R' q => ?_
  refine tI_A q fun F1 α1 H1 cs1 ds vs a1 r hlen h1 hk h3 => ?_
  have h2 : ds.all isTupD = true ∨ ds.any isTupD = false := by simpa [kOk] using hk
  obtain ⟨d, d2, rfl⟩ := len2 hlen
  obtain ⟨v, _, rfl, rd, v2, _, rfl, rd2, rfl⟩ := r
  simp only [List.map, itemsOf] at h1
  split at h1
  · next xs ys hx hy =>
    rcases h2 with h2 | h2
    · simp only [List.all_cons, List.all_nil, Bool.and_true, Bool.and_eq_true] at h2
      obtain ⟨zs, rfl⟩ : ∃ ys, d = .tup ys := by
        cases d with
        | tup ys => exact ⟨ys, rfl⟩
        | _ => simp [isTupD] at h2
      obtain ⟨zs2, rfl⟩ : ∃ ys, d2 = .tup ys := by
        cases d2 with
        | tup ys => exact ⟨ys, rfl⟩
        | _ => simp [isTupD] at h2
      obtain ⟨a, rfl, ⟨vs, hv⟩, hl⟩ := seq_tup a1 rd
      obtain ⟨b, rfl, ⟨ws, hw⟩, hl2⟩ := seq_tup a1 rd2
      rw [g.K]
      exact ⟨a, b, vs, ws, rfl, .inr ⟨hv, hw, h3 _ (zip_items hl hl2)⟩⟩
    · simp only [List.any_cons, List.any_nil, Bool.or_false, Bool.or_eq_false_iff] at h2
      obtain ⟨a, rfl, ⟨vs, hv⟩, hl⟩ := seq_list a1 rd h2.1 hx
      obtain ⟨b, rfl, ⟨ws, hw⟩, hl2⟩ := seq_list a1 rd2 h2.2 hy
      rw [g.K]
      exact ⟨a, b, vs, ws, rfl, .inl ⟨hv, hw, h3 _ (zip_items hl hl2)⟩⟩
  · cases h1
end
end PV
end

section
set_option Elab.async false
set_option linter.all false
set_option maxRecDepth 100000
set_option maxHeartbeats 2000000
set_option autoImplicit false
/-! A comprehension's block: what is raised within it, and its turns. -/
namespace PV
open PySem PySem.Spec PyProof.Rows L2
section
variable {B : Heap} {M : Model} {A : Around} {E₁ : Value → Shared → Prop} {e0 : PySem.Env} {l0 : List PySem.Env} {L a : Addr} {Z : Obj → Prop} {s : Shared} {Q : Unit → Shared → Prop}
/-- an exception in the air is noted by the frame -/
theorem sky_note (hZ : HandSPX.Steady Z) (hfr : A.frames = some (e0 :: l0)) (hf : e0.frame = some L) (x : Sky B (e0 :: l0) a Z L s.heap)
    (hQ : ∀ h', HandSPX.HeldZ B (e0 :: l0) a Z L h' → s.heap.UpToSlots h' → Q () { s with heap := h' }) : wpAny M A (noteFrame (.ref a) e0) Q E₁ s := by
  rcases x with x | x | x
  · obtain ⟨x1, x2, x3, oe, vs, x4, x5, x6, x7⟩ := x
    exact HandSPX.look_newZ hZ hfr x3 hf x4 x1 x2 x6 x7 x5 hQ
  · exact HandSPX.looks_onZ hZ hfr hf x hQ
  · exact HandSPX.againZ hf x.2.2.2 (hQ s.heap x (Heap.UpToSlots.refl _))
end
/-- the block's context, with its wish about exceptions -/
abbrev blkE (X : Cx) (s : Shared) (H : Hp) (scope : Scope) (ce : PySem.Env) (fp : List Addr) (E : Value → Shared → Prop) : Cx := (X.blk s H scope ce fp).wish E
/-- what is owed where the block lets an exception out -/
abbrev blkX (X : Cx) (ce : PySem.Env) : Value → Shared → Prop := notedBy (model X.prog X.w) X.A ce (CompFails (model X.prog X.w) X.A X.xe ce)
section
variable {X : Cx} {L : Addr} {W : WX} {pins : List (Addr × Obj)} {σ : L2.St} {H3 : Hp} {s3 : Shared} {scope : Scope} {ce : PySem.Env} {fp : List Addr} {E : Value → Shared → Prop} {e0 : PySem.Env} {l0 : List PySem.Env}
theorem blk_air (I3 : Inv X pins σ H3 s3) (f3 : ∀ b ∈ fp, FpOk X pins H3 b) (hC : ce.locals = s3.heap.objs.size) (hst : X.stack = e0 :: l0) (h0 : e0.frame = some L) (hce : ce.frame = some L)
    (tk : ∀ u s', Air X L W u s' → X.xe u s') {u : Value} {s' : Shared} (x : Air (blkE X s3 H3 scope ce fp E) L (fun cls d _ H => W cls d σ H) u s') : blkX X ce u s' := by
  obtain ⟨a, B, sI, pins', σ', H', cls, d, rfl, hA⟩ := x
  have I' := hA.inv
  have up := hA.up
  have hfr : X.A.frames = some (e0 :: l0) := by rw [I3.ok.frames, hst]
  have sky : Sky B (e0 :: l0) a (Zc cls d) L s'.heap := by rw [← hst]; exact hA.sky
  show wpAny _ _ (noteFrame (.ref a) ce) _ _ s'
  rw [noteFrame_env _ (hce.trans h0.symm)]
  refine sky_note Zc.steady hfr h0 sky fun h1 hh up1 => ?_
  obtain ⟨m, hn, _⟩ := I'.loc
  have hn : sI.heap.Ns ce.locals m := hn
  have hn1 : h1.Ns ce.locals m := hn.upToSlots (up.trans up1)
  have hCf : ce.locals ∉ frs X.stack := fun hm => by
    obtain ⟨_, o, ho, _⟩ := I3.stack.mem hm
    rw [hC] at ho
    exact absurd (Heap.lt_size ho) (Nat.lt_irrefl _)
  obtain ⟨oC, _, _, hoC, _⟩ := id hn
  have hBC : B.get? ce.locals = some oC := hA.gr _ _ hoC hCf
  have nC : H' ce.locals = none := I'.free
  refine ⟨m, hn1, fun h2 m2 hn2 hs2 => ?_⟩
  obtain ⟨b1, b0, f1, t1⟩ := hh
  have away : ∀ {b o}, (PySem.W.hideAll B [ce.locals]).get? b = some o → B.get? b = some o ∧ b ≠ ce.locals := fun {b o} e =>
    ⟨PySem.W.of_hideAll _ e, fun z => by rw [PySem.W.hideAll_none _ (by simp [z])] at e; cases e⟩
  have gone : ∀ {b}, B.get? b = none → (PySem.W.hideAll B [ce.locals]).get? b = none := fun {b} e => by
    cases q : (PySem.W.hideAll B [ce.locals]).get? b with
    | none => rfl
    | some o => rw [(away q).1] at e; cases e
  have b2 : (PySem.W.hideAll B [ce.locals]).StaysIn h2 := fun b o e => (hs2.2 b (away e).2).trans (b1 b o (away e).1)
  have neB : ∀ {b}, B.get? b = none → b ≠ ce.locals := fun {b} e z => by rw [z, hBC] at e; cases e
  have ff : h2.FunFrames (PySem.W.hideAll B [ce.locals]) (e0 :: l0) := by
    have z := Heap.FunFrames.sameBut hs2 hn2 f1
    exact funFrames_none z fun b hb => gone (z.mem hb).1
  have tt : HandSPX.TracedZ h2 (PySem.W.hideAll B [ce.locals]) a (Zc cls d) (rawInt L) := by
    obtain ⟨oe, vs, T, oT, ts, q1, q2, q3, q4, q5, q6, q7, q8, q9⟩ := t1
    exact ⟨oe, vs, T, oT, ts, (hs2.2 a (neB b0)).trans q1, q2, q3, q4, gone q5, q6, (hs2.2 T (neB q5)).trans q7, q8, q9⟩
  have held : HandSPX.HeldZ (PySem.W.hideAll B [ce.locals]) (e0 :: l0) a (Zc cls d) L h2 := ⟨b2, gone b0, ff, tt⟩
  obtain ⟨oe, vs, T, oT, ts, q1, q2, q3, q4, q5, q6, q7, q8, q9⟩ := tt
  unfold PySem.passOn
  refine wpAny_bind (wpAny_field q1 q3 q4 ?_)
  rw [if_neg (show ¬ ((Value.ref T == Value.none) = true) from by simp), hce]
  refine wpAny_bind (HandSPX.setFlight_onZ (s := { s' with heap := h2 }) held fun h4 held4 up4 => wpAny_throw (tk _ _ ?_))
  have J : Inv X pins σ H' sI := I3.call' (ch := fp) I'.os I'.base I'.hok I'.bare fun b hb =>
    ⟨(f3 b hb).2.2.2.1, (f3 b hb).2.1, (f3 b hb).2.2.2.2.1, (f3 b hb).2.2.2.2.2⟩
  have nC' : H' s3.heap.objs.size = none := by rw [← hC]; exact nC
  obtain ⟨y0, y1, y2, y3, y4, y5⟩ := I3.fpOk (H' := H') (Nat.le_refl _) nC'
  rw [← hC] at y0 y1 y2 y3 y4 y5
  refine ⟨a, PySem.W.hideAll B [ce.locals], { sI with heap := PySem.W.hideAll sI.heap [ce.locals] }, pins, σ, H', cls, d, rfl, ⟨J.turned (it := ce.locals) (t' := sI.toks) (fun b o hb e => PySem.W.hideAll_get _ e (by simpa using hb)) y0 y1 y3 y4 y5, ?_, ?_, ?_, hA.na, hA.os, hA.ag, hA.w⟩⟩
  · intro b o e hb
    have hne : b ≠ ce.locals := fun z => by
      rw [PySem.W.hideAll_none _ (by simp [z])] at e; cases e
    exact PySem.W.hideAll_get _ (hA.gr b o (PySem.W.of_hideAll _ e) hb) (by simpa using hne)
  · intro b o e hnf
    have hne : b ≠ ce.locals := fun z => by
      rw [PySem.W.hideAll_none _ (by simp [z])] at e; cases e
    obtain ⟨sl, e1⟩ := (up.trans up1) b o (PySem.W.of_hideAll _ e) hnf
    obtain ⟨sl2, e2⟩ := up4 b _ ((hs2.2 b hne).trans e1) hnf
    exact ⟨sl2, e2⟩
  · rw [hst]
    exact .inr (.inr held4)
end

theorem relS_eq {scope : Scope} {cl : List (Str × Addr)} {C : Addr} {env : PySem.Env} : (compEnvC scope cl C env).scope = relS scope env.scope := rfl
section
variable {X : Cx} {L : Addr} {W : WX} {e0 : PySem.Env} {l0 : List PySem.Env}
/-- [elt for target in iter if ..], where the element, a test or the target may raise -/
theorem lc_air {pins : List (Addr × Obj)} {s : Shared} {σ : L2.St} {H : Hp} {Q : VK} {elt tg iter : Expr} {ifs : List Expr} {scope : Scope} {own : List (Str × Nat)} {pos pos' : Pos} {wi : TI} {g : TG} {tt : TT} {te : TE} {use : Option (Value → Sem Unit)} {Qf : Value → Shared → Prop}
    (hc : X.calm = true) (hN : X.N.Nodup) (hst : X.stack = e0 :: l0) (h0 : e0.frame = some L) (hfr : X.env.frame = some L) (tk : ∀ u s', Air X L W u s' → X.xe u s')
    (I : Inv X pins σ H s) (hi : PI X tg iter wi) (ok : BlkOk X.N X.env.scope scope own)
    (hg : ∀ s H ce fp E, ce.scope = relS scope X.env.scope → PG (blkE X s H scope ce fp E) tg g)
    (ht : ∀ s H ce fp E, ce.scope = relS scope X.env.scope → ce.frame = some L → (∀ u s', Air (blkE X s H scope ce fp E) L (fun cls d _ H => W cls d σ H) u s' → E u s') → PTs (blkE X s H scope ce fp E) ifs tt)
    (he : ∀ s H ce fp E, ce.scope = relS scope X.env.scope → ce.frame = some L → (∀ u s', Air (blkE X s H scope ce fp E) L (fun cls d _ H => W cls d σ H) u s' → E u s') → PE (blkE X s H scope ce fp E) elt te)
    (hs : ∀ x, foldedSetIterable iter X.env x = pure x) (h : tLc wi g tt te (own.map (·.2)) σ H Q)
    (hRR : ∀ D ce s' m H', Inv X pins σ H' s' → Q (.ref D) H' → s'.heap.Ns ce.locals m → FpOk X pins H' ce.locals → compEnds (model X.prog X.w) X.A X.xe use Qf (.ref D) ce (.ok .next) s') :
    wpAny (model X.prog X.w) X.A (comprehension (.ListComp elt [⟨tg, iter, ifs, 0⟩] scope pos) scope X.env pos' (newList []) false (eval iter X.env) use) Qf X.xe s := by
  have captured : ∀ y ∈ scope.names, y.2 = .free → ∃ c, X.env.cells.lookup y.1 = some c := fun y hy e =>
    (ok.free y hy e).elim (fun k => I.ok.has _ (.inl k)) fun k => I.ok.has _ (.inr k)
  refine comprehension_at (use := use) rfl hs (closure_ok captured) ok.kind (fun y hy e => by rw [ok.uniq y hy, e]) ?_
  refine thn (hi.run pins s σ H _ I h) fun xv s1 hx => thn hx fun itv s2 h2 => ?_
  obtain ⟨it, fp, tn, J, H2, rfl, I2, T, st2, f2, q⟩ := h2
  refine wpAny_newObj_type (newEnv_comp ?_) (Nat.zero_le _)
  obtain ⟨D, hD⟩ : ∃ D, s2.heap.objs.size = D := ⟨_, rfl⟩
  obtain ⟨V0, ⟨m0, w0⟩, turn⟩ := q D (I2.hok.fresh (Nat.le_of_eq hD))
  rw [hD]
  obtain ⟨s3, hs3⟩ : ∃ s3 : Shared, s3 = { s2 with heap := s2.heap.push { cls := .type "list", data := .seq ([] : List Value).toArray } } := ⟨_, rfl⟩
  have hp : s3.heap = s2.heap.push { cls := .type "list", data := .seq ([] : List Value).toArray } := by rw [hs3]
  have I3 : Inv X pins σ (upd H2 D (.lst [])) s3 := by
    subst hs3
    refine I2.laid (t' := s2.toks) (fun b o e => Heap.get?_push_of_some _ e) (Nat.le_of_eq hD) ⟨Nat.zero_le _, [], 0, .nil, ?_⟩
    subst hD
    exact Heap.get?_push_size _ rfl
  have old : ∀ b ∈ fp, b < s2.heap.objs.size := fun b hb => by
    obtain ⟨o, e, _⟩ := T.obj _ _ st2 b hb
    exact Heap.lt_size e
  have f3 : ∀ b ∈ fp, FpOk X pins (upd H2 D (.lst [])) b := fun b hb =>
    ⟨(upd_ne (by rw [← hD]; exact Nat.ne_of_lt (old b hb))).trans (f2 b hb).1, (f2 b hb).2⟩
  have f3' : ∀ b ∈ fp, FpOk X pins (upd H2 D (.lst [])) b ∧ b < s3.heap.objs.size := fun b hb =>
    ⟨f3 b hb, by rw [hp, Heap.size_push]; exact Nat.lt_succ_of_lt (old b hb)⟩
  have st3 : tn 0 s3.heap := T.keep _ _ _ st2 fun b _ o e => by rw [hp]; exact Heap.get?_push_of_some _ e
  have I4 := block_start I3 ok hN f3'
  obtain ⟨H3, hH3⟩ : ∃ H3, H3 = upd H2 D (.lst []) := ⟨_, rfl⟩
  rw [← hH3] at I3 I4 f3 w0
  obtain ⟨ce, hce⟩ : ∃ ce, ce = compEnvC scope (cellsFrom (s3.heap.objs.size + 1) scope.names (cloFrom X.env.cells scope.names [])) s3.heap.objs.size X.env := ⟨_, rfl⟩
  have ce1 : ce.locals = s3.heap.objs.size := by rw [hce]; rfl
  have ce2 : ce.frame = some L := by rw [hce]; exact hfr
  have ce3 : ce.scope = relS scope X.env.scope := by rw [hce]; rfl
  rw [← hce] at I4
  rw [← hs3]
  suffices z : codeAny (model X.prog X.w) X.A (.compStart (.ListComp elt [⟨tg, iter, ifs, 0⟩] scope pos) 0 (.ref it) (.ref D) ce)
      (fun r s' => match r with | .ok f => compEnds (model X.prog X.w) X.A X.xe use Qf (.ref D) ce (.ok f) s' | .error x => CompFails (model X.prog X.w) X.A X.xe ce x s')
      { s3 with heap := pushCells (s3.heap.push { cls := .type "dict", data := .dict #[] }) scope.names } by
    rw [hce] at z
    refine codeAny_mono z fun r s' hr => ?_
    cases r with
    | ok f => exact hr
    | error x => cases use <;> exact hr
  have tkB : ∀ u s', Air (blkE X s3 H3 scope ce fp (blkX X ce)) L (fun cls d _ H => W cls d σ H) u s' → blkX X ce u s' := fun u s' x => blk_air I3 f3 ce1 hst h0 ce2 tk x
  have pg := hg s3 H3 ce fp (blkX X ce) ce3
  have pt := ht s3 H3 ce fp (blkX X ce) ce3 ce2 tkB
  have pe := he s3 H3 ce fp (blkX X ce) ce3 ce2 tkB
  obtain ⟨s4, hs4⟩ : ∃ s4 : Shared, s4 = { s3 with heap := pushCells (s3.heap.push { cls := .type "dict", data := .dict #[] }) scope.names } := ⟨_, rfl⟩
  rw [← hs4] at I4 ⊢
  have st4 : tn 0 s4.heap := T.keep _ _ _ st3 fun b _ o e => by rw [hs4]; exact pushCells_keeps _ _ _ _ (Heap.get?_push_of_some _ e)
  have I4 := I4.wish (blkX X ce)
  have stay : ∀ {σ' : L2.St} {H' : Hp} {s' : Shared}, Inv (blkE X s3 H3 scope ce fp (blkX X ce)) [] σ' H' s' → (∀ b ∈ fp, H' b = none) → ∀ b ∈ fp, FpOk (blkE X s3 H3 scope ce fp (blkX X ce)) [] H' b := fun {σ' H' s'} I' n b hb =>
    ⟨n b hb, (I'.ok.exf b hb).1, I'.ok.exfs b hb, .inl hb, fun x c e => (I'.ok.exf b hb).2 x c e, fun p hp => absurd (show p ∈ ([] : List (Addr × Obj)) ++ [] from hp) (by simp)⟩
  have loop : codeAny (model X.prog X.w) X.A (.compLoop (.ListComp elt [⟨tg, iter, ifs, 0⟩] scope pos) 0 (.ref it) (.ref D) ce)
      (fun r s' => match r with | .ok f => compEnds (model X.prog X.w) X.A X.xe use Qf (.ref D) ce (.ok f) s' | .error x => CompFails (model X.prog X.w) X.A X.xe ce x s') s4 := by
    refine compLoop_any (fun n s' => ∃ i H', Inv (blkE X s3 H3 scope ce fp (blkX X ce)) [] (L2.wipe σ (own.map (·.2))) H' s' ∧ tn i s'.heap ∧ (∀ b ∈ fp, H' b = none) ∧ V0 i n H') ?_ m0 ⟨0, H3, I4, st4, fun b hb => (f3 b hb).1, w0⟩
    rintro n s5 ⟨i, H5, I5, st5, n5, w5⟩
    show wpAny (model X.prog X.w) X.A (pyNext (.ref it)) _ (blkX X ce) s5
    rcases turn i n H5 w5 with ⟨stop, qq⟩ | ⟨go, Nx, hNx, step⟩
    · refine wpAny_mono (T.done (blkE X s3 H3 scope ce fp (blkX X ce)) rfl rfl rfl hc i [] s5 _ H5 (blkX X ce) I5 (stay I5 n5) st5 stop) (fun r s6 z => ?_) fun _ _ y => y
      obtain ⟨rfl, I6⟩ := z
      have I7 : Inv X pins σ H5 s6 := I3.call' (ch := fp) I6.os I6.base I6.hok I6.bare fun b hb =>
        ⟨(f3 b hb).2.2.2.1, (f3 b hb).2.1, (f3 b hb).2.2.2.2.1, (f3 b hb).2.2.2.2.2⟩
      have nC : H5 ce.locals = none := I6.free
      obtain ⟨m, hn, _⟩ := I6.loc
      exact hRR D ce s6 m H5 I7 qq hn (I3.fpOk (Nat.le_of_eq ce1.symm) nC)
    · refine wpAny_mono (T.item (blkE X s3 H3 scope ce fp (blkX X ce)) rfl rfl rfl hc i [] s5 _ H5 (blkX X ce) I5 (stay I5 n5) st5 go) (fun r s6 z => ?_) fun _ _ y => y
      obtain ⟨u, rfl, h6⟩ := z
      refine wpAny_mono h6 (fun _ s7 z => ?_) fun _ _ y => y
      obtain ⟨x, H7, I7, r7, y7, st7, n7⟩ := z
      have I7' := I7.pinned (stay I7 n7) (T.obj _ _ st7)
      refine wpAny_mono (pg.run _ s7 _ H7 x u _ I7' r7 (step x H7 y7)) (fun _ s8 z => ?_) fun _ _ y => y
      obtain ⟨σ8, H8, I8, hw8, q8⟩ := z
      have fin : ∀ {s' : Shared} {H' : Hp}, Inv (blkE X s3 H3 scope ce fp (blkX X ce)) ([] ++ pinsAt fp s7.heap) σ8 H' s' → Nx H' →
          ∃ m, m < n ∧ ∃ i H', Inv (blkE X s3 H3 scope ce fp (blkX X ce)) [] (L2.wipe σ (own.map (·.2))) H' s' ∧ tn i s'.heap ∧ (∀ b ∈ fp, H' b = none) ∧ V0 i m H' := fun {s' H'} I' nx => by
        obtain ⟨m', hm, w'⟩ := hNx H' nx
        have still : ∀ b ∈ fp, ∀ o, s7.heap.get? b = some o → s'.heap.get? b = some o ∧ H' b = none := fun b hb o e =>
          let z := I'.pin (b, o) (List.mem_append_right _ (List.mem_append_right _ (mem_pinsAt hb e)))
          ⟨z.1, z.2.1⟩
        refine ⟨m', hm, i + 1, H', (I'.unpinned (pins := [])).weak (by rw [← hw8, wipe_length]) (fun j v e => ?_), T.keep _ _ _ st7 fun b hb o e => (still b hb o e).1, fun b hb => ?_, w'⟩
        · rw [← hw8] at e
          exact (wipe_some e).1
        · obtain ⟨o, e, _⟩ := T.obj _ _ st7 b hb
          exact (still b hb o e).2
      refine wpAny_mono (pt.run _ s8 σ8 H8 _ I8 q8) (fun b s9 z => ?_) fun _ _ y => y
      obtain ⟨H9, I9, q9⟩ := z
      cases b with
      | false =>
        rw [if_neg Bool.false_ne_true] at q9 ⊢
        exact fin I9 q9
      | true =>
        rw [if_pos rfl] at q9 ⊢
        refine wpAny_mono (pe.run _ s9 σ8 H9 _ I9 q9) (fun z s10 hz => ?_) fun _ _ y => y
        obtain ⟨yv, H10, I10, r10, acc, hD10, hz10, nx⟩ := hz
        exact app_ok (X := blkE X s3 H3 scope ce fp (blkX X ce)) I10 hD10 hz10 r10 fun s11 I11 => fin I11 nx
  exact codeAny_compStart_list loop (T.self X.A 0 _ _ _ st4 loop)
end
end PV
end

section
set_option Elab.async false
set_option linter.all false
set_option maxRecDepth 100000
set_option maxHeartbeats 2000000
set_option autoImplicit false
/-! Targets, tests, methods. -/
namespace PV
open PySem PySem.Spec PyProof.Rows L2
section
variable {G : Gt} {F H : Hp} {α : List Addr}
theorem reps_v : ∀ {ds : List D} {vs : List V}, Reps G F ds vs → RepVs G F α ds vs
  | [], _, h => h
  | d :: ds, _, h => by
    obtain ⟨v, r, e, h1, h2⟩ := h
    exact ⟨v, r, e, rep_v h1, reps_v h2⟩
/-! slots -/
theorem wipe_at : ∀ (vs : List Nat) (σ : L2.St) (i : Nat), (L2.wipe σ vs)[i]? = if i ∈ vs ∧ i < σ.length then some none else σ[i]?
  | [], σ, i => by simp [L2.wipe]
  | v :: vs, σ, i => by
    unfold L2.wipe
    rw [List.getElem?_set, wipe_length, wipe_at vs σ i]
    by_cases hv : v = i
    · subst hv
      by_cases hl : v < σ.length
      · simp [hl]
      · simp [hl]
    · have hv' : ¬ i = v := fun e => hv e.symm
      simp [hv, hv']
theorem wipeD_at : ∀ (vs : List Nat) (env : Env) (i : Nat), (PV.wipe env vs)[i]? = if i ∈ vs ∧ i < env.length then some none else env[i]?
  | [], σ, i => by simp [PV.wipe]
  | v :: vs, σ, i => by
    have hl : ∀ vs, (PV.wipe σ vs).length = σ.length := by
      intro vs
      induction vs with
      | nil => rfl
      | cons a b ih => simp [PV.wipe, ih]
    unfold PV.wipe
    rw [List.getElem?_set, hl, wipeD_at vs σ i]
    by_cases hv : v = i
    · subst hv
      by_cases hl : v < σ.length
      · simp [hl]
      · simp [hl]
    · have hv' : ¬ i = v := fun e => hv e.symm
      simp [hv, hv']
theorem wipeD_length (env : Env) : ∀ vs : List Nat, (PV.wipe env vs).length = env.length
  | [] => rfl
  | v :: vs => by unfold PV.wipe; rw [List.length_set, wipeD_length env vs]
theorem wipe_env {env : Env} {σ : L2.St} (h : EnvR G F α env σ) (vs : List Nat) : EnvR G F α (PV.wipe env vs) (L2.wipe σ vs) := by
  refine ⟨by rw [wipeD_length, wipe_length]; exact h.len, fun i d e => ?_⟩
  rw [wipeD_at] at e
  rw [wipe_at]
  split at e
  · cases e
  · next hn =>
    rw [if_neg (by rw [← h.len]; exact hn)]
    exact h.at_ i d e
/-- two states that part in vs alone -/
theorem wipe_same {σ σ' : L2.St} {vs : List Nat} (hl : σ'.length = σ.length) (h : ∀ i, i ∉ vs → σ'[i]? = σ[i]?) : L2.wipe σ' vs = L2.wipe σ vs := by
  refine List.ext_getElem? fun i => ?_
  rw [wipe_at, wipe_at, hl]
  by_cases hi : i ∈ vs
  · by_cases hl2 : i < σ.length
    · simp [hi, hl2]
    · have h1 : σ'[i]? = none := List.getElem?_eq_none (by omega)
      have h2 : σ[i]? = none := List.getElem?_eq_none (by omega)
      simp [hi, hl2, h1, h2]
  · simp [hi, h i hi]
theorem wipe_wipe (σ : L2.St) (vs : List Nat) : L2.wipe (L2.wipe σ vs) vs = L2.wipe σ vs :=
  wipe_same (wipe_length σ vs) fun i hi => by rw [wipe_at]; simp [hi]
end
/-! targets -/
def gT (G : Gt) (t : Tg) : TG := fun x σ H K => ∃ F α env cs d env', Ab G F α H cs ∧ EnvR G F α env σ ∧ RepV G F α d x ∧ asg t d env = some env' ∧
  ∀ σ', EnvR G F α env' σ' → (∀ i, i ∉ tgSlots t → σ'[i]? = σ[i]?) → K σ' H
def gTs (G : Gt) (ts : List Tg) : TGs := fun xs σ H K => ∃ F α env cs ds env', Ab G F α H cs ∧ EnvR G F α env σ ∧ RepVs G F α ds xs ∧ asgs ts ds env = some env' ∧
  ∀ σ', EnvR G F α env' σ' → (∀ i, i ∉ tgsSlots ts → σ'[i]? = σ[i]?) → K σ' H
section
variable {G : Gt} {X : Cx}
theorem PG.weak {e : Expr} {t t' : TG} (h : PG X e t) (k : ∀ v σ H Q, t' v σ H Q → t v σ H Q) : PG X e t' := ⟨fun pins s σ H v u Q I r q => h.run pins s σ H v u Q I r (k v σ H Q q)⟩
theorem PGs.weak {es : List Expr} {t t' : TGs} (h : PGs X es t) (k : ∀ v σ H Q, t' v σ H Q → t v σ H Q) : PGs X es t' := ⟨fun pins s σ H v u Q I r q => h.run pins s σ H v u Q I r (k v σ H Q q)⟩
theorem tg_each {N : List Str} {sc : Scope} {fn : Str → Bool} {t : Tg} {e : Expr} (h : mTg N sc fn t e = true) (es : List Expr) (env : PySem.Env) : assignEach (e :: es) env = (false, assign e env) :: assignEach es env := by
  cases t <;> cases e <;> first | rfl | simp [mTg] at h
theorem tgs_len {N : List Str} {sc : Scope} {fn : Str → Bool} {env : PySem.Env} : ∀ {ts : List Tg} {es : List Expr}, mTgs N sc fn ts es = true → (assignEach es env).length = ts.length ∧ (assignEach es env).findIdx? (·.1) = none
  | [], [], _ => ⟨rfl, rfl⟩
  | [], _ :: _, h => by simp [mTgs] at h
  | _ :: _, [], h => by simp [mTgs] at h
  | t :: ts, e :: es, h => by
    simp only [mTgs, Bool.and_eq_true] at h
    obtain ⟨h1, h2⟩ := tgs_len (env := env) h.2
    rw [tg_each h.1]
    exact ⟨by simp [h1], by simp [List.findIdx?_cons, h2]⟩
theorem asgs_len : ∀ {ts : List Tg} {ds : List D} {env env' : Env}, asgs ts ds env = some env' → ts.length = ds.length
  | [], [], _, _, _ => rfl
  | [], _ :: _, _, _, h => by simp [asgs] at h
  | _ :: _, [], _, _, h => by simp [asgs] at h
  | t :: ts, d :: ds, env, env', h => by
    simp only [asgs] at h
    split at h
    · rw [List.length_cons, List.length_cons, asgs_len h]
    · cases h
variable (hc : X.calm = true) (hK : X.K = G.K) (hN : X.N.Nodup)
include hc hK hN
mutual
theorem pg_tg : ∀ (t : Tg) (e : Expr), mTg X.N X.env.scope X.fn t e = true → PG X e (gT G t)
  | .nm i, e, h => by
    cases e <;> simp only [mTg, Bool.false_eq_true] at h
    next x p =>
      simp only [Bool.and_eq_true, Bool.or_eq_true, decide_eq_true_eq] at h
      refine PG.weak (pg_name hN h.1 (h.2.elim (fun z => .inl z) fun z => .inr z.1) (h.2.elim (fun z => .inr z) fun z => .inl z.2)) fun v σ H Q q => ?_
      obtain ⟨F, α, env, cs, d, env', ab, en, r, ea, k⟩ := q
      simp only [asg] at ea
      split at ea
      · next hl =>
        cases ea
        refine k _ ⟨by simp [en.len], fun j d' ej => ?_⟩ fun j hj => ?_
        · by_cases hij : i = j
          · subst hij
            rw [List.getElem?_set_self hl] at ej
            cases ej
            exact ⟨v, List.getElem?_set_self (by rw [← en.len]; exact hl), r⟩
          · rw [List.getElem?_set_ne hij] at ej ⊢
            exact en.at_ j d' ej
        · have hij : i ≠ j := fun z => hj (by simp [tgSlots, z])
          exact List.getElem?_set_ne hij
      · cases ea
  | .tp ts, e, h => by
    cases e <;> simp only [mTg, Bool.false_eq_true] at h
    next es k p =>
      obtain ⟨h1, h2⟩ := tgs_len (env := X.env) h
      refine PG.weak (pg_tup hc (pgs_tg ts es h) h1 h2) fun v σ H Q q => ?_
      obtain ⟨F, α, env, cs, d, env', ab, en, r, ea, k⟩ := q
      simp only [asg] at ea
      split at ea
      · next xs =>
        obtain ⟨a, vs, rfl, hq, rs⟩ := r
        exact ⟨a, vs, rfl, by rw [hK]; exact Same.sqT ab.sub hq, by rw [← rs.len, asgs_len ea], F, α, env, cs, xs, env', ab, en, reps_v rs, ea, k⟩
      · cases ea
theorem pgs_tg : ∀ (ts : List Tg) (es : List Expr), mTgs X.N X.env.scope X.fn ts es = true → PGs X es (gTs G ts)
  | [], [], _ => by
    refine PGs.weak pgs_nil fun v σ H Q q => ?_
    obtain ⟨F, α, env, cs, ds, env', ab, en, r, ea, k⟩ := q
    cases ds with
    | nil =>
      simp only [asgs, Option.some.injEq] at ea
      subst ea
      exact ⟨r, k σ en fun _ _ => rfl⟩
    | cons d ds => simp [asgs] at ea
  | [], _ :: _, h => by simp [mTgs] at h
  | _ :: _, [], h => by simp [mTgs] at h
  | t :: ts, e :: es, h => by
    simp only [mTgs, Bool.and_eq_true] at h
    refine PGs.weak (pgs_cons (pg_tg t e h.1) (pgs_tg ts es h.2) (by rw [tg_each h.1]; rfl)) fun v σ H Q q => ?_
    obtain ⟨F, α, env, cs, ds, env', ab, en, r, ea, k⟩ := q
    cases ds with
    | nil => simp [asgs] at ea
    | cons d ds =>
      obtain ⟨v1, vr, rfl, r1, r2⟩ := r
      simp only [asgs] at ea
      split at ea
      · next env1 e1 =>
        refine ⟨v1, vr, rfl, F, α, env, cs, d, env1, ab, en, r1, e1, fun σ1 en1 o1 => ?_⟩
        refine ⟨F, α, env1, cs, ds, env', ab, en1, r2, ea, fun σ2 en2 o2 => k σ2 en2 fun i hi => ?_⟩
        simp only [tgsSlots, List.mem_append, not_or] at hi
        exact (o2 i hi.2).trans (o1 i hi.1)
      · cases ea
end
end
/-! tests -/
section
variable {G : Gt} {C : Mc} {W : WX} {L : Addr} {call : Call} {X : Cx}
structure OkB (G : Gt) (W : WX) (call : Call) (X : Cx) (t : E) (e : Expr) : Prop where
  ok : Ok G W call X t e
  ot : testable t = true → PT X e (tT G W (tst call t))
  fr : isFresh t = true → PE X e (tF G W (ev call t))
theorem ot_val (g : Good G C W L call X) {t : E} {e : Expr} (he : PE X e (tE G W (ev call t))) (hp : ∀ whole, isTrue e X.env whole = (do let v ← whole; standAt e.pos; holding [v] (truthy v)))
    (hd : ∀ env cs, tst call t env cs = (ev call t env cs).bind fun x cs1 => R.opt (truD (view cs1 x)) cs1) : PT X e (tT G W (tst call t)) := by
  refine PT.weak (pt_truth he hp) fun σ H Q q => ?_
  obtain ⟨F, α, env, cs, ab, en, po⟩ := q
  rw [hd] at po
  refine tE_bind (f := fun _ x cs1 => R.opt (truD (view cs1 x)) cs1) ab en po fun F1 α1 H1 cs1 d v s p a1 en1 r po1 => ?_
  obtain ⟨b, eb, po2⟩ := po1.opt
  exact ⟨b, by rw [g.K]; exact tru_rep a1.sub (r.view a1) eb, po2.here a1⟩
theorem ot_not {a : E} {x : Expr} {pos : Pos} (ha : PT X x (tT G W (tst call a))) : PT X (.UnaryOp .Not x pos) (tT G W (tst call (.not a))) := by
  refine PT.weak (pt_not ha) fun σ H Q q => ?_
  obtain ⟨F, α, env, cs, ab, en, po⟩ := q
  simp only [tst] at po
  refine tT_bind (f := fun _ b cs1 => R.ok (!b) cs1) ab en po fun F1 α1 H1 cs1 b s p a1 en1 po1 => po1.here a1
theorem ot_ite {c a b : E} {z x y : Expr} {pos : Pos} (hc : PT X z (tT G W (tst call c))) (ha : PT X x (tT G W (tst call a))) (hb : PT X y (tT G W (tst call b))) : PT X (.IfExp z x y pos) (tT G W (tst call (.ite c a b))) := by
  refine ⟨fun pins s σ H Q I q => ?_⟩
  obtain ⟨F, α, env, cs, ab, en, po⟩ := q
  simp only [tst] at po
  have q1 : tT G W (tst call c) σ H fun t H1 => tT G W (if t = true then tst call a else tst call b) σ H1 Q :=
    tT_bind (f := fun env t cs1 => if t then tst call a env cs1 else tst call b env cs1) ab en po fun F1 α1 H1 cs1 t s p a1 en1 po1 => ⟨F1, α1, env, cs1, a1, en1, by cases t <;> exact po1⟩
  refine isTrue_IfExp (thn (hc.run pins s σ H _ I q1) fun t s1 h1 => ?_)
  obtain ⟨H1, I1, q2⟩ := h1
  cases t with
  | true => exact ha.run pins s1 σ H1 Q I1 q2
  | false => exact hb.run pins s1 σ H1 Q I1 q2
theorem PW.nil_and {pos : Pos} : PW X (.BoolOp .And [] pos) (fun _ H Q => Q true H) := ⟨fun wh pins s σ H Q I q => isTrue_and_nil ⟨H, I, q⟩⟩
theorem PW.nil_or {pos : Pos} : PW X (.BoolOp .Or [] pos) (fun _ H Q => Q false H) := ⟨fun wh pins s σ H Q I q => isTrue_or_nil ⟨H, I, q⟩⟩
inductive AllT (G : Gt) (W : WX) (call : Call) (X : Cx) : List E → List Expr → Prop
  | nil : AllT G W call X [] []
  | cons {t : E} {e : Expr} {ts : List E} {es : List Expr} : PT X e (tT G W (tst call t)) → AllT G W call X ts es → AllT G W call X (t :: ts) (e :: es)
theorem pw_and' {a : Expr} {rest : List Expr} {pos : Pos} {tA tB : TT} (ha : PT X a tA) (hb : PW X (.BoolOp .And rest pos) tB) : PW X (.BoolOp .And (a :: rest) pos) (tAnd tA tB) := by
  refine ⟨fun wh pins s σ H Q I h => ?_⟩
  refine isTrue_and (thn (ha.run pins s σ H _ I h) fun c s1 z => ?_)
  obtain ⟨H1, I1, q1⟩ := z
  cases c with
  | false => exact ⟨H1, I1, q1⟩
  | true => exact hb.run wh pins s1 σ H1 Q I1 q1
theorem pw_or' {a : Expr} {rest : List Expr} {pos : Pos} {tA tB : TT} (ha : PT X a tA) (hb : PW X (.BoolOp .Or rest pos) tB) : PW X (.BoolOp .Or (a :: rest) pos) (tOr tA tB) := by
  refine ⟨fun wh pins s σ H Q I h => ?_⟩
  refine isTrue_or (thn (ha.run pins s σ H _ I h) fun c s1 z => ?_)
  obtain ⟨H1, I1, q1⟩ := z
  cases c with
  | true => exact ⟨H1, I1, q1⟩
  | false => exact hb.run wh pins s1 σ H1 Q I1 q1
theorem ot_all {pos : Pos} : ∀ {ts : List E} {es : List Expr}, AllT G W call X ts es → PW X (.BoolOp .And es pos) (tT G W (tstAll call ts))
  | _, _, .nil => by
    refine PW.weak PW.nil_and fun σ H Q q => ?_
    obtain ⟨F, α, env, cs, ab, en, po⟩ := q
    simp only [tstAll] at po
    exact po.here ab
  | _, _, .cons (t := t) (ts := ts) a b => by
    refine PW.weak (pw_and' a (ot_all b)) fun σ H Q q => ?_
    obtain ⟨F, α, env, cs, ab, en, po⟩ := q
    simp only [tstAll] at po
    refine tT_bind (f := fun env b cs1 => if b then tstAll call ts env cs1 else R.ok false cs1) ab en po fun F1 α1 H1 cs1 b s p a1 en1 po1 => ?_
    cases b with
    | true => exact ⟨F1, α1, env, cs1, a1, en1, po1⟩
    | false => exact po1.here a1
theorem ot_any {pos : Pos} : ∀ {ts : List E} {es : List Expr}, AllT G W call X ts es → PW X (.BoolOp .Or es pos) (tT G W (tstAny call ts))
  | _, _, .nil => by
    refine PW.weak PW.nil_or fun σ H Q q => ?_
    obtain ⟨F, α, env, cs, ab, en, po⟩ := q
    simp only [tstAny] at po
    exact po.here ab
  | _, _, .cons (t := t) (ts := ts) a b => by
    refine PW.weak (pw_or' a (ot_any b)) fun σ H Q q => ?_
    obtain ⟨F, α, env, cs, ab, en, po⟩ := q
    simp only [tstAny] at po
    refine tT_bind (f := fun env b cs1 => if b then R.ok true cs1 else tstAny call ts env cs1) ab en po fun F1 α1 H1 cs1 b s p a1 en1 po1 => ?_
    cases b with
    | false => exact ⟨F1, α1, env, cs1, a1, en1, po1⟩
    | true => exact po1.here a1
/-- a clause's tests -/
theorem ot_ifs {ts : List E} {es : List Expr} (h : AllT G W call X ts es) (hl : es.length ≤ 1) : PTs X es (tT G W (tstAll call ts)) := by
  have wk : ∀ {es : List Expr} {t t' : TT}, PTs X es t → (∀ σ H Q, t' σ H Q → t σ H Q) → PTs X es t' := fun h k => ⟨fun pins s σ H Q I q => h.run pins s σ H Q I (k σ H Q q)⟩
  cases h with
  | nil =>
    refine wk pts_nil fun σ H Q q => ?_
    obtain ⟨F, α, env, cs, ab, en, po⟩ := q
    simp only [tstAll] at po
    exact po.here ab
  | cons a b =>
    cases b with
    | cons c d => simp at hl
    | nil =>
      rename_i t e
      refine wk (pts_one a) fun σ H Q q => ?_
      obtain ⟨F, α, env, cs, ab, en, po⟩ := q
      simp only [tstAll] at po
      refine tT_bind (f := fun _ b cs1 => if b then R.ok true cs1 else R.ok false cs1) ab en po fun F1 α1 H1 cs1 b s p a1 en1 po1 => ?_
      cases b <;> exact po1.here a1
end
end PV
end

section
set_option Elab.async false
set_option linter.all false
set_option maxRecDepth 100000
set_option maxHeartbeats 2000000
set_option autoImplicit false
/-! Lists that change: methods; comprehensions. -/
namespace PV
open PySem PySem.Spec PyProof.Rows L2
section
variable {G : Gt} {F H : Hp} {α : List Addr} {cs : Cells}
/-- a list that changes -/
theorem Ab.lst (ab : Ab G F α H cs) {n : Nat} {a : Addr} {mu : Bool} {xs : List D} (ea : α[n]? = some a) (ec : cs[n]? = some ⟨mu, .lst xs⟩) : ∃ vs, H a = some (.lst vs) ∧ Reps G F xs vs := by
  obtain ⟨o, h1, ⟨vs, rfl, h2⟩, _⟩ := (ab.cell n a _ ea ec).ho
  exact ⟨vs, h1, h2⟩
theorem Ab.set (ab : Ab G F α H cs) {n : Nat} {a : Addr} {xs ys : List D} {ws : List V} (ea : α[n]? = some a) (ec : cs[n]? = some ⟨true, .lst xs⟩) (r : Reps G F ys ws) :
    Ab G F α (upd H a (.lst ws)) (cs.set n ⟨true, .lst ys⟩) := by
  obtain ⟨o, h1, h2, h3, _⟩ := (ab.cell n a _ ea ec).ho
  have hF := h3 rfl
  refine ⟨same_upd ab.sub hF, by simpa using ab.len, ab.nd, fun m b c eb ecm => ?_⟩
  by_cases hm : m = n
  · subst hm
    rw [ea] at eb; cases eb
    rw [List.getElem?_set_self (by rw [← ab.len]; exact (List.getElem?_eq_some_iff.mp ea).1)] at ecm
    cases ecm
    exact ⟨⟨_, upd_same, ⟨ws, rfl, r⟩, fun _ => hF, fun z => Bool.noConfusion z⟩⟩
  · rw [List.getElem?_set_ne (Ne.symm hm)] at ecm
    obtain ⟨o', k1, k2, k3, k4⟩ := (ab.cell m b c eb ecm).ho
    have hb : b ≠ a := fun e => by subst e; exact hm (nodup_at ab.nd eb ea)
    exact ⟨⟨o', by rw [upd_ne hb]; exact k1, k2, k3, k4⟩⟩
/-- one more list that changes -/
theorem Ab.push (ab : Ab G F α H cs) {p : Addr} {xs : List D} {vs : List V} (h : H p = none) (r : Reps G F xs vs) : Ab G F (α ++ [p]) (upd H p (.lst vs)) (cs ++ [⟨true, .lst xs⟩]) := by
  have hF := same_none ab.sub h
  have hl := ab.len
  refine ⟨same_upd ab.sub hF, by simp [hl], ?_, fun n b c eb ec => ?_⟩
  · rw [List.nodup_append]
    refine ⟨ab.nd, by simp, fun b hb c hc => ?_⟩
    simp only [List.mem_singleton] at hc
    subst hc
    intro e
    subst e
    exact ab.ne h hb
  · by_cases hn : n < cs.length
    · rw [List.getElem?_append_left hn] at ec
      rw [List.getElem?_append_left (by omega)] at eb
      obtain ⟨o', k1, k2, k3, k4⟩ := (ab.cell n b c eb ec).ho
      have hb : b ≠ p := fun e => by subst e; rw [h] at k1; cases k1
      exact ⟨⟨o', by rw [upd_ne hb]; exact k1, k2, k3, k4⟩⟩
    · have hn' : n = cs.length := by
        have := (List.getElem?_eq_some_iff.mp ec).1
        simp at this
        omega
      subst hn'
      rw [List.getElem?_append_right (by omega)] at ec eb
      rw [hl] at eb
      simp at eb ec
      subst eb ec
      exact ⟨⟨_, upd_same, ⟨vs, rfl, r⟩, fun _ => hF, fun z => Bool.noConfusion z⟩⟩
theorem at_push {a : Addr} {n : Nat} (hn : n = α.length) : (α ++ [a])[n]? = some a := by
  subst hn
  rw [List.getElem?_append_right (Nat.le_refl _)]
  simp
theorem setCell_inv {W : WX} {σ : L2.St} {n : Nat} {f : List D → Option (D × List D)} {Q : Hp → List Addr → Hp → Cells → D → Prop} (po : Post G W σ F α (setCell n f cs) Q) :
    ∃ xs r ys, cs[n]? = some ⟨true, .lst xs⟩ ∧ f xs = some (r, ys) ∧ Post G W σ F α (.ok r (cs.set n ⟨true, .lst ys⟩)) Q := by
  unfold setCell at po
  split at po
  · next xs hx =>
    split at po
    · next r ys hf => exact ⟨xs, r, ys, hx, hf, po⟩
    · exact po.elim
  · exact po.elim
theorem own_ref {n : Nat} {v : V} (r : RepV G F α (.own n) v) : ∃ a, α[n]? = some a ∧ v = .ref a := r
/-- an item put behind a list -/
theorem pushD_inv {W : WX} {σ : L2.St} {n : Nat} {x : D} {v : V} {a : Addr} {Q : Hp → List Addr → Hp → Cells → Unit → Prop} (ab : Ab G F α H cs) (ea : α[n]? = some a) (r : RepV G F α x v) (po : Post G W σ F α (pushD n x cs) Q) :
    ∃ vs, H a = some (.lst vs) ∧ vs.length < sizeLine ∧ ∃ F1 cs1, Same F F1 ∧ Ab G F1 α (upd H a (.lst (vs ++ [v]))) cs1 ∧ Post G W σ F1 α (.ok () cs1) Q := by
  have hbl := big_line
  unfold pushD at po
  obtain ⟨F1, s1, a1, q1⟩ := fz_ok ab r
  obtain ⟨xs, r', ys, hx, hf, po2⟩ := setCell_inv (po.bind)
  split at hf
  · next hlen =>
    simp only [Option.some.injEq, Prod.mk.injEq] at hf
    obtain ⟨rfl, rfl⟩ := hf
    obtain ⟨vs, h1, h2⟩ := a1.lst ea hx
    have hl := h2.len
    have r2 : Reps G F1 (xs ++ [(fz x cs).1]) (vs ++ [v]) := h2.append ⟨v, [], rfl, q1, rfl⟩
    refine ⟨vs, h1, by omega, F1, _, s1, a1.set ea hx r2, ?_⟩
    have := po2.up s1 (List.prefix_refl _)
    exact fun F' α' H' s p ab' => (this F' α' H' s p ab').here ab'
  · cases hf
end
/-! methods -/
section
variable {G : Gt} {C : Mc} {W : WX} {L : Addr} {call : Call} {X : Cx}
def rMth (G : Gt) (W : WX) (σ : L2.St) (m : Me) : V → List V → Hp → VK → Prop := fun x vs H Q => ∃ F α cs d ds, Ab G F α H cs ∧ RepV G F α d x ∧ RepVs G F α ds vs ∧ Post G W σ F α (mthD m d ds cs) fun F' α' H' _ r => ∀ v, RepV G F' α' r v → Q v H'
theorem plain_base {o : Expr} {n : Str} {env : PySem.Env} (h : plainBase o = true) (w : Sem Value) : attributeBase o n env w = w := by
  cases o with
  | Call f as ks p =>
    cases as with
    | nil => simp [plainBase] at h
    | cons a b => cases f <;> rfl
  | _ => rfl
theorem few_ok {e : Expr} {env : PySem.Env} {pos : Pos} (h : isStar e = false) : ((backTo pos (starEach [e] env)).all (fun x => !x.1) && (backToKw pos (keywordEach [] env)).all (fun x => x.1.isSome) && decide (([e] : List Expr).length + ([] : List Keyword).length + (if ([] : List Keyword).isEmpty then 0 else 1) < 30)) = true := by
  rw [star_cons _ _ h]; rfl
theorem ls_ty (hK : X.K = G.K) {F H : Hp} {α : List Addr} {cs : Cells} (ab : Ab G F α H cs) {d : D} {v : V} (r : RepV G F α d v) (h : lsD d = true) : tyV X.K "list" v H := by
  cases d with
  | own n =>
    obtain ⟨a, ea, rfl⟩ := r
    have hn : n < cs.length := by rw [← ab.len]; exact (List.getElem?_eq_some_iff.mp ea).1
    obtain ⟨o, h1, h2, _, _⟩ := (ab.cell n a _ ea (List.getElem?_eq_getElem hn)).ho
    generalize (cs[n]).d = d at h2
    cases d with
    | lst xs => obtain ⟨vs, rfl, _⟩ := h2; exact .inl ⟨rfl, vs, SqL.of h1⟩
    | _ => exact h2.elim
  | lst xs =>
    obtain ⟨a, vs, rfl, h1, _⟩ := r
    exact .inl ⟨rfl, vs, SqL.of (ab.sub _ _ h1)⟩
  | _ => simp [lsD] at h
/-- the reading of a method's call -/
theorem mth_lead (hK : X.K = G.K) {m : Me} {a : E} {es : List E} {r : V → List V → Hp → VK → Prop} (hr : ∀ σ x vs H Q, rMth G W σ m x vs H Q → r x vs H Q) {σ : L2.St} {H : Hp} {Q : VK} (q : tE G W (ev call (.mth m a es)) σ H Q) :
    tBM X.K "list" r (tE G W (ev call a)) (tA G W (evs call es)) σ H Q := by
  obtain ⟨F, α, env, cs, ab, en, po⟩ := q
  simp only [ev] at po
  refine tE_bind (f := fun env x cs1 => if lsD x then (evs call es env cs1).bind fun ds cs2 => mthD m x ds cs2 else .stuck) ab en po fun F1 α1 H1 cs1 d v s p a1 en1 r1 po1 => ?_
  split at po1
  · next hl =>
    refine ⟨ls_ty hK a1 r1 hl, ?_⟩
    refine tA_of (f := fun _ ds cs2 => mthD m d ds cs2) a1 en1 po1 fun F2 α2 H2 cs2 ds vs s2 p2 a2 en2 r2 _ po2 => hr σ _ _ _ _ ⟨F2, α2, cs2, d, ds, a2, r1.mono s2 p2, r2, po2⟩
  · exact po1.elim
theorem mt_app {σ : L2.St} {x : V} {vs : List V} {H : Hp} {Q : VK} (h : rMth G W σ .append x vs H Q) : rAppend x vs H Q := by
  obtain ⟨F, α, cs, d, ds, ab, rd, rs, po⟩ := h
  rcases ds with _ | ⟨a, _ | ⟨b, r⟩⟩ <;> cases d <;> first | exact po.elim | skip
  next n =>
    obtain ⟨p, ea, rfl⟩ := rd
    obtain ⟨v, _, rfl, rv, rfl⟩ := rs
    obtain ⟨F1, s1, a1, q1⟩ := fz_ok ab rv
    obtain ⟨xs, r', ys, hx, hf, po2⟩ := setCell_inv (f := fun xs => if xs.length < big then some (.non, xs ++ [(fz a cs).1]) else none) (cs := (fz a cs).2) po
    have hbl := big_line
    split at hf
    · next hlen =>
      simp only [Option.some.injEq, Prod.mk.injEq] at hf
      obtain ⟨rfl, rfl⟩ := hf
      obtain ⟨ws, h1, h2⟩ := a1.lst ea hx
      have hl := h2.len
      have r2 : Reps G F1 (xs ++ [(fz a cs).1]) (ws ++ [v]) := h2.append ⟨v, [], rfl, q1, rfl⟩
      exact ⟨p, ws, v, rfl, rfl, h1, by omega, (po2.up s1 (List.prefix_refl _)).here (a1.set ea hx r2) _ rfl⟩
    · cases hf
theorem mt_ext {σ : L2.St} {x : V} {vs : List V} {H : Hp} {Q : VK} (h : rMth G W σ .extend x vs H Q) : rExtend x vs H Q := by
  obtain ⟨F, α, cs, d, ds, ab, rd, rs, po⟩ := h
  rcases ds with _ | ⟨a, _ | ⟨b, r⟩⟩ <;> cases d <;> first | exact po.elim | skip
  next n =>
    have po : Post G W σ F α (match view cs a with
      | .lst ys => setCell n (fun xs => if xs.length + ys.length ≤ big then some (.non, xs ++ ys) else none) cs
      | _ => .stuck) _ := po
    split at po
    · next ys hy =>
      obtain ⟨p, ea, rfl⟩ := rd
      obtain ⟨v, _, rfl, rv, rfl⟩ := rs
      have rw' := rv.view ab
      rw [hy] at rw'
      obtain ⟨b, ws, rfl, h3, h4⟩ := rw'
      obtain ⟨xs, r', zs, hx, hf, po2⟩ := setCell_inv po
      have hbl := big_line
      split at hf
      · next hlen =>
        simp only [Option.some.injEq, Prod.mk.injEq] at hf
        obtain ⟨rfl, rfl⟩ := hf
        obtain ⟨us, h1, h2⟩ := ab.lst ea hx
        have hl := h2.len
        have hl2 := h4.len
        exact ⟨p, b, us, ws, rfl, rfl, h1, h3, by omega, po2.here (ab.set ea hx (h2.append h4)) _ rfl⟩
      · cases hf
    · exact po.elim
theorem mt_pop0 {σ : L2.St} {x : V} {vs : List V} {H : Hp} {Q : VK} (h : rMth G W σ .pop0 x vs H Q) : rPop x vs H Q := by
  obtain ⟨F, α, cs, d, ds, ab, rd, rs, po⟩ := h
  rcases ds with _ | ⟨a, _ | ⟨b, r⟩⟩ <;> cases d <;> first | exact po.elim | skip
  next n =>
    obtain ⟨p, ea, rfl⟩ := rd
    cases rs
    obtain ⟨xs, r', zs, hx, hf, po2⟩ := setCell_inv (f := fun xs => match xs[xs.length - 1]? with | some d => some (d, xs.dropLast) | none => none) po
    split at hf
    · next d hd =>
      simp only [Option.some.injEq, Prod.mk.injEq] at hf
      obtain ⟨rfl, rfl⟩ := hf
      obtain ⟨us, h1, h2⟩ := ab.lst ea hx
      obtain ⟨y, e1, r1⟩ := h2.get hd
      exact ⟨p, us, y, rfl, rfl, h1, by rw [← h2.len]; exact e1, po2.here (ab.set ea hx h2.dropLast) _ (rep_v r1)⟩
    · cases hf
theorem mt_pop1 {σ : L2.St} {x : V} {vs : List V} {H : Hp} {Q : VK} (h : rMth G W σ .pop1 x vs H Q) : rPopAt x vs H Q := by
  obtain ⟨F, α, cs, d, ds, ab, rd, rs, po⟩ := h
  rcases ds with _ | ⟨a, _ | ⟨b, r⟩⟩ <;> cases d <;> first | exact po.elim | skip
  all_goals cases a <;> first | exact po.elim | skip
  next n i =>
    have po : Post G W σ F α (if !rngOk i then .stuck else setCell n (fun xs => match ixN xs.length i with
      | some j => (match xs[j]? with | some d => some (d, xs.eraseIdx j) | none => none)
      | none => none) cs) _ := po
    split at po
    · exact po.elim
    · next hr =>
      obtain ⟨p, ea, rfl⟩ := rd
      obtain ⟨v, _, rfl, rv, rfl⟩ := rs
      cases rv
      have hb := rngOk_le (by simpa using hr)
      obtain ⟨xs, r', zs, hx, hf, po2⟩ := setCell_inv po
      split at hf
      · next j hj =>
        split at hf
        · next d hd =>
          simp only [Option.some.injEq, Prod.mk.injEq] at hf
          obtain ⟨rfl, rfl⟩ := hf
          obtain ⟨us, h1, h2⟩ := ab.lst ea hx
          obtain ⟨y, e1, r1⟩ := h2.get hd
          rw [h2.len] at hj
          obtain ⟨k1, _, _, _⟩ := ixN_seq (by rw [← ixN_eq]; exact hj)
          exact ⟨p, us, i, j, y, rfl, rfl, h1, by omega, by omega, k1, e1, po2.here (ab.set ea hx (h2.erase j)) _ (rep_v r1)⟩
        · cases hf
      · cases hf
theorem idxIn_ok (d : PyData) : ∀ (ds : List PyData) (i j : Nat), idxIn d i ds = some j → ∃ m, j = i + m ∧ (∃ z, ds[m]? = some z ∧ PyData.eqv z d = true) ∧ ∀ (k : Nat) (z' : PyData), k < m → ds[k]? = some z' → PyData.eqv z' d = false
  | [], i, j, h => by simp [idxIn] at h
  | z :: zs, i, j, h => by
    simp only [idxIn] at h
    split at h
    · next hz =>
      cases h
      exact ⟨0, rfl, ⟨z, rfl, hz⟩, fun k z' hk => by omega⟩
    · next hz =>
      obtain ⟨m, e, ⟨y, h1, h2⟩, h3⟩ := idxIn_ok d zs (i + 1) j h
      refine ⟨m + 1, by omega, ⟨y, h1, h2⟩, fun k z' hk hk2 => ?_⟩
      cases k with
      | zero => simp at hk2; subst hk2; simpa using hz
      | succ k => exact h3 k z' (by omega) (by simpa using hk2)
theorem mt_idx (hK : X.K = G.K) {σ : L2.St} {x : V} {vs : List V} {H : Hp} {Q : VK} (h : rMth G W σ .index x vs H Q) : rIndexD X.K x vs H Q := by
  obtain ⟨F, α, cs, d, ds, ab, rd, rs, po⟩ := h
  rcases ds with _ | ⟨a, _ | ⟨b, r⟩⟩
  · cases d <;> exact po.elim
  · have po : Post G W σ F α (match view cs d, (view cs a).py with
      | .lst xs, some d => (match D.pys xs with
        | some es => if SeqAt.shaped d && SeqAt.shaped (.list es) then (match idxIn d 0 es with | some j => R.ok (D.int j) cs | none => .stuck) else .stuck
        | none => .stuck)
      | _, _ => .stuck) (fun F' α' H' _ r => ∀ v, RepV G F' α' r v → Q v H') := by cases d <;> exact po
    split at po
    · next xs dd hx hd =>
      split at po
      · next es hes =>
        split at po
        · next hsh =>
          split at po
          · next j hj =>
            obtain ⟨v, _, rfl, rv, rfl⟩ := rs
            rw [Bool.and_eq_true] at hsh
            have r1 := rd.view ab
            have r2 := rv.view ab
            rw [hx] at r1
            have d1 : Dp G.K H x (.list es) := RepW.dp ab.sub r1 (by simp only [D.py, hes])
            have d2 := RepW.dp ab.sub r2 hd
            obtain ⟨b, ws, rfl, _, _⟩ := r1
            obtain ⟨m, rfl, ⟨z, h1, h2⟩, h3⟩ := idxIn_ok dd es 0 j hj
            rw [hK]
            refine ⟨b, v, dd, es, m, z, rfl, rfl, d1, d2, hsh.2, hsh.1, h1, h2, h3, po.here ab _ ?_⟩
            rw [Nat.zero_add]
            rfl
          · exact po.elim
        · exact po.elim
      · exact po.elim
    · exact po.elim
  · cases d <;> exact po.elim
theorem ok_mth (g : Good G C W L call X) {m : Me} {a : E} {es : List E} {o : Expr} {as : List Expr} {n : Str} {apos cpos : Pos} (hn : n = meName m) (hl : as.length = meArgs m) (hp : (apos.endLine == cpos.line) = true) (hb : plainBase o = true) (hm : m ≠ .count)
    (ha : PE X o (tE G W (ev call a))) (h : AllE (Ok G W call X) es as) : PE X (.Call (.Attribute o n apos) as [] cpos) (tE G W (ev call (.mth m a es))) := by
  subst hn
  have hu : X.A.units + 65 < cLine := by have := g.hu; omega
  have hA := ok_args h
  have hs := h.imp fun _ _ z => z.star
  cases m with
  | count => exact absurd rfl hm
  | pop0 =>
    obtain rfl : as = [] := List.length_eq_zero_iff.mp hl
    cases h
    refine PE.weak (pe_bm0 PySem.F.plainAttrs_list PySem.F.slot_list_pop PySem.F.type_list_pop mt_pop ha (plain_base hb _) hp) fun σ H Q q => ?_
    obtain ⟨F, α, env, cs, ab, en, po⟩ := q
    simp only [ev, evs] at po
    refine tE_bind (f := fun env x cs1 => if lsD x then (R.ok [] cs1).bind fun ds cs2 => mthD .pop0 x ds cs2 else .stuck) ab en po fun F1 α1 H1 cs1 d v s p a1 en1 r1 po1 => ?_
    split at po1
    · next hl => exact ⟨ls_ty g.K a1 r1 hl, mt_pop0 (σ := σ) ⟨F1, α1, cs1, d, [], a1, r1, rfl, po1⟩⟩
    · exact po1.elim
  | append =>
    obtain ⟨e, rfl⟩ := len1 hl
    have s1 : isStar e = false := by cases hs with | cons a b => exact a
    exact PE.weak (pe_bm PySem.F.plainAttrs_list PySem.F.slot_list_append PySem.F.type_list_append mt_append ha hA (plain_base hb _) (few_ok s1) hp (star_cons _ _ s1)) fun σ H Q q => mth_lead g.K (fun _ _ _ _ _ => mt_app) q
  | extend =>
    obtain ⟨e, rfl⟩ := len1 hl
    have s1 : isStar e = false := by cases hs with | cons a b => exact a
    exact PE.weak (pe_bm PySem.F.plainAttrs_list PySem.F.slot_list_extend PySem.F.type_list_extend mt_extend ha hA (plain_base hb _) (few_ok s1) hp (star_cons _ _ s1)) fun σ H Q q => mth_lead g.K (fun _ _ _ _ _ => mt_ext) q
  | pop1 =>
    obtain ⟨e, rfl⟩ := len1 hl
    have s1 : isStar e = false := by cases hs with | cons a b => exact a
    exact PE.weak (pe_bm PySem.F.plainAttrs_list PySem.F.slot_list_pop PySem.F.type_list_pop mt_popAt ha hA (plain_base hb _) (few_ok s1) hp (star_cons _ _ s1)) fun σ H Q q => mth_lead g.K (fun _ _ _ _ _ => mt_pop1) q
  | index =>
    obtain ⟨e, rfl⟩ := len1 hl
    have s1 : isStar e = false := by cases hs with | cons a b => exact a
    exact PE.weak (pe_bm PySem.F.plainAttrs_list PySem.F.slot_list_index PySem.F.type_list_index (mt_indexD hu) ha hA (plain_base hb _) (few_ok s1) hp (star_cons _ _ s1)) fun σ H Q q => mth_lead g.K (fun _ _ _ _ _ => mt_idx g.K) q
end
/-! comprehensions -/
section
variable {G : Gt} {C : Mc} {W : WX} {L : Addr} {call : Call} {X : Cx}
/-- the turns of a comprehension, frozen rows or not -/
structure Rst (items : Cells → Option (List D)) (f : D → Cells → R Unit) (V : Nat → Nat → Prop) (Rest : Nat → Nat → Cells → R Unit) : Prop where
  step : ∀ n i cs, V n i → Rest n i cs ≠ .stuck → ∃ ds, items cs = some ds ∧ ((ds[i]? = none ∧ Rest n i cs = .ok () cs) ∨ ∃ d n', n' < n ∧ V n' (i + 1) ∧ ds[i]? = some d ∧ Rest n i cs = (f d cs).bind fun _ cs1 => Rest n' (i + 1) cs1)
theorem rst_o (items : Cells → Option (List D)) (f : D → Cells → R Unit) : Rst items f (fun _ _ => True) (compO items f) := by
  refine ⟨fun n i cs _ h => ?_⟩
  cases n with
  | zero => exact absurd rfl h
  | succ n =>
    cases hi : items cs with
    | none => simp only [compO, hi, ne_eq, not_true_eq_false] at h
    | some ds =>
      refine ⟨ds, rfl, ?_⟩
      cases hd : ds[i]? with
      | none => exact .inl ⟨rfl, by simp only [compO, hi, hd]⟩
      | some d => exact .inr ⟨d, n, Nat.lt_succ_self _, trivial, rfl, by simp only [compO, hi, hd]⟩
theorem rst_l (xs : List D) (f : D → Cells → R Unit) {items : Cells → Option (List D)} (hi : ∀ c, items c = some xs) : Rst items f (fun n i => n + i = xs.length) (fun _ i cs => compL f (xs.drop i) cs) := by
  refine ⟨fun n i cs hv h => ⟨xs, hi cs, ?_⟩⟩
  by_cases hl : i < xs.length
  · refine .inr ⟨xs[i], n - 1, by omega, by omega, List.getElem?_eq_getElem hl, ?_⟩
    rw [List.drop_eq_getElem_cons hl]
    rfl
  · refine .inl ⟨List.getElem?_eq_none (by omega), ?_⟩
    rw [List.drop_eq_nil_of_le (by omega)]
    rfl
theorem view_frozen {ds : List D} (h : ds.any isOwn = false) (cs : Cells) : ds.map (view cs) = ds := by
  induction ds with
  | nil => rfl
  | cons d ds ih =>
    simp only [List.any_cons, Bool.or_eq_false_iff] at h
    rw [List.map_cons, ih h.2]
    cases d <;> first | rfl | simp [isOwn] at h
theorem walkC_inv {k : Ik} {ds : List D} {f : D → Cells → R Unit} {cs1 cs2 : Cells} (h : walkC k ds f cs1 cs2 ≠ .stuck) :
    kOk k ds = true ∧ (itemsOf k (ds.map (view cs1))).isSome = true ∧ ∃ V Rest n, Rst (fun c => itemsOf k (ds.map (view c))) f V Rest ∧ V n 0 ∧ walkC k ds f cs1 cs2 = Rest n 0 cs2 := by
  unfold walkC at h ⊢
  split at h
  · next hk =>
    refine ⟨hk, ?_⟩
    rw [if_pos hk]
    split at h
    · next ho =>
      rw [if_pos ho]
      split at h
      · next xs hx =>
        rw [hx]
        exact ⟨rfl, _, _, _, rst_o _ f, trivial, rfl⟩
      · exact absurd rfl h
    · next ho =>
      rw [if_neg ho]
      have hv := view_frozen (by simpa using ho)
      split at h
      · next xs hx =>
        refine ⟨by rw [hv, hx]; rfl, ?_⟩
        exact ⟨_, _, xs.length, rst_l xs f fun c => by rw [hv, hx], rfl, rfl⟩
      · exact absurd rfl h
  · exact absurd rfl h
theorem post_live {β : Type} {σ : L2.St} {F : Hp} {α : List Addr} {r : R β} {Q : Hp → List Addr → Hp → Cells → β → Prop} (h : Post G W σ F α r Q) : r ≠ .stuck := fun e => by subst e; exact h
theorem Post.same {β : Type} {W' : WX} {σ σ' : L2.St} {F : Hp} {α : List Addr} {r : R β} {Q : Hp → List Addr → Hp → Cells → β → Prop} (h : Post G W σ F α r Q) (hw : ∀ c d H, W c d σ H → W' c d σ' H) : Post G W' σ' F α r Q := by
  cases r with
  | ok b cs => exact h
  | exc x cs => exact fun F' α' H' cls dx s p a e => hw _ _ _ (h F' α' H' cls dx s p a e)
  | stuck => exact h
/-- the exceptions of a block: the slots of the frame around are meant -/
def Wb (W : WX) (σ : L2.St) : WX := fun cls d _ H => W cls d σ H
def tCmp (G : Gt) (W : WX) (call : Call) (elt : E) (tg : Tg) (own : List Nat) (k : Ik) (es ifs : List E) : TE := fun σ H Q => tLc (tI G W k (evs call es)) (gT G tg) (tT G (Wb W σ) (tstAll call ifs)) (tE G (Wb W σ) (ev call elt)) own σ H Q
theorem R.bind_bind {α β γ : Type} (m : R α) (f : α → Cells → R β) (h : β → Cells → R γ) : (m.bind f).bind h = m.bind fun a c => (f a c).bind h := by cases m <;> rfl
mutual
theorem asg_len : ∀ {t : Tg} {d : D} {env env' : Env}, asg t d env = some env' → env'.length = env.length
  | .nm i, d, env, env', h => by
    simp only [asg] at h
    split at h
    · cases h; simp
    · cases h
  | .tp ts, d, env, env', h => by
    simp only [asg] at h
    split at h
    · exact asgs_length h
    · cases h
theorem asgs_length : ∀ {ts : List Tg} {ds : List D} {env env' : Env}, asgs ts ds env = some env' → env'.length = env.length
  | [], [], _, _, h => by simp only [asgs, Option.some.injEq] at h; rw [h]
  | [], _ :: _, _, _, h => by simp [asgs] at h
  | _ :: _, [], _, _, h => by simp [asgs] at h
  | t :: ts, d :: ds, env, env', h => by
    simp only [asgs] at h
    split at h
    · next e1 he => rw [asgs_length h, asg_len he]
    · cases h
end
theorem comp_lead {elt : E} {tg : Tg} {own : List Nat} {k : Ik} {es ifs : List E} (hown : ∀ i ∈ tgSlots tg, i ∈ own) {σ : L2.St} {H : Hp} {Q : VK} (q : tE G W (ev call (.comp elt tg own k es ifs)) σ H Q) : tCmp G W call elt tg own k es ifs σ H Q := by
  obtain ⟨F, α, env, cs, ab, en, po⟩ := q
  simp only [ev] at po
  refine ⟨F, α, env, cs, ab, en, (Post.bind po).imp fun F1 α1 H1 cs1 ds s1 p1 a1 po1 => ?_⟩
  obtain ⟨f, hf⟩ : ∃ f : D → Cells → R Unit, f = turnC tg (PV.wipe env own) (fun e c => tstAll call ifs e c) (fun e c => ev call elt e c) cs1.length := ⟨_, rfl⟩
  rw [← hf] at po1
  have hns : walkC k ds f cs1 (cs1 ++ [⟨true, .lst []⟩]) ≠ .stuck := fun e => by rw [e] at po1; exact po1
  obtain ⟨hk, hi, V, Rest, n0, hR, hV, hw⟩ := walkC_inv hns
  rw [hw] at po1
  refine ⟨hi, hk, fun J hJ D hD => ?_⟩
  have en1 := en.mono s1 p1
  have hDs : F1 D = none := same_none a1.sub hD
  -- the invariant of the turns
  refine ⟨fun i m H => ∃ F α cs, Same F1 F ∧ (α1 ++ [D]) <+: α ∧ Ab G F α H cs ∧ V m i ∧ Post G W σ F α ((Rest m i cs).bind fun _ cs3 => R.ok (PV.D.own cs1.length) cs3) fun F' α' H' _ d => ∀ v, RepV G F' α' d v → Q v H',
    ⟨n0, F1, α1 ++ [D], _, same_rf, List.prefix_refl _, a1.push hD (xs := []) (vs := []) rfl, hV, po1.up same_rf (List.prefix_append _ _)⟩, ?_⟩
  rintro i m H2 ⟨F2, α2, cs2, s2, p2, a2, v2, po2⟩
  have hns2 : Rest m i cs2 ≠ .stuck := fun e => by rw [e] at po2; exact po2
  have pα : α1 <+: α2 := (List.prefix_append _ _).trans p2
  have eD : α2[cs1.length]? = some D := pre_get p2 (at_push a1.len.symm)
  obtain ⟨xs, hx, hcase⟩ := hR.step m i cs2 v2 hns2
  rcases hcase with ⟨hnone, hr⟩ | ⟨d, m', hm, hv', hd, hr⟩
  · left
    refine ⟨hJ.stop i F2 α2 H2 cs2 xs s2 pα a2 hx hnone, ?_⟩
    rw [hr] at po2
    exact po2.here a2 _ ⟨D, eD, rfl⟩
  · right
    refine ⟨hJ.go i F2 α2 H2 cs2 xs d s2 pα a2 hx hd, fun H' => ∃ m', m' < m ∧ ∃ F α cs, Same F1 F ∧ (α1 ++ [D]) <+: α ∧ Ab G F α H' cs ∧ V m' (i + 1) ∧ Post G W σ F α ((Rest m' (i + 1) cs).bind fun _ cs3 => R.ok (PV.D.own cs1.length) cs3) fun F' α' H' _ d => ∀ v, RepV G F' α' d v → Q v H', fun H' z => z, fun x H3 hy => ?_⟩
    rw [hr] at po2
    -- the item
    have hitem : ∃ F3, Same F2 F3 ∧ Ab G F3 α2 H3 cs2 ∧ RepV G F3 α2 d x := by
      rcases hJ.yld i F2 α2 H2 cs2 xs d x H3 s2 pα a2 hx hd hy with ⟨rfl, r⟩ | ⟨T, vs, ds', rfl, rfl, hT, rfl, r⟩
      · exact ⟨F2, same_rf, a2, rep_v r⟩
      · have s : Same F2 (upd F2 T (.tup vs)) := same_up (same_none a2.sub hT)
        exact ⟨_, s, a2.fresh hT _, T, vs, rfl, SqT.of upd_same, Reps.mono s _ _ r⟩
    obtain ⟨F3, s3, a3, rx⟩ := hitem
    have po3 := po2.up s3 (List.prefix_refl _)
    rw [hf] at po3
    cases ha : asg tg d (PV.wipe env own) with
    | none => simp only [turnC, ha] at po3; exact po3.elim
    | some env' =>
      simp only [turnC, ha] at po3
      have enw : EnvR G F3 α2 (PV.wipe env own) (L2.wipe σ own) := wipe_env ((en1.mono s2 pα).mono s3 (List.prefix_refl _)) own
      refine ⟨F3, α2, _, cs2, d, env', a3, enw, rx, ha, fun σ2 en2 hag => ⟨?_, ?_⟩⟩
      · have hl : σ2.length = (L2.wipe σ own).length := by
          rw [← en2.len, ← enw.len]
          exact asg_len ha
        rw [wipe_same hl fun j hj => hag j fun hm => hj (hown j hm), wipe_wipe]
      · have po4 : Post G (Wb W σ) σ2 F3 α2 ((tstAll call ifs env' cs2).bind fun b cs3 => (if b then (ev call elt env' cs3).bind fun x cs4 => pushD cs1.length x cs4 else R.ok () cs3).bind fun _ cs4 => (Rest m' (i + 1) cs4).bind fun _ cs5 => R.ok (PV.D.own cs1.length) cs5) fun F' α' H' _ d => ∀ v, RepV G F' α' d v → Q v H' := by
          rw [R.bind_bind, R.bind_bind] at po3
          exact po3.same fun _ _ _ z => z
        refine tT_bind (f := fun env' b cs3 => (if b then (ev call elt env' cs3).bind fun x cs4 => pushD cs1.length x cs4 else R.ok () cs3).bind fun _ cs4 => (Rest m' (i + 1) cs4).bind fun _ cs5 => R.ok (PV.D.own cs1.length) cs5) a3 en2 po4 fun F4 α4 H4 cs4 b s4 p4 a4 en4 po5 => ?_
        cases b with
        | false =>
          rw [if_neg Bool.false_ne_true]
          exact ⟨m', hm, F4, α4, cs4, same_tr (same_tr s2 s3) s4, p2.trans p4, a4, hv', Post.same (show Post G (Wb W σ) σ2 F4 α4 ((Rest m' (i + 1) cs4).bind fun _ cs5 => R.ok (PV.D.own cs1.length) cs5) _ from po5) fun _ _ _ z => z⟩
        | true =>
          rw [if_pos rfl]
          simp only [if_true] at po5
          rw [R.bind_bind] at po5
          refine tE_bind (f := fun _ x cs4 => (pushD cs1.length x cs4).bind fun _ cs4 => (Rest m' (i + 1) cs4).bind fun _ cs5 => R.ok (PV.D.own cs1.length) cs5) a4 en4 po5 fun F5 α5 H5 cs5 x5 v5 s5 p5 a5 en5 r5 po6 => ?_
          obtain ⟨vs, h1, h2, F6, cs6, s6, a6, po7⟩ := pushD_inv a5 (pre_get p5 (pre_get p4 eD)) r5 po6.bind
          refine ⟨vs, h1, h2, m', hm, F6, α5, cs6, same_tr (same_tr (same_tr (same_tr s2 s3) s4) s5) s6, (p2.trans p4).trans p5, a6, hv', ?_⟩
          exact (po7.here a6).same fun _ _ _ z => z
end
end PV
end

section
set_option Elab.async false
set_option linter.all false
set_option maxRecDepth 100000
set_option maxHeartbeats 4000000
set_option autoImplicit false
/-! Expressions: what matches the text is what the text gives. -/
namespace PV
open PySem PySem.Spec PyProof.Rows L2
section
variable {G : Gt} {C : Mc} {W : WX} {L : Addr} {call : Call} {X : Cx}
theorem AllE.map {P Q : E → Expr → Prop} {ts : List E} {es : List Expr} (h : AllE P ts es) (k : ∀ t e, P t e → Q t e) : AllE Q ts es := h.imp k
theorem okb_plain (g : Good G C W L call X) {t : E} {e : Expr} (pe : PE X e (tE G W (ev call t))) (st : isStar e = false) (hp : ∀ whole, isTrue e X.env whole = (do let v ← whole; standAt e.pos; holding [v] (truthy v)))
    (hd : ∀ env cs, tst call t env cs = (ev call t env cs).bind fun x cs1 => R.opt (truD (view cs1 x)) cs1) (nf : isFresh t = false) : OkB G W call X t e :=
  ⟨⟨pe, st⟩, fun _ => ot_val g pe hp hd, fun h => by rw [nf] at h; cases h⟩
theorem okb_fresh (g : Good G C W L call X) {t : E} {e : Expr} (pf : PE X e (tF G W (ev call t))) (st : isStar e = false) (hp : ∀ whole, isTrue e X.env whole = (do let v ← whole; standAt e.pos; holding [v] (truthy v)))
    (hd : ∀ env cs, tst call t env cs = (ev call t env cs).bind fun x cs1 => R.opt (truD (view cs1 x)) cs1) : OkB G W call X t e :=
  ⟨⟨PE.ofF pf, st⟩, fun _ => ot_val g (PE.ofF pf) hp hd, fun _ => pf⟩
/-! what is walked -/
theorem pi_of (g : Good G C W L call X) {k : Ik} {it t : Expr} {as : List Expr} {es : List E} (h : itArgs k X.env.scope it = some as) (hes : AllE (Ok G W call X) es as) (ht : (k == .seq || k == .rng || isTup t) = true) : PI X t it (tI G W k (evs call es)) := by
  have tup : (k == .seq || k == .rng) = false → ∃ elts kk tpos, t = .Tuple elts kk tpos := fun hk => by
    rw [hk, Bool.false_or] at ht
    cases t <;> first | exact ⟨_, _, _, rfl⟩ | simp [isTup] at ht
  cases k with
  | seq =>
    simp only [itArgs, Option.some.injEq] at h
    subst h
    cases hes with
    | cons a b =>
      cases b
      exact pi_seq g a.pe
  | rng =>
    simp only [itArgs] at h
    split at h
    · split at h
      · next hh =>
        cases h
        obtain ⟨rfl, h2, h3⟩ := hh
        exact pi_rng g h2 hes h3
      · cases h
    · cases h
  | enum =>
    obtain ⟨elts, kk, tpos, rfl⟩ := tup rfl
    simp only [itArgs] at h
    split at h
    · split at h
      · next hh =>
        cases h
        obtain ⟨rfl, h2⟩ := hh
        cases hes with
        | cons a b =>
          cases b
          exact pi_enumD g h2 a
      · cases h
    · cases h
  | zip =>
    obtain ⟨elts, kk, tpos, rfl⟩ := tup rfl
    simp only [itArgs] at h
    split at h
    · split at h
      · next hh =>
        cases h
        obtain ⟨rfl, h2⟩ := hh
        cases hes with
        | cons a b =>
          cases b with
          | cons b c =>
            cases c
            exact pi_zipD g h2 a b
      · cases h
    · cases h
  | zip3 => simp [itArgs] at h
theorem not_set : ∀ {t : E} {sc : Scope} {a : List Expr} {b : Nat} {c : Pos}, mE C t sc (.Set a b c) = true → False
  | .mk t, sc, a, b, c, h => by
    simp only [mE] at h
    exact not_set h
  | .cst _, _, _, _, _, h => by simp [mE] at h
  | .var _, _, _, _, _, h => by simp [mE] at h
  | .gint _ _, _, _, _, _, h => by simp [mE] at h
  | .gstr _ _, _, _, _, _, h => by simp [mE] at h
  | .gfn _, _, _, _, _, h => by simp [mE] at h
  | .tup _, _, _, _, _, h => by simp [mE] at h
  | .lst _, _, _, _, _, h => by simp [mE] at h
  | .bin _ _ _, _, _, _, _, h => by simp [mE] at h
  | .neg _, _, _, _, _, h => by simp [mE] at h
  | .not _, _, _, _, _, h => by simp [mE] at h
  | .and _, _, _, _, _, h => by simp [mE] at h
  | .or _, _, _, _, _, h => by simp [mE] at h
  | .cmp _ _ _, _, _, _, _, h => by simp [mE] at h
  | .chn _ _ _ _ _, _, _, _, _, h => by simp [mE] at h
  | .isn _ _, _, _, _, _, h => by simp [mE] at h
  | .isb _ _ _, _, _, _, _, h => by simp [mE] at h
  | .ite _ _ _, _, _, _, _, h => by simp [mE] at h
  | .call _ _, _, _, _, _, h => by simp [mE] at h
  | .callv _ _, _, _, _, _, h => by simp [mE] at h
  | .bi _ _, _, _, _, _, h => by simp [mE] at h
  | .isi _ _, _, _, _, _, h => by simp [mE] at h
  | .rng _ _, _, _, _, _, h => by simp [mE] at h
  | .idx _ _, _, _, _, _, h => by simp [mE] at h
  | .slc _ _ _ _ _, _, _, _, _, h => by simp [mE] at h
  | .rev _, _, _, _, _, h => by simp [mE] at h
  | .comp _ _ _ _ _ _, _, _, _, _, h => by simp [mE] at h
  | .mth _ _ _, _, _, _, _, h => by simp [mE] at h
theorem folded_of {k : Ik} {sc : Scope} {it : Expr} {as : List Expr} {es : List E} (h : itArgs k sc it = some as) (he : mEs C es sc as = true) (env : PySem.Env) : ∀ x, foldedSetIterable it env x = pure x := by
  have key : (∀ a b c, it ≠ .Set a b c) → ∀ x, foldedSetIterable it env x = pure x := fun hn x => by
    cases it <;> first | rfl | exact absurd rfl (hn _ _ _)
  refine key fun a b c e => ?_
  subst e
  cases k with
  | seq =>
    simp only [itArgs, Option.some.injEq] at h
    subst h
    cases es with
    | nil => simp [mEs] at he
    | cons t ts =>
      simp only [mEs, Bool.and_eq_true] at he
      exact not_set he.1
  | _ => simp [itArgs] at h
theorem named_snd (N : List Str) (own : List Nat) : (named N own).map (·.2) = own := by
  unfold named
  rw [List.map_map]
  induction own with
  | nil => rfl
  | cons a b ih => rw [List.map_cons, ih]; rfl
/-- the block's context is a good one -/
theorem good_blk (g : Good G C W L call X) (σ : L2.St) {s : Shared} {H : Hp} {scope : Scope} {ce : PySem.Env} {fp : List Addr} {E : Value → Shared → Prop} (hf : ce.frame = some L)
    (tk : ∀ u s', Air (blkE X s H scope ce fp E) L (Wb W σ) u s' → E u s') : Good G C (Wb W σ) L call (blkE X s H scope ce fp E) :=
  ⟨g.K, g.N, g.calm, g.nd, g.hu, hf, g.top, g.free, g.gi, g.gs, g.fn, g.ok, tk⟩
/-- the parts of a comprehension's rule -/
structure CompOk (G : Gt) (C : Mc) (W : WX) (L : Addr) (call : Call) (X : Cx) (elt : E) (tg : Tg) (own : List Nat) (k : Ik) (es ifs : List E) (x t it : Expr) (fs : List Expr) (scope : Scope) : Prop where
  blk : BlkOk X.N X.env.scope scope (named C.N own)
  tgt : mTg C.N (relS scope X.env.scope) (ownFn scope) tg t = true
  sub : ∀ i ∈ tgSlots tg, i ∈ own
  pi : PI X t it (tI G W k (evs call es))
  fold : ∀ v, foldedSetIterable it X.env v = pure v
  few : fs.length ≤ 1
  ifs : ∀ W' X', Good G C W' L call X' → X'.env.scope = relS scope X.env.scope → AllT G W' call X' ifs fs
  elt : ∀ W' X', Good G C W' L call X' → X'.env.scope = relS scope X.env.scope → PE X' x (tE G W' (ev call elt))
/-- the block's rule, with any use of the list -/
theorem comp_run (g : Good G C W L call X) {elt : E} {tg : Tg} {own : List Nat} {k : Ik} {es ifs : List E} {x t it : Expr} {fs : List Expr} {scope : Scope} {pos pos' : Pos} (c : CompOk G C W L call X elt tg own k es ifs x t it fs scope)
    {pins : List (Addr × Obj)} {s : Shared} {σ : L2.St} {H : Hp} {Q : VK} {use : Option (Value → Sem Unit)} {Qf : Value → Shared → Prop} (I : Inv X pins σ H s) (q : tE G W (ev call (.comp elt tg own k es ifs)) σ H Q)
    (hRR : ∀ D ce s' m H', Inv X pins σ H' s' → Q (.ref D) H' → s'.heap.Ns ce.locals m → FpOk X pins H' ce.locals → compEnds (model X.prog X.w) X.A X.xe use Qf (.ref D) ce (.ok .next) s') :
    wpAny (model X.prog X.w) X.A (comprehension (.ListComp x [⟨t, it, fs, 0⟩] scope pos) scope X.env pos' (newList []) false (eval it X.env) use) Qf X.xe s := by
  obtain ⟨e0, l0, hst, h0⟩ := g.top
  have hq := comp_lead c.sub q
  refine lc_air (W := W) (own := named C.N own) (g := gT G tg) (tt := tT G (Wb W σ) (tstAll call ifs)) (te := tE G (Wb W σ) (ev call elt)) g.calm g.nd hst h0 g.fr g.tk I c.pi c.blk (fun s H ce fp E hs => ?_) (fun s H ce fp E hs hf tk => ?_) (fun s H ce fp E hs hf tk => ?_) c.fold (by rw [named_snd]; exact hq) hRR
  · refine pg_tg (X := blkE X s H scope ce fp E) g.calm g.K g.nd tg t ?_
    show mTg X.N ce.scope (ownFn scope) tg t = true
    rw [hs, g.N]
    exact c.tgt
  · exact ot_ifs (c.ifs _ _ (good_blk g σ hf tk) hs) c.few
  · exact c.elt _ _ (good_blk g σ hf tk) hs
theorem ok_comp (g : Good G C W L call X) {elt : E} {tg : Tg} {own : List Nat} {k : Ik} {es ifs : List E} {x t it : Expr} {fs : List Expr} {scope : Scope} {pos : Pos} (c : CompOk G C W L call X elt tg own k es ifs x t it fs scope) :
    PE X (.ListComp x [⟨t, it, fs, 0⟩] scope pos) (tE G W (ev call (.comp elt tg own k es ifs))) := by
  refine ⟨fun pins s σ H Q I q => ?_⟩
  rw [eval_ListComp]
  refine comp_run g c I q fun D ce s' m H' I' q' hn f => ⟨m, hn, fun h'' sb => ?_⟩
  obtain ⟨f0, f1, f2, f3, f4, f5⟩ := f
  exact ⟨.ref D, H', I'.turned (t' := s'.toks) (fun b o hb e => (sb.2 b hb).trans e) f0 f1 f3 f4 f5, rfl, q'⟩
theorem pe_void {t : E} {e : Expr} (h : ∀ env cs, ev call t env cs = .stuck) : PE X e (tE G W (ev call t)) := by
  refine ⟨fun pins s σ H Q I q => ?_⟩
  obtain ⟨F, α, env, cs, ab, en, po⟩ := q
  rw [h] at po
  exact po.elim
theorem pf_void {t : E} {e : Expr} (h : ∀ env cs, ev call t env cs = .stuck) : PE X e (tF G W (ev call t)) := by
  refine ⟨fun pins s σ H Q I q => ?_⟩
  obtain ⟨F, α, env, cs, ab, en, po⟩ := q
  rw [h] at po
  exact po.elim
theorem AllE.freshF : ∀ {ts : List E} {es : List Expr}, AllE (OkB G W call X) ts es → areFresh ts = true → AllE (fun t e => PE X e (tF G W (ev call t))) ts es
  | _, _, .nil, _ => .nil
  | _, _, .cons a b, h => by
    simp only [areFresh, Bool.and_eq_true] at h
    exact .cons (a.fr h.1) (b.freshF h.2)
theorem AllE.tests : ∀ {ts : List E} {es : List Expr}, AllE (OkB G W call X) ts es → testables ts = true → AllT G W call X ts es
  | _, _, .nil, _ => .nil
  | _, _, .cons a b, h => by
    simp only [testables, Bool.and_eq_true] at h
    exact .cons (a.ot h.1) (b.tests h.2)
theorem ev_or {es : List E} : ev call (.or es) = evOr call es := by funext env cs; simp only [ev]
theorem ev_and {es : List E} : ev call (.and es) = evAnd call es := by funext env cs; simp only [ev]
end
section
variable {G : Gt} {C : Mc} {L : Addr} {call : Call}
mutual
theorem mE_ok : ∀ (t : E) (W : WX) (X : Cx) (e : Expr), Good G C W L call X → mE C t X.env.scope e = true → OkB G W call X t e
  | .cst d, W, X, e, g, h => by
    simp only [mE] at h
    split at h
    · exact okb_plain g (ok_cst h) rfl (fun _ => rfl) (fun _ _ => by simp only [tst]) (by simp [isFresh])
    · cases h
  | .var i, W, X, e, g, h => by
    simp only [mE] at h
    split at h
    · simp only [Bool.and_eq_true, decide_eq_true_eq] at h
      exact okb_plain g (ok_var g h.1 h.2) rfl (fun _ => rfl) (fun _ _ => by simp only [tst]) (by simp [isFresh])
    · cases h
  | .gint y i, W, X, e, g, h => by
    simp only [mE] at h
    split at h
    · simp only [Bool.and_eq_true, decide_eq_true_eq] at h
      obtain ⟨⟨rfl, h2⟩, h3⟩ := h
      exact okb_plain g (ok_gint g h2 h3) rfl (fun _ => rfl) (fun _ _ => by simp only [tst]) (by simp [isFresh])
    · cases h
  | .gstr y z, W, X, e, g, h => by
    simp only [mE] at h
    split at h
    · simp only [Bool.and_eq_true, decide_eq_true_eq] at h
      obtain ⟨⟨rfl, h2⟩, h3⟩ := h
      exact okb_plain g (ok_gstr g h2 h3) rfl (fun _ => rfl) (fun _ _ => by simp only [tst]) (by simp [isFresh])
    · cases h
  | .gfn k, W, X, e, g, h => by
    simp only [mE] at h
    split at h
    · simp only [Bool.and_eq_true, decide_eq_true_eq] at h
      exact okb_plain g (ok_gfn g h.2 h.1) rfl (fun _ => rfl) (fun _ _ => by simp only [tst]) (by simp [isFresh])
    · cases h
  | .tup es, W, X, e, g, h => by
    simp only [mE] at h
    split at h
    · simp only [Bool.and_eq_true, decide_eq_true_eq] at h
      have a := mEs_ok es W X _ g h.2
      exact okb_plain g (ok_tup (ok_args (a.map fun _ _ z => z.ok)) (by rw [a.len]; exact h.1)) rfl (fun _ => rfl) (fun _ _ => by simp only [tst]) (by simp [isFresh])
    · cases h
  | .lst es, W, X, e, g, h => by
    simp only [mE] at h
    split at h
    · simp only [Bool.and_eq_true, decide_eq_true_eq] at h
      have a := mEs_ok es W X _ g h.2
      exact okb_fresh g (ok_lstF (ok_args (a.map fun _ _ z => z.ok)) (by rw [a.len]; exact h.1)) rfl (fun _ => rfl) (fun _ _ => by simp only [tst])
    · cases h
  | .bin o a b, W, X, e, g, h => by
    simp only [mE] at h
    split at h
    · simp only [Bool.and_eq_true, decide_eq_true_eq] at h
      exact okb_fresh g (ok_binF g h.1.1 (mE_ok a W X _ g h.1.2).ok.pe (mE_ok b W X _ g h.2).ok.pe) rfl (fun _ => rfl) (fun _ _ => by simp only [tst])
    · cases h
  | .neg a, W, X, e, g, h => by
    simp only [mE] at h
    split at h
    · exact okb_plain g (ok_neg (mE_ok a W X _ g h).ok.pe) rfl (fun _ => rfl) (fun _ _ => by simp only [tst]) (by simp [isFresh])
    · cases h
  | .not a, W, X, e, g, h => by
    simp only [mE] at h
    split at h
    · have b := mE_ok a W X _ g h
      exact ⟨⟨ok_not g b.ok.pe, rfl⟩, fun z => ot_not (b.ot (by simpa only [testable] using z)), fun z => by simp [isFresh] at z⟩
    · cases h
  | .and es, W, X, e, g, h => by
    simp only [mE] at h
    split at h
    · next as pos =>
      have a := mEs_ok es W X _ g h
      refine ⟨⟨?_, rfl⟩, fun z => ?_, fun z => by simp [isFresh] at z⟩
      · by_cases hn : es = []
        · subst hn
          exact pe_void fun env cs => by simp only [ev, evAnd]
        · rw [ev_and]
          exact ok_and g (a.map fun _ _ z => z.ok) hn
      · have := (ot_all (pos := pos) (a.tests (by simpa only [testable] using z))).pt
        refine PT.weak this fun σ H Q q => ?_
        obtain ⟨F, α, env, cs, ab, en, po⟩ := q
        simp only [tst] at po
        exact ⟨F, α, env, cs, ab, en, po⟩
    · cases h
  | .or es, W, X, e, g, h => by
    simp only [mE] at h
    split at h
    · next as pos =>
      have a := mEs_ok es W X _ g h
      refine ⟨⟨?_, rfl⟩, fun z => ?_, fun z => ?_⟩
      · by_cases hn : es = []
        · subst hn
          exact pe_void fun env cs => by simp only [ev, evOr]
        · rw [ev_or]
          exact ok_or g (a.map fun _ _ z => z.ok) hn
      · have := (ot_any (pos := pos) (a.tests (by simpa only [testable] using z))).pt
        refine PT.weak this fun σ H Q q => ?_
        obtain ⟨F, α, env, cs, ab, en, po⟩ := q
        simp only [tst] at po
        exact ⟨F, α, env, cs, ab, en, po⟩
      · by_cases hn : es = []
        · subst hn
          exact pf_void fun env cs => by simp only [ev, evOr]
        · rw [ev_or]
          exact ok_orF g (a.freshF (by simpa only [isFresh] using z)) hn
    · cases h
  | .cmp o a b, W, X, e, g, h => by
    simp only [mE] at h
    split at h
    · simp only [Bool.and_eq_true, decide_eq_true_eq, Bool.not_eq_true'] at h
      obtain ⟨⟨⟨h1, h2⟩, h3⟩, h4⟩ := h
      have ha := (mE_ok a W X _ g h3).ok.pe
      have hb := (mE_ok b W X _ g h4).ok.pe
      exact ⟨⟨ok_cmp g h1 h2 ha hb, rfl⟩, fun _ => ot_cmp g h1 h2 ha hb, fun z => by simp [isFresh] at z⟩
    · cases h
  | .chn o p a b c, W, X, e, g, h => by
    simp only [mE] at h
    split at h
    · simp only [Bool.and_eq_true, decide_eq_true_eq, Bool.not_eq_true'] at h
      obtain ⟨⟨⟨⟨⟨h1, h2⟩, h3⟩, h4⟩, h5⟩, h6⟩ := h
      have ha := (mE_ok a W X _ g h4).ok.pe
      have hb := (mE_ok b W X _ g h5).ok.pe
      have hc := (mE_ok c W X _ g h6).ok.pe
      exact ⟨⟨ok_chn g h1 h2 h3 ha hb hc, rfl⟩, fun _ => ot_chn g h1 h2 h3 ha hb hc, fun z => by simp [isFresh] at z⟩
    · cases h
  | .isn neg a, W, X, e, g, h => by
    simp only [mE] at h
    split at h
    · simp only [Bool.and_eq_true, decide_eq_true_eq] at h
      have ha := (mE_ok a W X _ g h.2).ok.pe
      exact ⟨⟨ok_isn h.1 ha, rfl⟩, fun _ => ot_isn h.1 ha, fun z => by simp [isFresh] at z⟩
    · cases h
  | .isb neg a b, W, X, e, g, h => by
    simp only [mE] at h
    split at h
    · simp only [Bool.and_eq_true, decide_eq_true_eq] at h
      obtain ⟨⟨h1, h2⟩, h3⟩ := h
      obtain rfl := eq_of_beq h2
      have ha := (mE_ok a W X _ g h3).ok.pe
      exact ⟨⟨ok_isb h1 ha, rfl⟩, fun _ => ot_isb h1 ha, fun z => by simp [isFresh] at z⟩
    · cases h
  | .ite c a b, W, X, e, g, h => by
    simp only [mE] at h
    split at h
    · simp only [Bool.and_eq_true] at h
      obtain ⟨⟨⟨h1, h2⟩, h3⟩, h4⟩ := h
      have hc := (mE_ok c W X _ g h2).ot h1
      have ha := mE_ok a W X _ g h3
      have hb := mE_ok b W X _ g h4
      refine ⟨⟨ok_ite hc ha.ok.pe hb.ok.pe, rfl⟩, fun z => ?_, fun z => by simp [isFresh] at z⟩
      simp only [testable, Bool.and_eq_true] at z
      exact ot_ite hc (ha.ot z.1) (hb.ot z.2)
    · cases h
  | .call k es, W, X, e, g, h => by
    simp only [mE] at h
    split at h
    · simp only [Bool.and_eq_true, decide_eq_true_eq] at h
      have a := mEs_ok es W X _ g h.2
      exact okb_plain g (ok_call g h.1.1 h.1.2 (a.map fun _ _ z => z.ok)) rfl (fun _ => rfl) (fun _ _ => by simp only [tst]) (by simp [isFresh])
    · cases h
  | .callv i es, W, X, e, g, h => by
    simp only [mE] at h
    split at h
    · simp only [Bool.and_eq_true, decide_eq_true_eq] at h
      have a := mEs_ok es W X _ g h.2
      exact okb_plain g (ok_callv g h.1.1 h.1.2 (a.map fun _ _ z => z.ok)) rfl (fun _ => rfl) (fun _ _ => by simp only [tst]) (by simp [isFresh])
    · cases h
  | .bi b es, W, X, e, g, h => by
    simp only [mE] at h
    split at h
    · simp only [Bool.and_eq_true, decide_eq_true_eq] at h
      have a := mEs_ok es W X _ g h.2
      exact okb_fresh g (ok_biF g h.1.1 h.1.2 (a.map fun _ _ z => z.ok)) rfl (fun _ => rfl) (fun _ _ => by simp only [tst])
    · cases h
  | .isi a ts, W, X, e, g, h => by
    simp only [mE] at h
    split at h
    · simp only [Bool.and_eq_true, decide_eq_true_eq] at h
      obtain ⟨⟨⟨h1, h2⟩, h3⟩, h4⟩ := h
      exact okb_plain g (ok_isi g h1 h2 (mE_ok a W X _ g h3).ok h4) rfl (fun _ => rfl) (fun _ _ => by simp only [tst]) (by simp [isFresh])
    · cases h
  | .rng tu es, W, X, e, g, h => by
    simp only [mE] at h
    split at h
    · simp only [Bool.and_eq_true, decide_eq_true_eq, Bool.or_eq_true, beq_iff_eq] at h
      obtain ⟨⟨⟨⟨⟨h1, h2⟩, h3⟩, h4⟩, h5⟩, h6⟩ := h
      have a := mEs_ok es W X _ g h6
      exact okb_fresh g (ok_rngF g h1 h2 h3 h4 (a.map fun _ _ z => z.ok) h5) rfl (fun _ => rfl) (fun _ _ => by simp only [tst])
    · cases h
  | .idx a i, W, X, e, g, h => by
    simp only [mE] at h
    split at h
    · simp only [Bool.and_eq_true, Bool.not_eq_true'] at h
      exact okb_plain g (ok_idx g h.1.1 (mE_ok a W X _ g h.1.2).ok.pe (mE_ok i W X _ g h.2).ok.pe) rfl (fun _ => rfl) (fun _ _ => by simp only [tst]) (by simp [isFresh])
    · cases h
  | .slc a bl bh lo hi, W, X, e, g, h => by
    simp only [mE] at h
    split at h
    · next x l hh p2 pos =>
      simp only [Bool.and_eq_true] at h
      obtain ⟨⟨h1, h2⟩, h3⟩ := h
      have pl : PO X l (tO G W bl (ev call lo)) := by
        cases bl <;> cases l <;> simp only [Bool.false_eq_true] at h2
        · exact po_omit
        · exact po_part (mE_ok lo W X _ g h2).ok.pe
      have ph : PO X hh (tO G W bh (ev call hi)) := by
        cases bh <;> cases hh <;> simp only [Bool.false_eq_true] at h3
        · exact po_omit
        · exact po_part (mE_ok hi W X _ g h3).ok.pe
      exact okb_fresh g (ok_slcF g (mE_ok a W X _ g h1).ok.pe pl ph) rfl (fun _ => rfl) (fun _ _ => by simp only [tst])
    · cases h
  | .rev a, W, X, e, g, h => by
    simp only [mE] at h
    split at h
    · simp only [Bool.and_eq_true, decide_eq_true_eq] at h
      obtain ⟨rfl, h2⟩ := h
      exact okb_fresh g (ok_revF g (mE_ok a W X _ g h2).ok.pe) rfl (fun _ => rfl) (fun _ _ => by simp only [tst])
    · cases h
  | .comp elt tg own k es ifs, W, X, e, g, h => by
    simp only [mE] at h
    split at h
    · next x t it fs asy scope pos =>
      simp only [Bool.and_eq_true, decide_eq_true_eq] at h
      obtain ⟨⟨⟨⟨⟨⟨⟨⟨⟨h1, h2⟩, h3⟩, h4⟩, h5⟩, h6⟩, h7⟩, h8⟩, h9⟩, h10⟩ := h
      obtain rfl := h1
      split at h8
      · next as has =>
        have a := mEs_ok es W X _ g h8
        have c : CompOk G C W L call X elt tg own k es ifs x t it fs scope :=
          ⟨by rw [g.N]; exact blkOk_by h3, h4, fun i hi => by simpa using List.all_eq_true.mp h7 i hi, pi_of g has (a.map fun _ _ z => z.ok) h5, folded_of has h8 _, h6,
            fun W' X' g' hs => (mEs_ok ifs W' X' _ g' (by rw [hs]; exact h9)).tests h2, fun W' X' g' hs => (mE_ok elt W' X' _ g' (by rw [hs]; exact h10)).ok.pe⟩
        exact okb_plain g (ok_comp g c) rfl (fun _ => rfl) (fun _ _ => by simp only [tst]) (by simp [isFresh])
      · cases h8
    · cases h
  | .mth m a es, W, X, e, g, h => by
    simp only [mE] at h
    split at h
    · simp only [Bool.and_eq_true, decide_eq_true_eq] at h
      obtain ⟨⟨⟨⟨⟨⟨h1, h2⟩, h3⟩, h4⟩, h5⟩, h6⟩, h7⟩ := h
      have b := mEs_ok es W X _ g h7
      exact okb_plain g (ok_mth g h1 h3 h4 h5 h2 (mE_ok a W X _ g h6).ok.pe (b.map fun _ _ z => z.ok)) rfl (fun _ => rfl) (fun _ _ => by simp only [tst]) (by simp [isFresh])
    · cases h
  | .mk a, W, X, e, g, h => by
    simp only [mE] at h
    have b := mE_ok a W X _ g h
    refine ⟨⟨?_, b.ok.star⟩, fun z => by simp [testable] at z, fun z => by simp [isFresh] at z⟩
    by_cases hf : isFresh a = true
    · exact ok_mk hf (b.fr hf)
    · exact pe_void fun env cs => by simp only [ev, if_neg hf]
theorem mEs_ok : ∀ (ts : List E) (W : WX) (X : Cx) (es : List Expr), Good G C W L call X → mEs C ts X.env.scope es = true → AllE (OkB G W call X) ts es
  | [], W, X, [], g, h => .nil
  | [], W, X, _ :: _, g, h => by simp [mEs] at h
  | _ :: _, W, X, [], g, h => by simp [mEs] at h
  | t :: ts, W, X, e :: es, g, h => by
    simp only [mEs, Bool.and_eq_true] at h
    exact .cons (mE_ok t W X e g h.1) (mEs_ok ts W X es g h.2)
end
end
end PV
end

section
set_option Elab.async false
set_option linter.all false
set_option maxRecDepth 100000
set_option maxHeartbeats 4000000
set_option autoImplicit false
/-! Statements: readings; stores, loops. -/
namespace PV
open PySem PySem.Spec PyProof.Rows L2
section
variable (G : Gt) (W : WX)
def PostS (F : Hp) (α : List Addr) (r : RS) (D : Ends) : Prop := match r with
  | .next env cs => ∀ F' α' H' σ', Same F F' → α <+: α' → Ab G F' α' H' cs → EnvR G F' α' env σ' → D.nx σ' H'
  | .ret d cs => ∀ F' α' H' v, Same F F' → α <+: α' → Ab G F' α' H' cs → RepV G F' α' d v → D.rt v H'
  | .brk env cs => ∀ F' α' H' σ', Same F F' → α <+: α' → Ab G F' α' H' cs → EnvR G F' α' env σ' → D.bk σ' H'
  | .cont env cs => ∀ F' α' H' σ', Same F F' → α <+: α' → Ab G F' α' H' cs → EnvR G F' α' env σ' → D.ct σ' H'
  | .exc x env cs => ∀ F' α' H' σ' cls dx, Same F F' → α <+: α' → Ab G F' α' H' cs → EnvR G F' α' env σ' → ExcR G x cls dx H' → W cls dx σ' H'
  | .stuck => False
def tS (m : Env → Cells → RS) : TS := fun D σ H => ∃ F α env cs, Ab G F α H cs ∧ EnvR G F α env σ ∧ PostS G W F α (m env cs) D
end
section
variable {G : Gt} {W : WX} {F F1 : Hp} {α α1 : List Addr} {D : Ends}
theorem PostS.up {r : RS} (h : PostS G W F α r D) (s : Same F F1) (p : α <+: α1) : PostS G W F1 α1 r D := by
  cases r with
  | next env cs => exact fun F' α' H' σ' s' p' => h F' α' H' σ' (same_tr s s') (p.trans p')
  | ret d cs => exact fun F' α' H' v s' p' => h F' α' H' v (same_tr s s') (p.trans p')
  | brk env cs => exact fun F' α' H' σ' s' p' => h F' α' H' σ' (same_tr s s') (p.trans p')
  | cont env cs => exact fun F' α' H' σ' s' p' => h F' α' H' σ' (same_tr s s') (p.trans p')
  | exc x env cs => exact fun F' α' H' σ' cls dx s' p' => h F' α' H' σ' cls dx (same_tr s s') (p.trans p')
  | stuck => exact h
/-- an expression within a statement -/
theorem rs_of {β : Type} {m : R β} {env : Env} {σ : L2.St} {f : β → Cells → RS} (po : PostS G W F α (m.rs env f) D) (en : EnvR G F α env σ) : Post G W σ F α m fun F' α' _ cs b => PostS G W F' α' (f b cs) D := by
  cases m with
  | ok b cs => exact fun F' α' H' s p _ => PostS.up (r := f b cs) po s p
  | exc x cs => exact fun F' α' H' cls dx s p a e => po F' α' H' σ cls dx s p a (en.mono s p) e
  | stuck => exact po
theorem rs_here {env : Env} {σ : L2.St} {cs : Cells} {H : Hp} (po : PostS G W F α (.next env cs) D) (ab : Ab G F α H cs) (en : EnvR G F α env σ) : D.nx σ H := po F α H σ same_rf (List.prefix_refl _) ab en
/-- one statement, then the rest -/
theorem seq_of {m : RS} {f : Env → Cells → RS} (po : PostS G W F α (m.seq f) D) : PostS G W F α m { D with nx := tS G W f D } := by
  cases m with
  | next env cs => exact fun F' α' H' σ' s p ab en => ⟨F', α', env, cs, ab, en, PostS.up (r := f env cs) po s p⟩
  | ret d cs => exact po
  | brk env cs => exact po
  | cont env cs => exact po
  | exc x env cs => exact po
  | stuck => exact po
/-- a turn's body -/
theorem loop_of {m : RS} {k : Env → Cells → RS} {N : L2.St → Hp → Prop} (po : PostS G W F α (loopB m k) D)
    (hN : ∀ F' α' H' σ' env cs, Same F F' → α <+: α' → Ab G F' α' H' cs → EnvR G F' α' env σ' → PostS G W F' α' (k env cs) D → N σ' H') : PostS G W F α m { D with nx := N, ct := N, bk := D.nx } := by
  cases m with
  | next env cs => exact fun F' α' H' σ' s p ab en => hN F' α' H' σ' env cs s p ab en (PostS.up (r := k env cs) po s p)
  | cont env cs => exact fun F' α' H' σ' s p ab en => hN F' α' H' σ' env cs s p ab en (PostS.up (r := k env cs) po s p)
  | brk env cs => exact po
  | ret d cs => exact po
  | exc x env cs => exact po
  | stuck => exact po
theorem ps_live {r : RS} (h : PostS G W F α r D) : r ≠ .stuck := fun e => by subst e; exact h
end
section
variable {X : Cx} {st : Stmt} {sts : List Stmt}
theorem PS.weak {t t' : TS} (h : PS X st t) (k : ∀ D σ H, t' D σ H → t D σ H) : PS X st t' := ⟨fun pins s σ H D I q => h.run pins s σ H D I (k D σ H q)⟩
theorem PSs.weak {t t' : TS} (h : PSs X sts t) (k : ∀ D σ H, t' D σ H → t D σ H) : PSs X sts t' := ⟨fun pins s σ H D I q => h.run pins s σ H D I (k D σ H q)⟩
end
/-- a def's body -/
structure GoodS (G : Gt) (C : Mc) (W : WX) (L : Addr) (call : Call) (X : Cx) : Prop where
  g : Good G C W L call X
  lc : X.env.locals = L
  st : X.stack = X.env :: X.outer
  ps : PassesOwn (model X.prog X.w) X.A X.env X.xe
  fn : X.fn = fun _ => true
  kd : X.env.scope.kind = .function
theorem GoodS.takes {G : Gt} {C : Mc} {W : WX} {L : Addr} {call : Call} {X : Cx} (g : GoodS G C W L call X) : Takes X W := fun u s' x => g.g.tk u s' (Air.of g.lc x)
/-! ### which stores -/
def isComp : Expr → Bool
  | .ListComp .. => true
  | .SetComp .. => true
  | .DictComp .. => true
  | _ => false
def isTupE : Expr → Bool
  | .Tuple .. => true
  | .List .. => true
  | _ => false
theorem noswap {v : Expr} {t : Option Expr} {l : Nat} {env : PySem.Env} (h : isComp v = false) : swapsWith v t l env = pure false := by
  cases v <;> first | rfl | simp [isComp] at h
/-- whether name = [..] is stored ahead of the block's end -/
def lcSw (sc : Scope) (y : Str) (py : Pos) (v : Expr) : Bool := match v with
  | .ListComp _ _ s p => decide (sc.names.lookup y = some .local) && (py.line == p.line) && !(s.names.any fun (n, k) => n == y && (k == .local || k == .cell))
  | _ => false
theorem blockKind_fn {env : PySem.Env} (hk : env.scope.kind = .function) : env.blockKind = .function := by
  unfold PySem.Env.blockKind
  rw [hk]
  rfl
theorem lcSw_ok {env : PySem.Env} {y : Str} {py : Pos} {elt : Expr} {gs : List Comprehension} {s : Scope} {p : Pos} {l : Nat} (hk : env.scope.kind = .function) : swapsWith (.ListComp elt gs s p) (some (.Name y py)) l env = pure (lcSw env.scope y py (.ListComp elt gs s p)) := by
  have hb := blockKind_fn hk
  show pure (env.blockKind == .function && env.kindOf y == some .local && py.line == p.line && !(s.names.any fun (n, k) => n == y && (k == .local || k == .cell))) = _
  rw [hb]
  have e : (env.kindOf y == some .local) = decide (env.scope.names.lookup y = some .local) := by
    show (env.scope.names.lookup y == some NameKind.local) = _
    by_cases h : env.scope.names.lookup y = some .local
    · rw [h]; rfl
    · rw [decide_eq_false h]
      exact beq_eq_false_iff_ne.mpr h
  rw [e, show (ScopeKind.function == ScopeKind.function) = true from rfl, Bool.true_and]
  rfl
def lineOf (ts : List Expr) : Nat := (ts.head?.map (·.pos.line)).getD 0
def namesOn (sc : Scope) (ts : List Expr) : List Str := ts.filterMap fun
  | .Name id pos => if sc.names.lookup id == some .local && pos.line == lineOf ts then some id else none
  | _ => none
/-- the names of a row of stores that is stored from the right -/
def swNames (sc : Scope) (ts vs : List Expr) : Option (Option (List Str)) :=
  if (!(ts.length == 2 || ts.length == 3) || vs.length != ts.length) = true then some none
  else if vs.any isStar = true then some none
  else if ((namesOn sc ts).length != ts.length || (namesOn sc ts).eraseDups.length != (namesOn sc ts).length) = true then some none
  else if vs.all (foldedForSure 8) = true then some none
  else if vs.all (constantsAlone 8) = true then none
  else some (some (namesOn sc ts))
theorem swStores_eq {env : PySem.Env} {ts vs : List Expr} {k k2 : Nat} {p p2 : Pos} : swappedStores [.Tuple ts k p] (.Tuple vs k2 p2) env =
    (if (!(ts.length == 2 || ts.length == 3) || vs.length != ts.length || env.blockKind != .function) = true then pure none
    else if vs.any isStar = true then pure none
    else if ((namesOn env.scope ts).length != ts.length || (namesOn env.scope ts).eraseDups.length != (namesOn env.scope ts).length) = true then pure none
    else if vs.all (foldedForSure 8) = true then pure none
    else if vs.all (constantsAlone 8) = true then (do let _ ← (unsupported "assign.tuple-of-constant-expressions:order-of-the-stores" : Sem PUnit); pure (some (namesOn env.scope ts)))
    else pure (some (namesOn env.scope ts))) := rfl
theorem swNames_ok {env : PySem.Env} {ts vs : List Expr} {k k2 : Nat} {p p2 : Pos} {r : Option (List Str)} (hk : env.scope.kind = .function) (h : swNames env.scope ts vs = some r) : swappedStores [.Tuple ts k p] (.Tuple vs k2 p2) env = pure r := by
  have hb := blockKind_fn hk
  rw [swStores_eq, hb]
  unfold swNames at h
  have e : (ScopeKind.function != ScopeKind.function) = false := rfl
  rw [e, Bool.or_false]
  split at h
  · next hc => rw [if_pos hc]; cases h; rfl
  · next hc =>
    rw [if_neg hc]
    split at h
    · next hc => rw [if_pos hc]; cases h; rfl
    · next hc =>
      rw [if_neg hc]
      split at h
      · next hc => rw [if_pos hc]; cases h; rfl
      · next hc =>
        rw [if_neg hc]
        split at h
        · next hc => rw [if_pos hc]; cases h; rfl
        · next hc =>
          rw [if_neg hc]
          split at h
          · cases h
          · next hc => rw [if_neg hc]; cases h; rfl
end PV
end

section
set_option Elab.async false
set_option linter.all false
set_option maxRecDepth 100000
set_option maxHeartbeats 4000000
set_option autoImplicit false
/-! Statements: the text beside the code; stores, loops, raise. -/
namespace PV
open PySem PySem.Spec PyProof.Rows L2
def allFn : Str → Bool := fun _ => true
def locS (sc : Scope) (x : Str) : Bool := decide (sc.names.lookup x = some .local)
def mSi (sc : Scope) (n : Str) : Si → Expr → Bool
  | .str z, e => (match e with | .Constant (.str w) _ _ => decide (z = w) | _ => false)
  | .isi t, e => (match e with | .Call (.Name f _) [.Name m _, .Name y _] [] _ => decide (t = .verr) && decide (f = ("isinstance" : Str)) && glo sc f && decide (m = n) && vis sc m && decide (y = Str.ofString t.nm) && glo sc y | _ => false)
def mSis (sc : Scope) (n : Str) : List Si → List Expr → Bool
  | [], [] => true
  | i :: is, e :: es => mSi sc n i e && mSis sc n is es
  | _, _ => false
def mHs (C : Mc) (sc : Scope) : List (Nat × Nat × Nat × List Si) → List ExceptHandler → Bool
  | [], [] => true
  | (c, j, i, is) :: r, .ExceptHandler (some (.Name x _)) (some n) [.Assign [.Name y _] (.List vs _) _] _ :: hds =>
    decide (C.cl[c]? = some x) && glo sc x && decide (C.N[j]? = some n) && locS sc n && decide (C.N[i]? = some y) && locS sc y && decide (vs.length ≤ 1000) && mSis sc n is vs && mHs C sc r hds
  | _, _ => false
/-- stores from the right -/
def mSw (sc : Scope) (ts : List Tg) (xs : List Expr) (names : List Str) : Bool := match ts, xs with
  | [.nm i, .nm j], [.Name x _, .Name y _] => decide (i ≠ j) && locS sc x && locS sc y && decide (names = [x, y])
  | [.nm i, .nm j, .nm l], [.Name x _, .Name y _, .Name z _] => decide (i ≠ j) && decide (i ≠ l) && decide (j ≠ l) && locS sc x && locS sc y && locS sc z && decide (names = [x, y, z])
  | _, _ => false
mutual
def mS (C : Mc) : S → Scope → Stmt → Bool
  | .set tg e, sc, s => (match s with
    | .Assign [t] v _ => mTg C.N sc allFn tg t && !(isTup t && isTup v) && mE C e sc v
    | _ => false)
  | .par ts es, sc, s => (match s with
    | .Assign [.Tuple xs _ _] (.Tuple vs _ _) _ => mTgs C.N sc allFn ts xs && mEs C es sc vs && decide (vs.length ≤ 1000) && (match swNames sc xs vs with
      | some none => true
      | some (some names) => mSw sc ts xs names
      | none => false)
    | _ => false)
  | .sub a i e, sc, s => (match s with | .Assign [.Subscript x y _] v _ => !isSlice y && mE C a sc x && mE C i sc y && mE C e sc v | _ => false)
  | .aug i o e, sc, s => (match s with
    | .AugAssign (.Name x _) op v _ => decide (C.N[i]? = some x) && (locS sc x || decide (sc.names.lookup x = some .cell)) && decide ((o = .add ∧ op = .Add) ∨ (o = .sub ∧ op = .Sub) ∨ (o = .mul ∧ op = .Mult)) && mE C e sc v
    | _ => false)
  | .expr e, sc, s => (match s with | .Expr v _ => !isComp v && mE C e sc v | _ => false)
  | .ite c a b, sc, s => (match s with | .If x y z _ => testable c && mE C c sc x && mSs C a sc y && mSs C b sc z | _ => false)
  | .for tg k es body, sc, s => (match s with
    | .For t it ss [] _ => mTg C.N sc allFn tg t && (k == .seq || k == .rng || isTup t) && (match itArgs k sc it with
      | some as => mEs C es sc as
      | none => false) && mSs C body sc ss
    | _ => false)
  | .whl c body, sc, s => (match s with | .While x ss [] _ => testable c && mE C c sc x && mSs C body sc ss | _ => false)
  | .ret e, sc, s => (match s with
    | .Return (some v) _ => mE C e sc v
    | .Return none _ => (match e with | .cst .non => true | _ => false)
    | _ => false)
  | .raise k, sc, s => (match s with | .Raise (some (.Call (.Name x _) [] [] _)) none _ => decide (C.cl[k]? = some x) && glo sc x | _ => false)
  | .pass, _, s => (match s with | .Pass _ => true | _ => false)
  | .brk, _, s => (match s with | .Break _ => true | _ => false)
  | .cont, _, s => (match s with | .Continue _ => true | _ => false)
  | .tryq body hs, sc, s => (match s with | .Try ss (h₀ :: hds) [] [] _ => mSs C body sc ss && mHs C sc hs (h₀ :: hds) | _ => false)
def mSs (C : Mc) : List S → Scope → List Stmt → Bool
  | [], _, [] => true
  | t :: ts, sc, s :: ss => mS C t sc s && mSs C ts sc ss
  | _, _, _ => false
end
/-- the classes of exceptions -/
structure Cls (G : Gt) (C : Mc) (K : PySem.W.Frag) (mg : Str → Option Value) : Prop where
  nm : ∀ k x, C.cl[k]? = some x → ∃ A, G.ca k = some A ∧ mg x = some (.ref A)
  made : ∀ k A, G.ca k = some A → ∃ B newId initId bmB, ExcBaseFacts B newId initId bmB ∧ PySem.W.excIn K A bmB newId = true
  kp : ∀ k A, G.ca k = some A → PySem.W.keepIn K (.ref A) = true ∧ PySem.W.subIn K (.ref A) (.type "BaseException") = some true ∧ PySem.W.typeIn K (.ref A) = some (.type "type")
  mt : ∀ k k' A A', G.ca k = some A → G.ca k' = some A' → PySem.W.exmOne K (.ref A') (.ref A) = some (decide (k = k'))
  iv : ∀ k A, G.ca k = some A → ExcC K A ∧ PySem.W.kitOne K (.ref A) (.type "ValueError") = some true
section
variable {G : Gt} {C : Mc} {W : WX} {L : Addr} {call : Call} {X : Cx}
/-! stores -/
theorem set_lead {tg : Tg} {e : E} {D : Ends} {σ : L2.St} {H : Hp} (q : tS G W (ex call (.set tg e)) D σ H) : tAsg (tE G W (ev call e)) (gT G tg) D σ H := by
  obtain ⟨F, α, env, cs, ab, en, po⟩ := q
  simp only [ex] at po
  refine ⟨F, α, env, cs, ab, en, (rs_of po en).imp fun F' α' H' cs' d s p ab' po' v r => ?_⟩
  cases ha : asg tg d env with
  | none => simp only [ha] at po'; exact po'.elim
  | some env' =>
    simp only [ha] at po'
    exact ⟨F', α', env, cs', d, env', ab', en.mono s p, r, ha, fun σ' en' _ => rs_here po' ab' en'⟩
theorem ps_plain (g : GoodS G C W L call X) {tg : Tg} {e : E} {t v : Expr} {pos : Pos} (ht : mTg C.N X.env.scope allFn tg t = true) (hv : isTup t = true → isTup v = false) (hs : swapsWith v (some t) pos.line X.env = pure false) (he : PE X v (tE G W (ev call e))) :
    PS X (.Assign [t] v pos) (tS G W (ex call (.set tg e))) := by
  have hg : PG X t (gT G tg) := pg_tg g.g.calm g.g.K g.g.nd tg t (by rw [g.g.N, g.fn]; exact ht)
  have hw : swappedStores [t] v X.env = pure none := by
    clear hg hs
    cases tg <;> cases t <;> simp only [mTg, Bool.false_eq_true] at ht
    · rfl
    · cases v <;> first | rfl | exact absurd (hv rfl) (by simp [isTup])
  exact PS.weak (ps_asg he hg hs hw (by rw [tg_each ht]; rfl)) fun D σ H q => set_lead q
/-- name = [..], stored ahead of the block's end -/
theorem ps_comp (g : GoodS G C W L call X) {i : Nat} {y : Str} {py pos p : Pos} {elt : E} {tg : Tg} {own : List Nat} {k : Ik} {es ifs : List E} {x t it : Expr} {fs : List Expr} {scope : Scope} (hy : C.N[i]? = some y) (hyl : X.env.scope.names.lookup y = some .local)
    (hsw : swapsWith (.ListComp x [⟨t, it, fs, 0⟩] scope p) (some (.Name y py)) pos.line X.env = pure true) (c : CompOk G C W L call X elt tg own k es ifs x t it fs scope) :
    PS X (.Assign [.Name y py] (.ListComp x [⟨t, it, fs, 0⟩] scope p) pos) (tS G W (ex call (.set (.nm i) (.comp elt tg own k es ifs)))) := by
  refine ⟨fun pins s σ H D I q => ?_⟩
  rw [exec_Assign_Name_used _ _ _ _ hsw]
  refine wpAny_bind (wpAny_standAt (wpAny_bind ?_))
  show wpAny _ X.A (do let _ ← comprehension (.ListComp x [⟨t, it, fs, 0⟩] scope p) scope X.env (firstIterPos [⟨t, it, fs, 0⟩] p) (newList []) false (eval it X.env) (some (assign (.Name y py) X.env))) _ _ s
  have q1 : tE G W (ev call (.comp elt tg own k es ifs)) σ H fun v H1 => gT G (.nm i) v σ H1 D.nx := set_lead q
  refine wpAny_bind (thn (comp_run (Qf := fun _ s' => SP X pins D .next s') g.g c I q1 fun Dl ce s' m H' I' q2 hn f => ?_) fun _ s' hq => wpAny_pure (wpAny_pure hq))
  show wpAny _ _ (assign (.Name y py) X.env (.ref Dl)) _ _ _
  obtain ⟨F, α, env, cs, d, env', ab, en, r, ea, k2⟩ := q2
  have hl : i < env.length := by
    simp only [asg] at ea
    split at ea
    · assumption
    · cases ea
  have q3 : D.nx (σ.set i (some (V.ref Dl))) H' := by
    simp only [asg, hl, if_true, Option.some.injEq] at ea
    subst ea
    refine k2 _ ⟨by simp [en.len], fun j d' ej => ?_⟩ fun j hj => ?_
    · by_cases hij : i = j
      · subst hij
        rw [List.getElem?_set_self hl] at ej
        cases ej
        exact ⟨_, List.getElem?_set_self (by rw [← en.len]; exact hl), r⟩
      · rw [List.getElem?_set_ne hij] at ej ⊢
        exact en.at_ j d' ej
    · exact List.getElem?_set_ne fun z => hj (by simp [tgSlots, z])
  refine wpAny_assign_Name (store_ok2 (v := V.ref Dl) I' g.g.nd (by rw [g.g.N]; exact hy) (.inl hyl) rfl (fun s2 I2 z => ?_) (.inr hyl))
  obtain ⟨a, sb, ha⟩ := z
  obtain ⟨f0, f1, f2, f3, f4, f5⟩ := f
  have haC : ce.locals ≠ a := by
    rcases ha with z | z
    · rw [z]; exact f1
    · exact fun e => f4 y a z e.symm
  exact ⟨m, hn.sameBut sb haC, fun h3 sb3 => ⟨_, H', I2.turned (t' := s2.toks) (fun b o hb e => (sb3.2 b hb).trans e) f0 f1 f3 f4 f5, q3⟩⟩
theorem comp_form : ∀ {e : E} {sc : Scope} {x : Expr} {gs : List Comprehension} {scope : Scope} {p : Pos}, mE C e sc (.ListComp x gs scope p) = true →
    (∃ elt tg own k es ifs, e = .comp elt tg own k es ifs) ∨ ∀ env cs, ev call e env cs = .stuck
  | .comp _ _ _ _ _ _, _, _, _, _, _, _ => .inl ⟨_, _, _, _, _, _, rfl⟩
  | .mk e, sc, x, gs, scope, p, h => by
    right
    intro env cs
    have hf : isFresh e = false := by
      simp only [mE] at h
      cases e <;> first | rfl | simp [mE] at h
    simp only [ev, hf, Bool.false_eq_true, if_false]
  | .cst _, _, _, _, _, _, h => by simp [mE] at h
  | .var _, _, _, _, _, _, h => by simp [mE] at h
  | .gint _ _, _, _, _, _, _, h => by simp [mE] at h
  | .gstr _ _, _, _, _, _, _, h => by simp [mE] at h
  | .gfn _, _, _, _, _, _, h => by simp [mE] at h
  | .tup _, _, _, _, _, _, h => by simp [mE] at h
  | .lst _, _, _, _, _, _, h => by simp [mE] at h
  | .bin _ _ _, _, _, _, _, _, h => by simp [mE] at h
  | .neg _, _, _, _, _, _, h => by simp [mE] at h
  | .not _, _, _, _, _, _, h => by simp [mE] at h
  | .and _, _, _, _, _, _, h => by simp [mE] at h
  | .or _, _, _, _, _, _, h => by simp [mE] at h
  | .cmp _ _ _, _, _, _, _, _, h => by simp [mE] at h
  | .chn _ _ _ _ _, _, _, _, _, _, h => by simp [mE] at h
  | .isn _ _, _, _, _, _, _, h => by simp [mE] at h
  | .isb _ _ _, _, _, _, _, _, h => by simp [mE] at h
  | .ite _ _ _, _, _, _, _, _, h => by simp [mE] at h
  | .call _ _, _, _, _, _, _, h => by simp [mE] at h
  | .callv _ _, _, _, _, _, _, h => by simp [mE] at h
  | .bi _ _, _, _, _, _, _, h => by simp [mE] at h
  | .isi _ _, _, _, _, _, _, h => by simp [mE] at h
  | .rng _ _, _, _, _, _, _, h => by simp [mE] at h
  | .idx _ _, _, _, _, _, _, h => by simp [mE] at h
  | .slc _ _ _ _ _, _, _, _, _, _, h => by simp [mE] at h
  | .rev _, _, _, _, _, _, h => by simp [mE] at h
  | .mth _ _ _, _, _, _, _, _, h => by simp [mE] at h
theorem ps_void {st : Stmt} {m : Env → Cells → RS} (h : ∀ env cs, m env cs = .stuck) : PS X st (tS G W m) := by
  refine ⟨fun pins s σ H D I q => ?_⟩
  obtain ⟨F, α, env, cs, ab, en, po⟩ := q
  rw [h] at po
  exact po.elim
theorem not_scomp : ∀ {t : E} {sc : Scope} {a : Expr} {b : List Comprehension} {c : Scope} {d : Pos}, mE C t sc (.SetComp a b c d) = true → False
  | .mk t, sc, _, _, _, _, h => by
    simp only [mE] at h
    exact not_scomp h
  | .cst _, _, _, _, _, _, h => by simp [mE] at h
  | .var _, _, _, _, _, _, h => by simp [mE] at h
  | .gint _ _, _, _, _, _, _, h => by simp [mE] at h
  | .gstr _ _, _, _, _, _, _, h => by simp [mE] at h
  | .gfn _, _, _, _, _, _, h => by simp [mE] at h
  | .tup _, _, _, _, _, _, h => by simp [mE] at h
  | .lst _, _, _, _, _, _, h => by simp [mE] at h
  | .bin _ _ _, _, _, _, _, _, h => by simp [mE] at h
  | .neg _, _, _, _, _, _, h => by simp [mE] at h
  | .not _, _, _, _, _, _, h => by simp [mE] at h
  | .and _, _, _, _, _, _, h => by simp [mE] at h
  | .or _, _, _, _, _, _, h => by simp [mE] at h
  | .cmp _ _ _, _, _, _, _, _, h => by simp [mE] at h
  | .chn _ _ _ _ _, _, _, _, _, _, h => by simp [mE] at h
  | .isn _ _, _, _, _, _, _, h => by simp [mE] at h
  | .isb _ _ _, _, _, _, _, _, h => by simp [mE] at h
  | .ite _ _ _, _, _, _, _, _, h => by simp [mE] at h
  | .call _ _, _, _, _, _, _, h => by simp [mE] at h
  | .callv _ _, _, _, _, _, _, h => by simp [mE] at h
  | .bi _ _, _, _, _, _, _, h => by simp [mE] at h
  | .isi _ _, _, _, _, _, _, h => by simp [mE] at h
  | .rng _ _, _, _, _, _, _, h => by simp [mE] at h
  | .idx _ _, _, _, _, _, _, h => by simp [mE] at h
  | .slc _ _ _ _ _, _, _, _, _, _, h => by simp [mE] at h
  | .rev _, _, _, _, _, _, h => by simp [mE] at h
  | .comp _ _ _ _ _ _, _, _, _, _, _, h => by simp [mE] at h
  | .mth _ _ _, _, _, _, _, _, h => by simp [mE] at h
theorem not_dcomp : ∀ {t : E} {sc : Scope} {a b : Expr} {c : List Comprehension} {d : Scope} {e : Pos}, mE C t sc (.DictComp a b c d e) = true → False
  | .mk t, sc, _, _, _, _, _, h => by
    simp only [mE] at h
    exact not_dcomp h
  | .cst _, _, _, _, _, _, _, h => by simp [mE] at h
  | .var _, _, _, _, _, _, _, h => by simp [mE] at h
  | .gint _ _, _, _, _, _, _, _, h => by simp [mE] at h
  | .gstr _ _, _, _, _, _, _, _, h => by simp [mE] at h
  | .gfn _, _, _, _, _, _, _, h => by simp [mE] at h
  | .tup _, _, _, _, _, _, _, h => by simp [mE] at h
  | .lst _, _, _, _, _, _, _, h => by simp [mE] at h
  | .bin _ _ _, _, _, _, _, _, _, h => by simp [mE] at h
  | .neg _, _, _, _, _, _, _, h => by simp [mE] at h
  | .not _, _, _, _, _, _, _, h => by simp [mE] at h
  | .and _, _, _, _, _, _, _, h => by simp [mE] at h
  | .or _, _, _, _, _, _, _, h => by simp [mE] at h
  | .cmp _ _ _, _, _, _, _, _, _, h => by simp [mE] at h
  | .chn _ _ _ _ _, _, _, _, _, _, _, h => by simp [mE] at h
  | .isn _ _, _, _, _, _, _, _, h => by simp [mE] at h
  | .isb _ _ _, _, _, _, _, _, _, h => by simp [mE] at h
  | .ite _ _ _, _, _, _, _, _, _, h => by simp [mE] at h
  | .call _ _, _, _, _, _, _, _, h => by simp [mE] at h
  | .callv _ _, _, _, _, _, _, _, h => by simp [mE] at h
  | .bi _ _, _, _, _, _, _, _, h => by simp [mE] at h
  | .isi _ _, _, _, _, _, _, _, h => by simp [mE] at h
  | .rng _ _, _, _, _, _, _, _, h => by simp [mE] at h
  | .idx _ _, _, _, _, _, _, _, h => by simp [mE] at h
  | .slc _ _ _ _ _, _, _, _, _, _, _, h => by simp [mE] at h
  | .rev _, _, _, _, _, _, _, h => by simp [mE] at h
  | .comp _ _ _ _ _ _, _, _, _, _, _, _, h => by simp [mE] at h
  | .mth _ _ _, _, _, _, _, _, _, h => by simp [mE] at h
theorem mE_noset {e : E} {sc : Scope} {v : Expr} (h : mE C e sc v = true) (hv : isComp v = true) : ∃ x gs scope p, v = .ListComp x gs scope p := by
  cases v <;> first | exact ⟨_, _, _, _, rfl⟩ | exact (not_scomp h).elim | exact (not_dcomp h).elim | simp [isComp] at hv
theorem ps_setT (g : GoodS G C W L call X) {tg : Tg} {e : E} {t v : Expr} {pos : Pos} (h : mS C (.set tg e) X.env.scope (.Assign [t] v pos) = true) : PS X (.Assign [t] v pos) (tS G W (ex call (.set tg e))) := by
  simp only [mS, Bool.and_eq_true, Bool.not_eq_true', Bool.and_eq_false_iff] at h
  obtain ⟨⟨h1, h2⟩, h3⟩ := h
  have hv : isTup t = true → isTup v = false := fun z => h2.elim (fun y => by rw [z] at y; cases y) id
  have he := (mE_ok e W X v g.g h3).ok.pe
  by_cases hc : isComp v = true
  · obtain ⟨x, gs, scope, p, rfl⟩ := mE_noset h3 hc
    cases tg with
    | tp ts =>
      cases t <;> simp only [mTg, Bool.false_eq_true] at h1
      exact ps_plain g (by simpa only [mTg] using h1) hv rfl he
    | nm i =>
      cases t <;> simp only [mTg, Bool.false_eq_true] at h1
      next y py =>
        have sw := lcSw_ok (y := y) (py := py) (elt := x) (gs := gs) (s := scope) (p := p) (l := pos.line) g.kd
        cases hb : lcSw X.env.scope y py (.ListComp x gs scope p) with
        | false =>
          rw [hb] at sw
          exact ps_plain g (by simpa only [mTg] using h1) hv sw he
        | true =>
          rw [hb] at sw
          have hyl : X.env.scope.names.lookup y = some .local := by
            simp only [lcSw, Bool.and_eq_true, decide_eq_true_eq] at hb
            exact hb.1.1
          simp only [Bool.and_eq_true, decide_eq_true_eq] at h1
          rcases comp_form (call := call) h3 with ⟨elt, tg, own, k, es, ifs, rfl⟩ | hs
          · rcases gs with _ | ⟨⟨t, it, fs, asy⟩, _ | ⟨g2, gr⟩⟩
            · simp [mE] at h3
            · simp only [mE, Bool.and_eq_true, decide_eq_true_eq] at h3
              obtain ⟨⟨⟨⟨⟨⟨⟨⟨⟨k1, k2⟩, k3⟩, k4⟩, k5⟩, k6⟩, k7⟩, k8⟩, k9⟩, k10⟩ := h3
              obtain rfl := k1
              split at k8
              · next as has =>
                have a := mEs_ok es W X _ g.g k8
                have c : CompOk G C W L call X elt tg own k es ifs x t it fs scope :=
                  ⟨by rw [g.g.N]; exact blkOk_by k3, k4, fun i hi => by simpa using List.all_eq_true.mp k7 i hi, pi_of g.g has (a.map fun _ _ z => z.ok) k5, folded_of has k8 _, k6,
                    fun W' X' g' hs => (mEs_ok ifs W' X' _ g' (by rw [hs]; exact k9)).tests k2, fun W' X' g' hs => (mE_ok elt W' X' _ g' (by rw [hs]; exact k10)).ok.pe⟩
                exact ps_comp g h1.1 hyl sw c
              · cases k8
            · simp [mE] at h3
          · exact ps_void fun env cs => by simp only [ex, hs]; rfl
  · exact ps_plain g h1 hv (noswap (by simpa using hc)) he
end
end PV
end

section
set_option Elab.async false
set_option linter.all false
set_option maxRecDepth 100000
set_option maxHeartbeats 4000000
set_option autoImplicit false
/-! Statements: rows of stores, items set, loops, raise, try. -/
namespace PV
open PySem PySem.Spec PyProof.Rows L2
section
variable {G : Gt} {C : Mc} {W : WX} {L : Addr} {call : Call} {X : Cx}
theorem EnvR.set {F : Hp} {α : List Addr} {env : Env} {σ : L2.St} {i : Nat} {d : D} {v : V} (en : EnvR G F α env σ) (r : RepV G F α d v) : EnvR G F α (env.set i (some d)) (σ.set i (some v)) := by
  refine ⟨by simp [en.len], fun j d' ej => ?_⟩
  by_cases hij : i = j
  · subst hij
    by_cases hl : i < env.length
    · rw [List.getElem?_set_self hl] at ej
      cases ej
      exact ⟨v, List.getElem?_set_self (by rw [← en.len]; exact hl), r⟩
    · rw [List.getElem?_eq_none (by simpa using hl)] at ej; cases ej
  · rw [List.getElem?_set_ne hij] at ej ⊢
    exact en.at_ j d' ej
theorem EnvR.drop {F : Hp} {α : List Addr} {env : Env} {σ : L2.St} {i : Nat} {o : Option V} (en : EnvR G F α env σ) : EnvR G F α (env.set i none) (σ.set i o) := by
  refine ⟨by simp [en.len], fun j d' ej => ?_⟩
  by_cases hij : i = j
  · subst hij
    by_cases hl : i < env.length
    · rw [List.getElem?_set_self hl] at ej; cases ej
    · rw [List.getElem?_eq_none (by simpa using hl)] at ej; cases ej
  · rw [List.getElem?_set_ne hij] at ej ⊢
    exact en.at_ j d' ej
/-- a row of values for a row of targets -/
theorem par_lead {ts : List Tg} {es : List E} {D : Ends} {σ : L2.St} {H : Hp} (hl : es.length ≤ 1000) (q : tS G W (ex call (.par ts es)) D σ H) :
    tA G W (evs call es) σ H fun vs H1 => vs.length = es.length ∧ ∃ F α env cs ds env', Ab G F α H1 cs ∧ EnvR G F α env σ ∧ RepVs G F α ds vs ∧ asgs ts ds env = some env' ∧ PostS G W F α (.next env' cs) D := by
  obtain ⟨F, α, env, cs, ab, en, po⟩ := q
  simp only [ex] at po
  refine tA_of (f := fun _ ds c => R.ok ds c) (Q := fun F' α' _ cs ds => PostS G W F' α' (match asgs ts ds env with
    | some env' => .next env' cs
    | none => .stuck) D) ab en (by rw [bind_ok]; exact rs_of po en) fun F1 α1 H1 cs1 ds vs s p a1 en1 r hl po1 => ⟨hl, ?_⟩
  have po2 := po1.here a1
  cases ha : asgs ts ds env with
  | none => rw [ha] at po2; exact po2.elim
  | some env' =>
    rw [ha] at po2
    exact ⟨F1, α1, env, cs1, ds, env', a1, en1, r, ha, po2⟩
theorem TA.imp {t : TA} {es : List E} {σ : L2.St} {H : Hp} {Q Q' : List V → Hp → Prop} (h : tA G W (evs call es) σ H Q) (k : ∀ vs H, Q vs H → Q' vs H) : tA G W (evs call es) σ H Q' := by
  obtain ⟨F, α, env, cs, ab, en, po⟩ := h
  exact ⟨F, α, env, cs, ab, en, po.imp fun F' α' H' cs' ds s p ab' z vs r => k _ _ (z vs r)⟩
theorem ps_row (g : GoodS G C W L call X) {ts : List Tg} {es : List E} {xs vs : List Expr} {k k2 : Nat} {p p2 pos : Pos} (ht : mTgs C.N X.env.scope allFn ts xs = true) (he : PA X vs (tA G W (evs call es))) (hl : es.length ≤ 1000)
    (hw : swappedStores [.Tuple xs k p] (.Tuple vs k2 p2) X.env = pure none) : PS X (.Assign [.Tuple xs k p] (.Tuple vs k2 p2) pos) (tS G W (ex call (.par ts es))) := by
  have hg := pgs_tg (G := G) g.g.calm g.g.K g.g.nd ts xs (by rw [g.g.N, g.fn]; exact ht)
  obtain ⟨h1, h2⟩ := tgs_len (env := X.env) ht
  refine PS.weak (ps_asg (pe_tup he) (pg_tup g.g.calm hg h1 h2) rfl hw rfl) fun D σ H q => ?_
  refine TA.imp (t := tA G W (evs call es)) (par_lead hl q) fun vs H1 z => ?_
  obtain ⟨e1, F, α, env, cs, ds, env', ab, en, r, ea, po⟩ := z
  refine ⟨by rw [e1]; exact small_line hl, fun q hq => ⟨q, vs, rfl, SqT.of upd_same, by rw [← r.len, asgs_len ea], F, α, env, cs, ds, env', ab.idle hq _, en, r, ea, fun σ' en' _ => rs_here po (ab.idle hq _) en'⟩⟩
theorem ps_par' (g : GoodS G C W L call X) {ts : List Tg} {es : List E} {xs vs : List Expr} {k k2 : Nat} {p p2 pos : Pos} {names : List Str} (ht : mTgs C.N X.env.scope allFn ts xs = true) (he : AllE (Ok G W call X) es vs) (hl : es.length ≤ 1000)
    (hs : mSw X.env.scope ts xs names = true) (hw : swappedStores [.Tuple xs k p] (.Tuple vs k2 p2) X.env = pure (some names)) (hlen : vs.length = xs.length) : PS X (.Assign [.Tuple xs k p] (.Tuple vs k2 p2) pos) (tS G W (ex call (.par ts es))) := by
  have ha := ok_args he
  unfold mSw at hs
  split at hs
  · next i j x px y py =>
    simp only [Bool.and_eq_true, decide_eq_true_eq, locS] at hs
    obtain ⟨⟨⟨h1, h2⟩, h3⟩, rfl⟩ := hs
    simp only [mTgs, mTg, Bool.and_eq_true, decide_eq_true_eq] at ht
    obtain ⟨a, b, rfl⟩ := len2 hlen
    refine PS.weak (ps_par g.g.calm g.g.nd (by rw [g.g.N]; exact ht.1.1) (by rw [g.g.N]; exact ht.2.1.1) h1 h2 h3 ha hw) fun D σ H q => ?_
    refine TA.imp (t := tA G W (evs call es)) (par_lead hl q) fun vs H1 z => ?_
    obtain ⟨e1, F, α, env, cs, ds, env', ab, en, r, ea, po⟩ := z
    obtain ⟨d1, d2, rfl⟩ : ∃ d1 d2, ds = [d1, d2] := len2 (asgs_len ea).symm
    obtain ⟨v1, _, rfl, r1, v2, _, rfl, r2, rfl⟩ := r
    simp only [asgs, asg] at ea
    split at ea
    · next e1 he1 =>
      split at he1
      · cases he1
        split at ea
        · next e2 he2 =>
          split at he2
          · cases he2
            cases ea
            exact ⟨v1, v2, rfl, rs_here po ab ((en.set r1).set r2)⟩
          · cases he2
        · cases ea
      · cases he1
    · cases ea
  · next i j l x px y py z pz =>
    simp only [Bool.and_eq_true, decide_eq_true_eq, locS] at hs
    obtain ⟨⟨⟨⟨⟨⟨h1, h2⟩, h3⟩, h4⟩, h5⟩, h6⟩, rfl⟩ := hs
    simp only [mTgs, mTg, Bool.and_eq_true, decide_eq_true_eq] at ht
    obtain ⟨a, b, c, rfl⟩ := len3 hlen
    refine PS.weak (ps_par3 g.g.calm g.g.nd (by rw [g.g.N]; exact ht.1.1) (by rw [g.g.N]; exact ht.2.1.1) (by rw [g.g.N]; exact ht.2.2.1.1) h1 h2 h3 h4 h5 h6 ha hw) fun D σ H q => ?_
    refine TA.imp (t := tA G W (evs call es)) (par_lead hl q) fun vs H1 z => ?_
    obtain ⟨e1, F, α, env, cs, ds, env', ab, en, r, ea, po⟩ := z
    obtain ⟨d1, d2, d3, rfl⟩ : ∃ d1 d2 d3, ds = [d1, d2, d3] := len3 (asgs_len ea).symm
    obtain ⟨v1, _, rfl, r1, v2, _, rfl, r2, v3, _, rfl, r3, rfl⟩ := r
    simp only [asgs, asg] at ea
    split at ea
    · next e1 he1 =>
      split at he1
      · cases he1
        split at ea
        · next e2 he2 =>
          split at he2
          · cases he2
            split at ea
            · next e3 he3 =>
              split at he3
              · cases he3
                cases ea
                exact ⟨v1, v2, v3, rfl, rs_here po ab (((en.set r1).set r2).set r3)⟩
              · cases he3
            · cases ea
          · cases he2
        · cases ea
      · cases he1
    · cases ea
  · cases hs
/-- an item set -/
theorem setD_inv {F H : Hp} {α : List Addr} {cs : Cells} {x y d : D} {o i v : V} {env : Env} {σ : L2.St} {D' : Ends} (ab : Ab G F α H cs) (rx : RepV G F α x o) (ry : RepV G F α y i) (rd : RepV G F α d v) (en : EnvR G F α env σ)
    (po : PostS G W F α ((setD x y d cs).rs env fun _ c => .next env c) D') : rSetL o i v H fun H4 => D'.nx σ H4 := by
  have po1 := rs_of po en
  cases x <;> first | exact po1.elim | skip
  next n =>
    cases y <;> first | exact po1.elim | skip
    next j =>
      obtain ⟨p, ea, rfl⟩ := rx
      cases ry
      obtain ⟨F1, s1, a1, q1⟩ := fz_ok ab rd
      have po2 : Post G W σ F α ((setCell n (fun xs => match ixN xs.length j with
        | some m => some (D.non, xs.set m (fz d cs).1)
        | none => none) (fz d cs).2).bind fun _ cs2 => R.ok () cs2) (fun F' α' _ cs b => PostS G W F' α' (.next env cs) D') := po1
      obtain ⟨xs, r', ys, hx, hf, po3⟩ := setCell_inv po2.bind
      split at hf
      · next m hm =>
        simp only [Option.some.injEq, Prod.mk.injEq] at hf
        obtain ⟨rfl, rfl⟩ := hf
        obtain ⟨vs, h1, h2⟩ := a1.lst ea hx
        have a2 := a1.set ea hx (h2.set m q1)
        have po4 := (po3.up s1 (List.prefix_refl _)).here a2
        exact ⟨p, vs, j, m, rfl, rfl, h1, by rw [← ixN_eq, ← h2.len]; exact hm, rs_here (po4.here a2) a2 (en.mono s1 (List.prefix_refl _))⟩
      · cases hf
theorem ps_item (g : GoodS G C W L call X) {a i e : E} {x y v : Expr} {p pos : Pos} (hs : isSlice y = false) (ha : PE X x (tE G W (ev call a))) (hi : PE X y (tE G W (ev call i))) (he : PE X v (tE G W (ev call e))) :
    PS X (.Assign [.Subscript x y p] v pos) (tS G W (ex call (.sub a i e))) := by
  refine PS.weak (ps_asg he (pg_sub ha hi set_list (by intro v; cases y <;> first | rfl | simp [isSlice] at hs)) (by cases v <;> rfl) (by cases v <;> rfl) rfl) fun D σ H q => ?_
  obtain ⟨F, α, env, cs, ab, en, po⟩ := q
  simp only [ex] at po
  refine ⟨F, α, env, cs, ab, en, (rs_of po en).imp fun F1 α1 H1 cs1 d s1 p1 a1 po1 v r => ?_⟩
  have en1 := en.mono s1 p1
  refine ⟨F1, α1, env, cs1, a1, en1, (rs_of po1 en1).imp fun F2 α2 H2 cs2 d2 s2 p2 a2 po2 o r2 => ?_⟩
  have en2 := en1.mono s2 p2
  refine ⟨F2, α2, env, cs2, a2, en2, (rs_of po2 en2).imp fun F3 α3 H3 cs3 d3 s3 p3 a3 po3 i r3 => ?_⟩
  exact setD_inv a3 (r2.mono s3 p3) r3 ((r.mono s2 p2).mono s3 p3) (en2.mono s3 p3) po3
/-! name op= .. -/
theorem iop_mulA : OpR X (inplaceOp .Mult) (rI (fun i j => mulOk i j = true) fun i j => .int (i * j)) := opI fun _ _ _ _ _ _ _ hc q => imul_int q (mulOk_ok hc)
theorem aug_lead {i : Nat} {o : Bop} {e : E} {D : Ends} {σ : L2.St} {H : Hp} {ti : TIp} (ho : ∀ a b z H Q, binD o (.int a) (.int b) = some (.int z) → Q (.int z) H → ti (.int a) (.int b) H Q) (hz : ∀ a b d, binD o (.int a) (.int b) = some d → ∃ z, d = .int z)
    (q : tS G W (ex call (.aug i o e)) D σ H) : tAug i (tE G W (ev call e)) ti D σ H := by
  obtain ⟨F, α, env, cs, ab, en, po⟩ := q
  simp only [ex] at po
  split at po
  · next d hd =>
    obtain ⟨v, e1, r⟩ := en.at_ i d hd
    refine ⟨v, e1, F, α, env, cs, ab, en, (rs_of po en).imp fun F1 α1 H1 cs1 d2 s1 p1 a1 po1 v2 r2 => ?_⟩
    split at po1
    · next a b =>
      cases r
      cases r2
      split at po1
      · next z hbz =>
        obtain ⟨z, rfl⟩ := hz _ _ _ hbz
        split at po1
        · exact ho _ _ _ _ _ hbz (rs_here po1 a1 ((en.mono s1 p1).set rfl))
        · exact po1.elim
      · exact po1.elim
    · exact po1.elim
  · exact po.elim
/-! loops -/
theorem whl_lead {c : E} {body : List S} {D : Ends} {σ : L2.St} {H : Hp} (q : tS G W (ex call (.whl c body)) D σ H) : tWhile (tT G W (tst call c)) (tS G W (exs call body)) D σ H := by
  obtain ⟨F, α, env, cs, ab, en, po⟩ := q
  simp only [ex] at po
  refine ⟨fun m σ H => ∃ F α env cs, Ab G F α H cs ∧ EnvR G F α env σ ∧ PostS G W F α (whlF (fun e c' => tst call c e c') (fun e c' => exs call body e c') m env cs) D, ⟨turns, F, α, env, cs, ab, en, po⟩, ?_⟩
  rintro m σ H ⟨F, α, env, cs, ab, en, po⟩
  cases m with
  | zero => exact po.elim
  | succ m =>
    simp only [whlF] at po
    refine ⟨F, α, env, cs, ab, en, (rs_of po en).imp fun F1 α1 H1 cs1 b s1 p1 a1 po1 => ?_⟩
    have en1 := en.mono s1 p1
    cases b with
    | false => exact rs_here po1 a1 en1
    | true =>
      rw [if_pos rfl] at po1
      dsimp only
      rw [if_pos rfl]
      refine ⟨fun σ' H' => ∃ F α env cs, Ab G F α H' cs ∧ EnvR G F α env σ' ∧ PostS G W F α (whlF (fun e c' => tst call c e c') (fun e c' => exs call body e c') m env cs) D, fun σ' H' z => ⟨m, Nat.lt_succ_self _, z⟩, ?_⟩
      exact ⟨F1, α1, env, cs1, a1, en1, loop_of po1 fun F' α' H' σ' env' cs' s p ab' en' po' => ⟨F', α', env', cs', ab', en', po'⟩⟩
structure RstF (items : Cells → Option (List D)) (f : D → Env → Cells → RS) (V : Nat → Nat → Prop) (Rest : Nat → Nat → Env → Cells → RS) : Prop where
  step : ∀ n i env cs, V n i → Rest n i env cs ≠ .stuck → ∃ ds, items cs = some ds ∧ ((ds[i]? = none ∧ Rest n i env cs = .next env cs) ∨ ∃ d n', n' < n ∧ V n' (i + 1) ∧ ds[i]? = some d ∧ Rest n i env cs = loopB (f d env cs) fun e c => Rest n' (i + 1) e c)
theorem rstf_o (items : Cells → Option (List D)) (f : D → Env → Cells → RS) : RstF items f (fun _ _ => True) (forO items f) := by
  refine ⟨fun n i env cs _ h => ?_⟩
  cases n with
  | zero => exact absurd rfl h
  | succ n =>
    cases hi : items cs with
    | none => simp only [forO, hi, ne_eq, not_true_eq_false] at h
    | some ds =>
      refine ⟨ds, rfl, ?_⟩
      cases hd : ds[i]? with
      | none => exact .inl ⟨rfl, by simp only [forO, hi, hd]⟩
      | some d => exact .inr ⟨d, n, Nat.lt_succ_self _, trivial, rfl, by simp only [forO, hi, hd]⟩
theorem rstf_l (xs : List D) (f : D → Env → Cells → RS) {items : Cells → Option (List D)} (hi : ∀ c, items c = some xs) : RstF items f (fun n i => n + i = xs.length) (fun _ i env cs => forL f (xs.drop i) env cs) := by
  refine ⟨fun n i env cs hv h => ⟨xs, hi cs, ?_⟩⟩
  by_cases hl : i < xs.length
  · refine .inr ⟨xs[i], n - 1, by omega, by omega, List.getElem?_eq_getElem hl, ?_⟩
    rw [List.drop_eq_getElem_cons hl]
    rfl
  · refine .inl ⟨List.getElem?_eq_none (by omega), ?_⟩
    rw [List.drop_eq_nil_of_le (by omega)]
    rfl
theorem walkS_inv {k : Ik} {ds : List D} {f : D → Env → Cells → RS} {env : Env} {cs : Cells} (h : walkS k ds f env cs ≠ .stuck) :
    kOk k ds = true ∧ (itemsOf k (ds.map (view cs))).isSome = true ∧ ∃ V Rest n, RstF (fun c => itemsOf k (ds.map (view c))) f V Rest ∧ V n 0 ∧ walkS k ds f env cs = Rest n 0 env cs := by
  unfold walkS at h ⊢
  split at h
  · next hk =>
    refine ⟨hk, ?_⟩
    rw [if_pos hk]
    split at h
    · next ho =>
      rw [if_pos ho]
      split at h
      · next xs hx =>
        rw [hx]
        exact ⟨rfl, _, _, _, rstf_o _ f, trivial, rfl⟩
      · exact absurd rfl h
    · next ho =>
      rw [if_neg ho]
      have hv := view_frozen (by simpa using ho)
      split at h
      · next xs hx =>
        refine ⟨by rw [hv, hx]; rfl, ?_⟩
        exact ⟨_, _, xs.length, rstf_l xs f fun c => by rw [hv, hx], rfl, rfl⟩
      · exact absurd rfl h
  · exact absurd rfl h
theorem for_lead {tg : Tg} {k : Ik} {es : List E} {body : List S} {D : Ends} {σ : L2.St} {H : Hp} (q : tS G W (ex call (.for tg k es body)) D σ H) : tFor (tI G W k (evs call es)) (gT G tg) (tS G W (exs call body)) D σ H := by
  obtain ⟨F, α, env, cs, ab, en, po⟩ := q
  simp only [ex] at po
  refine ⟨F, α, env, cs, ab, en, (rs_of po en).imp fun F1 α1 H1 cs1 ds s1 p1 a1 po1 => ?_⟩
  have en1 := en.mono s1 p1
  obtain ⟨hk, hi, V, Rest, n0, hR, hV, hw⟩ := walkS_inv (ps_live po1)
  rw [hw] at po1
  refine ⟨hi, hk, fun J hJ => ?_⟩
  refine ⟨fun i m σ H => ∃ F α env cs, Same F1 F ∧ α1 <+: α ∧ Ab G F α H cs ∧ EnvR G F α env σ ∧ V m i ∧ PostS G W F α (Rest m i env cs) D, ⟨n0, F1, α1, env, cs1, same_rf, List.prefix_refl _, a1, en1, hV, po1⟩, ?_⟩
  rintro i m σ2 H2 ⟨F2, α2, env2, cs2, s2, p2, a2, en2, v2, po2⟩
  obtain ⟨xs, hx, hcase⟩ := hR.step m i env2 cs2 v2 (ps_live po2)
  rcases hcase with ⟨hnone, hr⟩ | ⟨d, m', hm, hv', hd, hr⟩
  · left
    rw [hr] at po2
    exact ⟨hJ.stop i F2 α2 H2 cs2 xs s2 p2 a2 hx hnone, rs_here po2 a2 en2⟩
  · right
    rw [hr] at po2
    refine ⟨hJ.go i F2 α2 H2 cs2 xs d s2 p2 a2 hx hd, fun σ' H' => ∃ m', m' < m ∧ ∃ F α env cs, Same F1 F ∧ α1 <+: α ∧ Ab G F α H' cs ∧ EnvR G F α env σ' ∧ V m' (i + 1) ∧ PostS G W F α (Rest m' (i + 1) env cs) D, fun σ' H' z => z, fun x H3 hy => ?_⟩
    have hitem : ∃ F3, Same F2 F3 ∧ Ab G F3 α2 H3 cs2 ∧ RepV G F3 α2 d x := by
      rcases hJ.yld i F2 α2 H2 cs2 xs d x H3 s2 p2 a2 hx hd hy with ⟨rfl, r⟩ | ⟨T, vs, ds', rfl, rfl, hT, rfl, r⟩
      · exact ⟨F2, same_rf, a2, rep_v r⟩
      · have s : Same F2 (upd F2 T (.tup vs)) := same_up (same_none a2.sub hT)
        exact ⟨_, s, a2.fresh hT _, T, vs, rfl, SqT.of upd_same, Reps.mono s _ _ r⟩
    obtain ⟨F3, s3, a3, rx⟩ := hitem
    have po3 := po2.up s3 (List.prefix_refl _)
    cases ha : asg tg d env2 with
    | none => simp only [turnS, ha] at po3; exact po3.elim
    | some env' =>
      simp only [turnS, ha] at po3
      refine ⟨F3, α2, env2, cs2, d, env', a3, en2.mono s3 (List.prefix_refl _), rx, ha, fun σ' en' _ => ?_⟩
      exact ⟨F3, α2, env', cs2, a3, en', loop_of po3 fun F' α' H' σ'' env'' cs'' s p ab' en'' po' => ⟨m', hm, F', α', env'', cs'', same_tr (same_tr s2 s3) s, p2.trans p, ab', en'', hv', po'⟩⟩
/-! raise -/
theorem pmk_own0 {A : Addr} {bmB : List Value} {B newId initId : String} {x : Str} {p pos : Pos} (F : ExcBaseFacts B newId initId bmB) (q : PySem.W.excIn X.K A bmB newId = true) (gC : X.mg x = some (.ref A)) (kC : PySem.W.keepIn X.K (.ref A) = true) (r : Raises X (.ref A)) (hg : Gl X x)
    (hdb : (x == ("__debug__" : Str)) = false) : PMk X (.Call (.Name x p) [] [] pos) (fun _ H Q => Q (.ref A) none H) := by
  intro pins s σ H Q I h
  refine wpAny_Call_Name_kw (ld_glob I hg gC ?_ hdb)
  refine PySem.W.callWith_K0 I.kIn kC ?_
  obtain ⟨bm, N, nm, qn, bs, hdct, sn, sub, ab, col, dd, k0, k1, k2, k3, k5, mN, hC, hN, hni, T⟩ := exc_obj I.kIn q
  refine wpAny_call_exc_subT F T hC hN hni (fun h' e hm => ?_) (Nat.zero_le _)
  exact mk_of I hm r h (I.hok.gone hm.new)
theorem ps_raise' (g : GoodS G C W L call X) (c : Cls G C X.K X.mg) {k : Nat} {x : Str} {p p2 pos : Pos} (hx : C.cl[k]? = some x) (hv : glo X.env.scope x = true) : PS X (.Raise (some (.Call (.Name x p) [] [] p2)) none pos) (tS G W (ex call (.raise k))) := by
  obtain ⟨v1, v2, v3⟩ := PV.glo_ok hv
  obtain ⟨A, e1, e2⟩ := c.nm k x hx
  obtain ⟨B, newId, initId, bmB, F, q⟩ := c.made k A e1
  obtain ⟨k1, k2, k3⟩ := c.kp k A e1
  refine PS.weak (ps_raise g.g.calm g.takes (pmk_own0 F q e2 k1 (raises_own k2 k3) v1 v2)) fun D σ H q => ?_
  obtain ⟨F, α, env, cs, ab, en, po⟩ := q
  simp only [ex] at po
  exact po F α H σ _ _ same_rf (List.prefix_refl _) ab en ⟨A, e1, rfl, rfl, rfl⟩
end
end PV
end

section
set_option Elab.async false
set_option linter.all false
set_option maxRecDepth 100000
set_option maxHeartbeats 4000000
set_option autoImplicit false
/-! try; the theorem about statements. -/
namespace PV
open PySem PySem.Spec PyProof.Rows L2
/-- what named clauses wish of an exception: class, the name's slot, the suite's reading -/
abbrev HdL := List (Value × Nat × (Addr → Value → Option Addr → TS))
def wNm (K : PySem.W.Frag) (Wout : WX) (D : Ends) : HdL → WX
  | [] => Wout
  | (c, i, ts) :: r => fun cls d σ H => ∃ b, PySem.W.exmOne K cls c = some b ∧
    (b = true → ∀ a, H a = none → ts a cls d { nx := fun σ' H' => D.nx (σ'.set i none) H', rt := D.rt, bk := fun σ' H' => D.bk (σ'.set i none) H', ct := fun σ' H' => D.ct (σ'.set i none) H' } (σ.set i (some (.ref a))) H) ∧
    (b = false → wNm K Wout D r cls d σ H)
inductive HdN (X : Cx) : List ExceptHandler → HdL → Prop
  | nil : HdN X [] []
  | cons {x n : Str} {c : Value} {i : Nat} {ts : Addr → Value → Option Addr → TS} {b₀ : Stmt} {suite : List Stmt} {np pos : Pos} {hds : List ExceptHandler} {l : HdL} (hc : Names X x c) (hi : X.N[i]? = some n) (hn : X.env.kindOf n = some .local)
      (hsu : ∀ a oe cls d pn, Zc cls d oe → (∃ vs, oe.data = .fields vs) → PSs (X.suite a ((a, oe) :: pn)) (b₀ :: suite) (ts a cls d)) (r : HdN X hds l) :
      HdN X (.ExceptHandler (some (.Name x np)) (some n) (b₀ :: suite) pos :: hds) ((c, i, ts) :: l)
section
variable {X : Cx} {body : List Stmt} {h₀ : ExceptHandler} {hds : List ExceptHandler} {l : HdL} {pos : Pos} {tb : WX → TS} {Wout : WX}
theorem ps_try_nm (hs : X.stack = X.env :: X.outer) (hf : X.env.frame = some X.env.locals) (hN : X.N.Nodup) (tk : Takes X Wout)
    (hb : ∀ W pn xe, Takes (X.tr pn xe) W → PassesOwn (model X.prog X.w) X.A X.env xe → PSs (X.tr pn xe) body (tb W))
    (hh : HdN X (h₀ :: hds) l) : PS X (.Try body (h₀ :: hds) [] [] pos) (fun D σ H => tb (wNm X.K Wout D l) D σ H) := by
  refine ⟨fun pins s σ H D I h => ?_⟩
  have ok := I.ok
  have hfr : X.A.frames = some (X.env :: X.outer) := by rw [ok.frames, hs]
  refine wpAny_Try_except ?_
  have caught : Takes (X.tr (X.pn ++ pins) fun e s₁ => wpAny (model X.prog X.w) X.A (noteFrame e X.env) (fun _ s₂ => wpAny (model X.prog X.w) X.A (setFlight e none) (fun _ s₃ => wpAny (model X.prog X.w) X.A (handleBy e X.env (h₀ :: hds)) (SP X pins D) X.xe s₃) X.xe s₂) X.xe s₁) (wNm X.K Wout D l) := by
    intro u s' xx
    obtain ⟨a, B, sI, pins', σ', H', cls, d, rfl, J', nb, up, sky, na, os, ag, w⟩ := xx
    have J : Inv X pins σ' H' sI := J'.ofTry ok
    have sky' : Sky B (X.env :: X.outer) a (Zc cls d) X.env.locals s'.heap := by rw [← hs]; exact sky
    refine Sky.land Zc.steady hfr hf sky' fun h3 fl3 up3 => ?_
    have up13 := up.trans up3
    have J3 : Inv X pins σ' H' { s' with heap := h3 } := J.landed nb fl3.1 up13 os ag
    obtain ⟨oe3, vs3, he3, hz3, hd3⟩ := fl3.there
    have off : a ∉ frs (X.env :: X.outer) := fun hm => by
      obtain ⟨_, o', e', hnf⟩ := fl3.2.2.1.mem hm
      rw [he3] at e'; cases e'
      exact hnf _ hd3
    have nL : a ≠ X.env.locals := fun z => off (List.mem_filterMap.mpr ⟨X.env, List.mem_cons_self, by rw [hf, z]⟩)
    have nF : a ∉ X.fs := fun hm => by
      obtain ⟨e, he, q⟩ := List.mem_filterMap.mp hm
      exact off (List.mem_filterMap.mpr ⟨e, List.mem_cons_of_mem _ he, q⟩)
    have S3 := J3.suite he3 hd3 na nL nF
    have go : ∀ {hl : List ExceptHandler} {l' : HdL}, HdN X hl l' → wNm X.K Wout D l' cls d σ' H' → wpAny (model X.prog X.w) X.A (handleBy (.ref a) X.env hl) (SP X pins D) X.xe { s' with heap := h3 } := by
      intro hl l' hk
      induction hk with
      | nil =>
        intro w
        refine wpAny_handleBy_nil ?_
        obtain ⟨_, _, _, oe, vs, T, oT, ts', he, _, hd, h1, _⟩ := id fl3
        unfold PySem.passOn
        refine wpAny_bind (wpAny_field he hd h1 ?_)
        rw [if_neg (show ¬ ((Value.ref T == Value.none) = true) from by simp)]
        have fin : wpAny (model X.prog X.w) X.A (setFlight (.ref a) X.env.frame) (fun _ s4 => wpAny (model X.prog X.w) X.A (throw (.ref a) : Sem Flow) (SP X pins D) X.xe s4) X.xe { s' with heap := h3 } := by
          rw [hf]
          refine HandSPX.setFlight_upZ fl3 fun h4 hh4 up4 => wpAny_throw (tk _ _ ?_)
          exact ⟨a, B, sI, pins, σ', H', cls, d, rfl, J, nb, up13.trans up4, .inr (.inr (by rw [hs]; exact hh4)), na, os, ag, w⟩
        first
          | exact wpAny_bind (wpAny_pure (wpAny_bind fin))
          | exact wpAny_bind fin
      | @cons x n c i ts b₀ suite np pos' hds2 l2 hc hi hn hsu r ih =>
        intro w
        obtain ⟨b, hb1, hyes, hno⟩ := w
        refine wpAny_handleBy_cons (codeAny_handlers_test ?_) (by intro q; cases q)
        have LT : PySem.W.Looks (model X.prog X.w) h3 (typeOf (.ref a)) cls := fun A Q E s k q => wpAny_typeOf_ref (k _ _ he3) (by rw [hz3.1]; exact q)
        have LM := PySem.W.exm_one (M := model X.prog X.w) J3.kIn LT hb1
        have test : ∀ {Q : Value → Shared → Prop} {E : Value → Shared → Prop}, Q c { s' with heap := h3 } → wpAny (model X.prog X.w) (X.A.mark (some (.ref a))) (eval (.Name x np) X.env) Q E { s' with heap := h3 } := fun {Q E} q => by
          obtain ⟨hg, hdbg, hm | ⟨hm, hv, hnn⟩⟩ := hc
          · exact ld_glob (X := X.suite a ((a, oe3) :: (X.pn ++ pins))) S3 hg hm q hdbg
          · exact ld_blt (X := X.suite a ((a, oe3) :: (X.pn ++ pins))) S3 hg hm hv q hnn hdbg
        refine test (LM.here ?_)
        cases b with
        | true =>
          refine codeAny_handlers_suite_as ?_
          refine HandSPX.lands_againZ fl3 fun h4 fl4 up4 => ?_
          have J4 : Inv X pins σ' H' { s' with heap := h4 } := J.landed nb fl4.1 (up13.trans up4) os ag
          obtain ⟨oe4, vs4, he4, hz4, hd4⟩ := fl4.there
          have S4 := J4.suite he4 hd4 na nL nF
          refine store_ok (X := X.suite a ((a, oe4) :: (X.pn ++ pins))) (v := .ref a) S4 hN hi (.inl hn) rfl (fun s5 S5 => ?_) (.inr hn)
          refine wpAny_mono ((hsu a oe4 cls d (X.pn ++ pins) hz4 ⟨_, hd4⟩).run [] s5 _ H' _ S5 (hyes rfl a na)) (fun f s6 hsp => ?_) (fun _ _ z => False.elim z)
          have gone : ∀ {σ6 : L2.St} {H6 : Hp} {Q : Shared → Prop}, Inv (X.suite a ((a, oe4) :: (X.pn ++ pins))) [] σ6 H6 s6 → (∀ s7, Inv X pins (σ6.set i none) H6 s7 → Q s7) →
              wpAny (model X.prog X.w) X.A (do bindName X.env n .none; unbindBehindTheSuite X.env n pos') (fun _ s7 => Q s7) X.xe s6 := fun {σ6 H6 Q} S6 hq => gone_ok (S6.unsuite ok) hN hi hn hq
          cases f with
          | next => obtain ⟨σ6, H6, S6, q6⟩ := hsp; exact gone S6 fun s7 J7 => ⟨_, _, J7, q6⟩
          | brk => obtain ⟨σ6, H6, S6, q6⟩ := hsp; exact gone S6 fun s7 J7 => ⟨_, _, J7, q6⟩
          | cont => obtain ⟨σ6, H6, S6, q6⟩ := hsp; exact gone S6 fun s7 J7 => ⟨_, _, J7, q6⟩
          | ret u => obtain ⟨v6, σ6, H6, S6, r6, q6⟩ := hsp; exact gone S6 fun s7 J7 => ⟨_, _, _, J7, r6, q6⟩
        | false => exact ih (hno rfl)
    exact go hh w
  refine wpAny_mono ((hb (wNm X.K Wout D l) (X.pn ++ pins) _ caught PassesOwn.looking).run [] s σ H D (I.toTry _) h) (fun f s1 hsp => ?_) (fun e s1 he => he)
  cases f with
  | next => obtain ⟨σ', H', J', q⟩ := hsp; exact wpAny_execs_nil ⟨σ', H', J'.ofTry ok, q⟩
  | brk => obtain ⟨σ', H', J', q⟩ := hsp; exact ⟨σ', H', J'.ofTry ok, q⟩
  | cont => obtain ⟨σ', H', J', q⟩ := hsp; exact ⟨σ', H', J'.ofTry ok, q⟩
  | ret u => obtain ⟨v, σ', H', J', r, q⟩ := hsp; exact ⟨v, σ', H', J'.ofTry ok, r, q⟩
end
/-! the suites here: a row of texts and of isinstance(error, ValueError) -/
def siV : Si → V
  | .str z => .str z
  | .isi t => .bl (t == .verr)
section
variable {G : Gt} {C : Mc} {W : WX} {L : Addr} {call : Call} {X : Cx}
theorem si_rep {F : Hp} : ∀ is : List Si, Reps G F (is.map siD) (is.map siV)
  | [] => rfl
  | .str z :: is => ⟨.str z, _, rfl, rfl, si_rep is⟩
  | .isi t :: is => ⟨.bl (t == .verr), _, rfl, rfl, si_rep is⟩
def tSi (j : Nat) (a : Addr) (is : List Si) : TA := fun σ H Q => σ[j]? = some (some (.ref a)) ∧ Q (is.map siV) H
theorem pa_si (g : GoodS G C W L call X) {A a : Addr} {oe : Obj} {pn : List (Addr × Obj)} {j : Nat} {n : Str} (hA : ExcC X.K A) (hv : PySem.W.kitOne X.K (.ref A) (.type "ValueError") = some true) (hj : X.N[j]? = some n) (hz : Zc (.ref A) none oe) (hf : ∃ vs, oe.data = .fields vs) :
    ∀ (is : List Si) (es : List Expr), mSis X.env.scope n is es = true → PA (X.suite a ((a, oe) :: pn)) es (tSi j a is)
  | [], [], _ => by
    refine PA.weak pa_nil fun σ H Q q => q.2
  | [], _ :: _, h => by simp [mSis] at h
  | _ :: _, [], h => by simp [mSis] at h
  | i :: is, e :: es, h => by
    simp only [mSis, Bool.and_eq_true] at h
    have ih := pa_si (a := a) (pn := pn) g hA hv hj hz hf is es h.2
    cases i with
    | str z =>
      have h1 := h.1
      simp only [mSi] at h1
      split at h1
      · obtain rfl := of_decide_eq_true h1
        exact PA.weak (pa_cons pe_str ih) fun σ H Q q => ⟨q.1, q.2⟩
      · cases h1
    | isi t =>
      have h1 := h.1
      simp only [mSi] at h1
      split at h1
      · next f pf m pm yy pyy pp =>
        simp only [Bool.and_eq_true, decide_eq_true_eq] at h1
        obtain ⟨⟨⟨⟨⟨⟨rfl, rfl⟩, k3⟩, rfl⟩, k5⟩, rfl⟩, k7⟩ := h1
        obtain ⟨a1, a2, a3⟩ := PV.glo_ok k3
        obtain ⟨b1, b2, b3⟩ := vis_ok k5
        obtain ⟨c1, c2, c3⟩ := PV.glo_ok k7
        have pv : PE (X.suite a ((a, oe) :: pn)) (.Name m pm) (tVar j) := pe_var hj b1 b2 b3
        obtain ⟨d1, d2, d3⟩ := ty_blt .verr
        have pt : PE (X.suite a ((a, oe) :: pn)) (.Name (Str.ofString Ty.verr.nm) pyy) (tC (.ty Ty.verr.nm)) := pe_bltn c1 (g.g.free _ d1) d3 rfl c3 c2
        have pc := pe_callB (p := pf) (pos := pp) (call_isE (a := a) (pn := pn) hA hz hf) (x := "isinstance") a1 (g.g.free _ blt_isi.1) blt_isi.2.2 (pa_cons pv (pa_cons pt pa_nil)) a3 a2 rfl rfl
        refine PA.weak (pa_cons pc ih) fun σ H Q q => ?_
        exact ⟨.ref a, q.1, .ty "ValueError", .type "ValueError", true, rfl, fun u r => r, hv, q.1, q.2⟩
      · cases h1
/-- what a clause does -/
def suT (A : Addr) (j i : Nat) (is : List Si) : Addr → Value → Option Addr → TS := fun a cls d D σ H => cls = .ref A ∧ d = none ∧ σ[j]? = some (some (.ref a)) ∧ ∀ q, H q = none → D.nx (σ.set i (some (.ref q))) (upd H q (.lst (is.map siV)))
theorem suite_ok (g : GoodS G C W L call X) {A : Addr} {i j : Nat} {n y : Str} {is : List Si} {vs : List Expr} {py p1 p2 : Pos} (hA : ExcC X.K A) (hv : PySem.W.kitOne X.K (.ref A) (.type "ValueError") = some true) (hj : X.N[j]? = some n) (hi : X.N[i]? = some y) (hy : locS X.env.scope y = true)
    (hl : vs.length ≤ 1000) (hm : mSis X.env.scope n is vs = true) (a : Addr) (oe : Obj) (cls : Value) (d : Option Addr) (pn : List (Addr × Obj)) (hz : Zc cls d oe) (hf : ∃ vs, oe.data = .fields vs) :
    PSs (X.suite a ((a, oe) :: pn)) [.Assign [.Name y py] (.List vs p1) p2] (suT A j i is a cls d) := by
  refine ⟨fun pins s σ H D I q => ?_⟩
  obtain ⟨rfl, rfl, q1, q2⟩ := q
  have hyl : X.env.scope.names.lookup y = some .local := of_decide_eq_true hy
  have pa := pa_si (a := a) (pn := pn) g hA hv hj hz hf is vs hm
  have hlen : ∀ (is : List Si) (vs : List Expr), mSis X.env.scope n is vs = true → is.length = vs.length := by
    intro is
    induction is with
    | nil => intro vs h; cases vs <;> first | rfl | simp [mSis] at h
    | cons a b ih =>
      intro vs h
      cases vs with
      | nil => simp [mSis] at h
      | cons c d =>
        simp only [mSis, Bool.and_eq_true] at h
        simp [ih d h.2]
  have ps := pss_one (ps_set (X := X.suite a ((a, oe) :: pn)) (i := i) (x := y) (pos' := py) (pos := p2) g.g.nd hi (.inl hyl) (pe_lst (pos := p1) pa) (noswap rfl) (.inr hyl))
  refine ps.run pins s σ H D I ?_
  exact ⟨q1, by rw [List.length_map, hlen is vs hm]; exact small_line hl, fun q hq => q2 q hq⟩
theorem EnvR.clear {F : Hp} {α : List Addr} {env : Env} {σ : L2.St} {j : Nat} {o : Option V} (en : EnvR G F α env σ) (h : ∀ d, env[j]? ≠ some (some d)) : EnvR G F α env (σ.set j o) := by
  refine ⟨by simp [en.len], fun k d e => ?_⟩
  by_cases hk : j = k
  · subst hk; exact absurd e (h d)
  · rw [List.getElem?_set_ne hk]; exact en.at_ k d e
theorem hdn_of (g : GoodS G C W L call X) (c : Cls G C X.K X.mg) : ∀ (hs : List (Nat × Nat × Nat × List Si)) (hds : List ExceptHandler), mHs C X.env.scope hs hds = true → ∃ l, HdN X hds l ∧
    ∀ {F : Hp} {α : List Addr} {x : Exc} {env : Env} {cs : Cells} {D : Ends}, PostS G W F α (tryB hs (.exc x env cs)) D → ∀ F' α' H' σ' cls dx, Same F F' → α <+: α' → Ab G F' α' H' cs → EnvR G F' α' env σ' → ExcR G x cls dx H' → wNm X.K W D l cls dx σ' H'
  | [], [], _ => ⟨[], .nil, fun po F' α' H' σ' cls dx s p ab en ex => po F' α' H' σ' cls dx s p ab en ex⟩
  | [], _ :: _, h => by simp [mHs] at h
  | _ :: _, [], h => by simp [mHs] at h
  | (k, j, i, is) :: hs, hd :: hds, h => by
    unfold mHs at h
    split at h
    · next heq _ => cases heq
    · next e1 e2 =>
      simp only [List.cons.injEq, Prod.mk.injEq] at e1
      obtain ⟨⟨rfl, rfl, rfl, rfl⟩, rfl⟩ := e1
      simp only [List.cons.injEq] at e2
      obtain ⟨rfl, rfl⟩ := e2
      simp only [Bool.and_eq_true, decide_eq_true_eq] at h
      obtain ⟨⟨⟨⟨⟨⟨⟨⟨h1, h2⟩, h3⟩, h4⟩, h5⟩, h6⟩, h7⟩, h8⟩, h9⟩ := h
      obtain ⟨l, hl, hk⟩ := hdn_of g c _ _ h9
      obtain ⟨A, ea, em⟩ := c.nm _ _ h1
      obtain ⟨i1, i2⟩ := c.iv _ _ ea
      obtain ⟨v1, v2, v3⟩ := PV.glo_ok h2
      refine ⟨(.ref A, _, suT A _ _ _) :: l, .cons ⟨v1, v2, .inl em⟩ (by rw [g.g.N]; exact h3) (of_decide_eq_true h4) (suite_ok g i1 i2 (by rw [g.g.N]; exact h3) (by rw [g.g.N]; exact h5) h6 h7 h8) hl, ?_⟩
      intro F α x env cs D po F' α' H' σ' cls dx s p ab en ex
      obtain ⟨A', e2, rfl, rfl, e5⟩ := ex
      refine ⟨_, c.mt _ _ _ _ ea e2, fun hb a ha => ?_, fun hb => ?_⟩
      · have hkx := of_decide_eq_true hb
        subst hkx
        rw [ea] at e2
        cases e2
        simp only [tryB, clauseOf, if_true] at po
        split at po
        · next hij =>
          obtain ⟨q1, q2, q3⟩ := hij
          have hlen := en.len
          refine ⟨rfl, rfl, List.getElem?_set_self (by omega), fun q hq => ?_⟩
          have s2 : Same F' (upd F' q (.lst (is.map siV))) := same_up (same_none ab.sub hq)
          have en2 := en.mono s2 (List.prefix_refl _)
          have rp : RepV G (upd F' q (.lst (is.map siV))) α' (.lst (is.map siD)) (.ref q) := ⟨q, _, rfl, upd_same, si_rep is⟩
          show D.nx (((σ'.set j (some (.ref a))).set i (some (.ref q))).set j none) _
          refine rs_here (po.up (same_tr s s2) p) (ab.fresh hq _) (((en2.drop (i := j) (o := some (.ref a))).set rp).clear fun d e => ?_)
          rw [List.getElem?_set_ne q3, List.getElem?_set_self q2] at e
          cases e
        · exact po.elim
      · have hkx := of_decide_eq_false hb
        refine hk (F := F) (α := α) (x := x) (env := env) (cs := cs) ?_ F' α' H' σ' _ _ s p ab en ⟨A', e2, rfl, rfl, e5⟩
        simp only [tryB, clauseOf, if_neg hkx] at po ⊢
        exact po
    · cases h
end
section
variable {G : Gt} {C : Mc} {L : Addr} {call : Call}
/-- a try's body is a good context -/
theorem good_tr {W W' : WX} {X : Cx} (g : GoodS G C W L call X) {pn : List (Addr × Obj)} {xe : Value → Shared → Prop} (tk : Takes (X.tr pn xe) W') (hp : PassesOwn (model X.prog X.w) X.A X.env xe) : GoodS G C W' L call (X.tr pn xe) :=
  ⟨⟨g.g.K, g.g.N, g.g.calm, g.g.nd, g.g.hu, g.g.fr, g.g.top, g.g.free, g.g.gi, g.g.gs, g.g.fn, g.g.ok, fun u s' x => tk u s' (Air.to g.lc x)⟩, g.lc, g.st, hp, g.fn, g.kd⟩
mutual
theorem mS_ok : ∀ (t : S) (W : WX) (X : Cx) (s : Stmt), GoodS G C W L call X → Cls G C X.K X.mg → mS C t X.env.scope s = true → PS X s (tS G W (ex call t))
  | .set tg e, W, X, s, g, c, h => by
    have h0 := h
    simp only [mS] at h
    split at h
    · exact ps_setT g h0
    · cases h
  | .par ts es, W, X, s, g, c, h => by
    simp only [mS] at h
    split at h
    · next xs k p vs k2 p2 pos =>
      simp only [Bool.and_eq_true, decide_eq_true_eq] at h
      obtain ⟨⟨⟨h1, h2⟩, h3⟩, h4⟩ := h
      have a := (mEs_ok es W X _ g.g h2).map fun _ _ z => z.ok
      have hl : es.length ≤ 1000 := by rw [a.len]; exact h3
      split at h4
      · next hsw => exact ps_row g h1 (ok_args a) hl (swNames_ok g.kd hsw)
      · next names hsw =>
        refine ps_par' g h1 a hl h4 (swNames_ok g.kd hsw) ?_
        unfold swNames at hsw
        split at hsw
        · cases hsw
        · next hc =>
          simp only [Bool.or_eq_true, bne_iff_ne, ne_eq, not_or, Decidable.not_not] at hc
          exact hc.2
      · cases h4
    · cases h
  | .sub a i e, W, X, s, g, c, h => by
    simp only [mS] at h
    split at h
    · simp only [Bool.and_eq_true, Bool.not_eq_true'] at h
      obtain ⟨⟨⟨h1, h2⟩, h3⟩, h4⟩ := h
      exact ps_item g h1 (mE_ok a W X _ g.g h2).ok.pe (mE_ok i W X _ g.g h3).ok.pe (mE_ok e W X _ g.g h4).ok.pe
    · cases h
  | .aug i o e, W, X, s, g, c, h => by
    simp only [mS] at h
    split at h
    · simp only [Bool.and_eq_true, Bool.or_eq_true, decide_eq_true_eq, locS] at h
      obtain ⟨⟨⟨h1, h2⟩, h3⟩, h4⟩ := h
      have he := (mE_ok e W X _ g.g h4).ok.pe
      have hfn : ∀ x, X.fn x = true := fun x => by rw [g.fn]
      rcases h3 with ⟨rfl, rfl⟩ | ⟨rfl, rfl⟩ | ⟨rfl, rfl⟩
      · exact PS.weak (ps_aug g.g.nd (by rw [g.g.N]; exact h1) h2 he (iop_add (X := X)) (.inl (hfn _))) fun D σ H q =>
          aug_lead (fun a b z H Q e q => by simp only [binD, Option.some.injEq, PV.D.int.injEq] at e; subst e; exact ⟨a, b, rfl, rfl, q⟩) (fun a b d e => by simp only [binD, Option.some.injEq] at e; exact ⟨_, e.symm⟩) q
      · exact PS.weak (ps_aug g.g.nd (by rw [g.g.N]; exact h1) h2 he (iop_sub (X := X)) (.inl (hfn _))) fun D σ H q =>
          aug_lead (fun a b z H Q e q => by simp only [binD, Option.some.injEq, PV.D.int.injEq] at e; subst e; exact ⟨a, b, rfl, rfl, q⟩) (fun a b d e => by simp only [binD, Option.some.injEq] at e; exact ⟨_, e.symm⟩) q
      · exact PS.weak (ps_aug g.g.nd (by rw [g.g.N]; exact h1) h2 he (iop_mulA (X := X)) (.inl (hfn _))) fun D σ H q =>
          aug_lead (fun a b z H Q e q => by
            simp only [binD] at e
            split at e
            · next hm => simp only [Option.some.injEq, PV.D.int.injEq] at e; subst e; exact ⟨a, b, rfl, rfl, hm, q⟩
            · cases e) (fun a b d e => by
            simp only [binD] at e
            split at e
            · simp only [Option.some.injEq] at e; exact ⟨_, e.symm⟩
            · cases e) q
    · cases h
  | .expr e, W, X, s, g, c, h => by
    simp only [mS] at h
    split at h
    · simp only [Bool.and_eq_true, Bool.not_eq_true'] at h
      refine PS.weak (ps_expr (mE_ok e W X _ g.g h.2).ok.pe (noswap h.1)) fun D σ H q => ?_
      obtain ⟨F, α, env, cs, ab, en, po⟩ := q
      simp only [ex] at po
      exact ⟨F, α, env, cs, ab, en, (rs_of po en).imp fun F1 α1 H1 cs1 d s1 p1 a1 po1 v r => rs_here po1 a1 (en.mono s1 p1)⟩
    · cases h
  | .ite cc a b, W, X, s, g, c, h => by
    simp only [mS] at h
    split at h
    · simp only [Bool.and_eq_true] at h
      obtain ⟨⟨⟨h1, h2⟩, h3⟩, h4⟩ := h
      refine PS.weak (ps_if ((mE_ok cc W X _ g.g h2).ot h1) (mSs_ok a W X _ g c h3) (mSs_ok b W X _ g c h4)) fun D σ H q => ?_
      obtain ⟨F, α, env, cs, ab, en, po⟩ := q
      simp only [ex] at po
      refine ⟨F, α, env, cs, ab, en, (rs_of po en).imp fun F1 α1 H1 cs1 b s1 p1 a1 po1 => ?_⟩
      cases b with
      | true => exact ⟨F1, α1, env, cs1, a1, en.mono s1 p1, po1⟩
      | false => exact ⟨F1, α1, env, cs1, a1, en.mono s1 p1, po1⟩
    · cases h
  | .for tg k es body, W, X, s, g, c, h => by
    simp only [mS] at h
    split at h
    · simp only [Bool.and_eq_true] at h
      obtain ⟨⟨⟨h1, h2⟩, h3⟩, h4⟩ := h
      split at h3
      · next as has =>
        have a := (mEs_ok es W X _ g.g h3).map fun _ _ z => z.ok
        exact PS.weak (ps_for g.ps g.g.calm (pi_of g.g has a h2) (pg_tg (G := G) g.g.calm g.g.K g.g.nd tg _ (by rw [g.g.N, g.fn]; exact h1)) (mSs_ok body W X _ g c h4) (folded_of has h3 _)) fun D σ H q => for_lead q
      · cases h3
    · cases h
  | .whl cc body, W, X, s, g, c, h => by
    simp only [mS] at h
    split at h
    · simp only [Bool.and_eq_true] at h
      obtain ⟨⟨h1, h2⟩, h3⟩ := h
      exact PS.weak (ps_while g.ps ((mE_ok cc W X _ g.g h2).ot h1) (mSs_ok body W X _ g c h3)) fun D σ H q => whl_lead q
    · cases h
  | .ret e, W, X, s, g, c, h => by
    simp only [mS] at h
    split at h
    · refine PS.weak (ps_ret (mE_ok e W X _ g.g h).ok.pe) fun D σ H q => ?_
      obtain ⟨F, α, env, cs, ab, en, po⟩ := q
      simp only [ex] at po
      exact ⟨F, α, env, cs, ab, en, (rs_of po en).imp fun F1 α1 H1 cs1 d s1 p1 a1 po1 v r => po1 F1 α1 H1 v same_rf (List.prefix_refl _) a1 r⟩
    · split at h
      · refine PS.weak ps_retN fun D σ H q => ?_
        obtain ⟨F, α, env, cs, ab, en, po⟩ := q
        simp only [ex, ev] at po
        exact po F α H .non same_rf (List.prefix_refl _) ab rfl
      · cases h
    · cases h
  | .raise k, W, X, s, g, c, h => by
    simp only [mS] at h
    split at h
    · simp only [Bool.and_eq_true, decide_eq_true_eq] at h
      exact ps_raise' g c h.1 h.2
    · cases h
  | .pass, W, X, s, g, c, h => by
    simp only [mS] at h
    split at h
    · refine PS.weak ps_pass fun D σ H q => ?_
      obtain ⟨F, α, env, cs, ab, en, po⟩ := q
      simp only [ex] at po
      exact rs_here po ab en
    · cases h
  | .brk, W, X, s, g, c, h => by
    simp only [mS] at h
    split at h
    · refine PS.weak ps_break fun D σ H q => ?_
      obtain ⟨F, α, env, cs, ab, en, po⟩ := q
      simp only [ex] at po
      exact po F α H σ same_rf (List.prefix_refl _) ab en
    · cases h
  | .cont, W, X, s, g, c, h => by
    simp only [mS] at h
    split at h
    · refine PS.weak ps_continue fun D σ H q => ?_
      obtain ⟨F, α, env, cs, ab, en, po⟩ := q
      simp only [ex] at po
      exact po F α H σ same_rf (List.prefix_refl _) ab en
    · cases h
  | .tryq body hs, W, X, s, g, c, h => by
    simp only [mS] at h
    split at h
    · simp only [Bool.and_eq_true] at h
      obtain ⟨l, hl, hk⟩ := hdn_of g c _ _ h.2
      have hf : X.env.frame = some X.env.locals := by rw [g.lc]; exact g.g.fr
      refine PS.weak (ps_try_nm g.st hf g.g.nd g.takes (tb := fun W' => tS G W' (exs call body)) (fun W' pn xe tk hp => mSs_ok body W' (X.tr pn xe) _ (good_tr g tk hp) c h.1) hl) fun D σ H q => ?_
      obtain ⟨F, α, env, cs, ab, en, po⟩ := q
      simp only [ex] at po
      refine ⟨F, α, env, cs, ab, en, ?_⟩
      cases hr : exs call body env cs with
      | exc x env' cs' => rw [hr] at po; exact fun F' α' H' σ' cls dx => hk po F' α' H' σ' cls dx
      | next env' cs' => rw [hr] at po; exact po
      | ret d cs' => rw [hr] at po; exact po
      | brk env' cs' => rw [hr] at po; exact po
      | cont env' cs' => rw [hr] at po; exact po
      | stuck => rw [hr] at po; exact po
    · cases h
theorem mSs_ok : ∀ (ts : List S) (W : WX) (X : Cx) (ss : List Stmt), GoodS G C W L call X → Cls G C X.K X.mg → mSs C ts X.env.scope ss = true → PSs X ss (tS G W (exs call ts))
  | [], W, X, [], g, c, h => by
    refine PSs.weak pss_nil fun D σ H q => ?_
    obtain ⟨F, α, env, cs, ab, en, po⟩ := q
    simp only [exs] at po
    exact rs_here po ab en
  | [], W, X, _ :: _, g, c, h => by simp [mSs] at h
  | _ :: _, W, X, [], g, c, h => by simp [mSs] at h
  | t :: ts, W, X, s :: ss, g, c, h => by
    simp only [mSs, Bool.and_eq_true] at h
    refine PSs.weak (pss_cons (mS_ok t W X s g c h.1) (mSs_ok ts W X ss g c h.2)) fun D σ H q => ?_
    obtain ⟨F, α, env, cs, ab, en, po⟩ := q
    simp only [exs] at po
    exact ⟨F, α, env, cs, ab, en, seq_of po⟩
end
end
end PV
end

section
set_option Elab.async false
set_option linter.all false
set_option maxRecDepth 100000
set_option maxHeartbeats 4000000
set_option autoImplicit false
/-! Defs: what a call of the code gives, a call of the def gives. -/
namespace PV
open PySem PySem.Spec PyProof.Rows L2
section
variable {G : Gt} {W : WX} {F F' H' : Hp} {α α' : List Addr} {cs cs' : Cells}
/-- the first cells alone -/
theorem Ab.take (ab : Ab G F' α' H' cs') (n : Nat) : Ab G F' (α'.take n) H' (cs'.take n) := by
  refine ⟨ab.sub, by simp [ab.len], ab.nd.sublist (List.take_sublist n α'), fun m b c eb ec => ?_⟩
  rw [List.getElem?_take] at eb ec
  split at eb
  · next h => rw [if_pos h] at ec; exact ab.cell m b c eb ec
  · cases eb
theorem take_pre (p : α <+: α') {n : Nat} (h : α.length = n) : α'.take n = α := by
  obtain ⟨t, rfl⟩ := p
  subst h
  simp
/-- what a call gives back -/
theorem endD_ok (ab : Ab G F' α' H' cs') {n0 : Nat} (hn : n0 ≤ α'.length) {d : D} {v : V} (r : RepV G F' α' d v) (keep : Bool) : ∃ d2 cs2 F2 α2, endD keep n0 d cs' = .ok d2 cs2 ∧ Same F' F2 ∧ α'.take n0 <+: α2 ∧ Ab G F2 α2 H' cs2 ∧ RepV G F2 α2 d2 v := by
  have htk := ab.take n0
  have plain : ∀ d : D, isOwn d = false → RepV G F' α' d v → endD keep n0 d cs' = .ok d (cs'.take n0) → ∃ d2 cs2 F2 α2, endD keep n0 d cs' = .ok d2 cs2 ∧ Same F' F2 ∧ α'.take n0 <+: α2 ∧ Ab G F2 α2 H' cs2 ∧ RepV G F2 α2 d2 v := fun d hd r e =>
    ⟨d, _, F', _, e, same_rf, List.prefix_refl _, htk, by cases d <;> first | exact r | simp [isOwn] at hd⟩
  cases d with
  | own n =>
    obtain ⟨a, ea, rfl⟩ := r
    have hlt := (List.getElem?_eq_some_iff.mp ea).1
    by_cases h : n < n0
    · refine ⟨.own n, cs'.take n0, F', _, by simp only [endD, h, if_true], same_rf, List.prefix_refl _, htk, a, ?_, rfl⟩
      rw [List.getElem?_take, if_pos h]
      exact ea
    · have hc : n < cs'.length := by rw [← ab.len]; exact hlt
      have ec : cs'[n]? = some cs'[n] := List.getElem?_eq_getElem hc
      obtain ⟨o, h1, h2, h3, h4⟩ := (ab.cell n a _ ea ec).ho
      have hna : a ∉ α'.take n0 := fun hm => by
        obtain ⟨m, hm1, hm2⟩ := List.mem_iff_getElem.mp hm
        have hm3 : α'[m]? = some a := by
          have : (α'.take n0)[m]? = some a := by rw [List.getElem?_eq_getElem hm1, hm2]
          rw [List.getElem?_take] at this
          split at this
          · exact this
          · cases this
        have := nodup_at ab.nd hm3 ea
        subst this
        simp at hm1
        omega
      by_cases hk : (keep && cs'[n].mu) = true
      · have hmu : cs'[n].mu = true := by simp only [Bool.and_eq_true] at hk; exact hk.2
        refine ⟨.own n0, cs'.take n0 ++ [cs'[n]], F', α'.take n0 ++ [a], by simp only [endD, h, if_false, ec, hk, if_true], same_rf, List.prefix_append _ _, ?_, a, ?_, rfl⟩
        · have hl : (α'.take n0).length = (cs'.take n0).length := htk.len
          refine ⟨ab.sub, by simp [hl], ?_, fun m b c eb ec2 => ?_⟩
          · rw [List.nodup_append]
            refine ⟨htk.nd, by simp, fun b hb c hc => ?_⟩
            simp only [List.mem_singleton] at hc
            subst hc
            intro e
            subst e
            exact hna hb
          · by_cases hm : m < (cs'.take n0).length
            · rw [List.getElem?_append_left hm] at ec2
              rw [List.getElem?_append_left (by omega)] at eb
              exact htk.cell m b c eb ec2
            · have hm' : m = (cs'.take n0).length := by
                have := (List.getElem?_eq_some_iff.mp ec2).1
                simp only [List.length_append, List.length_singleton] at this
                omega
              subst hm'
              rw [List.getElem?_append_right (by omega)] at ec2 eb
              rw [hl] at eb
              simp only [Nat.sub_self, List.getElem?_cons_zero, Option.some.injEq] at eb ec2
              subst eb ec2
              exact ⟨⟨o, h1, h2, h3, h4⟩⟩
        · have hl : (α'.take n0).length = n0 := by rw [List.length_take]; omega
          rw [List.getElem?_append_right (by omega), hl]
          simp
      · have e : endD keep n0 (.own n) cs' = .ok cs'[n].d (cs'.take n0) := by simp only [endD, h, if_false, ec, hk]; rfl
        cases hmu : cs'[n].mu with
        | false => exact ⟨_, _, F', _, e, same_rf, List.prefix_refl _, htk, rep_v (h2.rep (h4 hmu))⟩
        | true =>
          have s := same_up (o := o) (h3 hmu)
          exact ⟨_, _, upd F' a o, _, e, s, List.prefix_refl _, htk.keep (h3 hmu) hna h1, rep_v ((h2.mono s).rep upd_same)⟩
  | non => exact plain _ rfl r rfl
  | bl b => exact plain _ rfl r rfl
  | int i => exact plain _ rfl r rfl
  | str x => exact plain _ rfl r rfl
  | tup xs => exact plain _ rfl r rfl
  | lst xs => exact plain _ rfl r rfl
  | scr xs => exact plain _ rfl r rfl
  | dic xs => exact plain _ rfl r rfl
  | fn k => exact plain _ rfl r rfl
  | ty t => exact plain _ rfl r rfl
/-- a def's body, its ends -/
theorem endS_ok {E : XK} {keep : Bool} {n0 : Nat} {r : RS} {Q : VK} (hn : α.length = n0) (po : Post G (fun cls dx _ H => E cls dx H) [] F α (endS keep n0 r) fun F' α' H' _ d => ∀ v, RepV G F' α' d v → Q v H') :
    PostS G (fun cls dx _ H => E cls dx H) F α r { nx := fun _ H' => Q .non H', rt := Q } := by
  have back : ∀ {α' : List Addr}, α <+: α' → α <+: α'.take n0 ∧ n0 ≤ α'.length := fun {α'} p => ⟨by rw [take_pre p hn]; exact List.prefix_refl _, by obtain ⟨t, rfl⟩ := p; rw [List.length_append]; omega⟩
  cases r with
  | next env cs =>
    intro F' α' H' σ' s p ab en
    exact po F' _ H' s (back p).1 (ab.take n0) .non rfl
  | ret d cs =>
    intro F' α' H' v s p ab r
    obtain ⟨d2, cs2, F2, α2, e, s2, p2, ab2, r2⟩ := endD_ok ab (back p).2 r keep
    simp only [endS, e] at po
    exact po F2 α2 H' (same_tr s s2) ((back p).1.trans p2) ab2 v r2
  | brk env cs => exact po.elim
  | cont env cs => exact po.elim
  | exc x env cs =>
    intro F' α' H' σ' cls dx s p ab en ex
    exact po F' _ H' cls dx s (back p).1 (ab.take n0) ex
  | stuck => exact po.elim
end
/-- a def's text -/
structure Dt where
  name : Str
  params : Arguments
  body : List Stmt
  scope : Scope
  ps : List Str
  N : List Str
def Dt.at_ (t : Dt) : He.DefD := ⟨(t.name, none), t.name, t.name, t.params, t.body, t.scope, [], []⟩
def isFun : ScopeKind → Bool
  | .function => true
  | _ => false
def scopeB (N P : List Str) (sc : Scope) : Bool := isFun sc.kind && !sc.isCoroutine && !sc.isGenerator && decide N.Nodup && decide (N.take P.length = P) && (P.all fun x => decide (sc.names.lookup x = some .local) || decide (sc.names.lookup x = some .cell)) &&
  (sc.names.all fun y => match y.2 with | .free => false | _ => true)
theorem scopeB_ok {N P : List Str} {sc : Scope} (h : scopeB N P sc = true) : FnScope N P sc := by
  unfold scopeB at h
  simp only [Bool.and_eq_true, Bool.not_eq_true', decide_eq_true_eq, List.all_eq_true, Bool.or_eq_true] at h
  obtain ⟨⟨⟨⟨⟨⟨h1, h2⟩, h3⟩, h4⟩, h5⟩, h6⟩, h7⟩ := h
  refine ⟨?_, h2, h3, h4, h5, h6, fun y hy e => ?_⟩
  · revert h1
    cases sc.kind <;> simp [isFun]
  · have := h7 y hy
    rw [e] at this
    cases this
def dfB (C : Mc) (df : Df) (t : Dt) : Bool := scopeB t.N t.ps t.scope && decide (df.np = t.ps.length) && decide (df.nl = t.N.length) && mSs { C with N := t.N } df.body t.scope t.body
def BindOk (t : Dt) : Prop := ∀ (kV doc pm : Value) (an : Option Addr) (cdv ct : Value) (us : List Value), us.length = t.ps.length → bindArgs (PySem.W.fnOf t.name t.name t.params t.body t.scope .none kV doc pm an cdv ct) ⟨us, []⟩ = pure (t.ps.zip us)
/-- what the module's head leaves -/
structure Prog (G : Gt) (C : Mc) (mg : Str → Option Value) (ds : List Df) (ts : List Dt) : Prop where
  free : ∀ x ∈ blts, mg x = none
  gi : ∀ p ∈ C.gi, ∃ t, mg p.1 = some (.int p.2 t)
  gs : ∀ p ∈ C.gs, ∃ t, mg p.1 = some (.str p.2 t)
  fn : ∀ k x, C.nm[k]? = some x → ∃ f, G.fa k = some f ∧ mg x = some (.ref f)
  cls : Cls G C G.K mg
  df : ∀ k f, G.fa k = some f → ∃ t df fd, ts[k]? = some t ∧ ds[k]? = some df ∧ FunD G.K t.name t.name t.params t.body t.scope [] [] f fd ∧ dfB C df t = true ∧ BindOk t
section
variable {G : Gt} {C : Mc} {mg : Str → Option Value} {ds : List Df} {ts : List Dt} {P : Program} {w : World} {base : Heap}
theorem start_env {F H : Hp} {α : List Addr} {as : List D} {vs : List V} {N : List Str} {m : Nat} (r : RepVs G F α as vs) (hm : m = N.length) : EnvR G F α (as.map some ++ List.replicate (m - as.length) none) (start N vs) := by
  have hl := r.len
  subst hm
  refine ⟨by simp [L2.start, hl], fun i d e => ?_⟩
  by_cases hi : i < as.length
  · rw [List.getElem?_append_left (by simpa using hi), List.getElem?_map] at e
    rw [L2.start, List.getElem?_append_left (by rw [List.length_map]; omega), List.getElem?_map]
    cases hd : as[i]? with
    | none => rw [hd] at e; cases e
    | some d' =>
      rw [hd] at e
      cases e
      have : ∀ {as : List D} {vs : List V} {i : Nat} {d : D}, RepVs G F α as vs → as[i]? = some d → ∃ v, vs[i]? = some v ∧ RepV G F α d v := by
        intro as
        induction as with
        | nil => intro vs i d r e; simp at e
        | cons a as ih =>
          intro vs i d r e
          obtain ⟨v, vr, rfl, r1, r2⟩ := r
          cases i with
          | zero => simp at e; subst e; exact ⟨v, rfl, r1⟩
          | succ i =>
            obtain ⟨u, e1, r3⟩ := ih (i := i) r2 (by simpa using e)
            exact ⟨u, by simpa using e1, r3⟩
      obtain ⟨v, e1, r1⟩ := this r hd
      exact ⟨v, by rw [e1]; rfl, r1⟩
  · rw [List.getElem?_append_right (by simpa using hi)] at e
    have := List.mem_of_getElem? e
    simp at this
theorem prog_ok (p : Prog G C mg ds ts) : ∀ (n k : Nat) (f : Addr), G.fa k = some f → ∃ t fd, ts[k]? = some t ∧ FnOk P w G.K mg base (L2.CX P w) n f fd t.ps (spOf G (callN ds n) k) ∧ PySem.W.keepIn G.K (.ref f) = true ∧ Binds G.K fd t.ps [] ∧ (∃ x q a b s dv kw, FunD G.K x q a b s dv kw f fd)
  | 0, k, f, hf => by
    obtain ⟨t, df, fd, e1, e2, F, hd, hb⟩ := p.df k f hf
    refine ⟨t, fd, e1, ⟨fun vs H Q E h => ?_, fun A outer s H args us vs Q E _ _ _ _ h => ?_⟩, F.kp, F.bindsN hb, _, _, _, _, _, _, _, F⟩
    · obtain ⟨_, _, _, _, _, _, po⟩ := h
      exact po.elim
    · obtain ⟨_, _, _, _, _, _, po⟩ := h
      exact po.elim
  | n + 1, k, f, hf => by
    obtain ⟨t, df, fd, e1, e2, F, hd, hb⟩ := p.df k f hf
    unfold dfB at hd
    simp only [Bool.and_eq_true, decide_eq_true_eq] at hd
    obtain ⟨⟨⟨d1, d2⟩, d3⟩, d4⟩ := hd
    have S := scopeB_ok d1
    have ih := prog_ok p n
    have take : ∀ vs H Q E, spOf G (callN ds (n + 1)) k vs H Q E → ∃ F α as cs, Ab G F α H cs ∧ RepVs G F α as vs ∧ as.length = df.np ∧ Post G (fun cls dx _ H => E cls dx H) [] F α (endS df.keep cs.length (exs (callN ds n) df.body (as.map some ++ List.replicate (df.nl - df.np) none) cs)) fun F' α' H' _ d => ∀ v, RepV G F' α' d v → Q v H' := fun vs H Q E h => by
      obtain ⟨F, α, as, cs, ab, r, po⟩ := h
      simp only [callN, e2] at po
      split at po
      · next hl => exact ⟨F, α, as, cs, ab, r, hl, po⟩
      · exact po.elim
    refine ⟨t, fd, e1, F.ok S (fun vs H Q E h => ?_) (fun cdv A outer s H vs Q E hr h => ?_), F.kp, F.bindsN hb, _, _, _, _, _, _, _, F⟩
    · obtain ⟨F, α, as, cs, ab, r, hl, po⟩ := take vs H Q E h
      rw [← r.len, hl, d2]
    · obtain ⟨F, α, as, cs, ab, r, hl, po⟩ := take vs H Q E h
      have tk : Takes (cxOf (L2.CX P w) P w G.K mg base t.N t.name t.scope f cdv A outer s H E) (fun cls d _ H => E cls d H) := takes_of (E := E) rfl rfl rfl rfl
      have g : GoodS G { C with N := t.N } (fun cls d _ H => E cls d H) s.heap.objs.size (callN ds n) (cxOf (L2.CX P w) P w G.K mg base t.N t.name t.scope f cdv A outer s H E) := by
        refine ⟨⟨rfl, rfl, rfl, S.nd, ?_, rfl, ⟨_, _, rfl, rfl⟩, p.free, p.gi, p.gs, p.fn, fun k' f' hf' => ?_, fun u s' x => tk u s' (Air.to rfl x)⟩, rfl, rfl, passes_of rfl, rfl, S.kind⟩
        · have := hr.un
          show (A.deeper _).units + 200 < cLine
          omega
        · obtain ⟨t', fd', _, F', kp', b', _⟩ := ih k' f' hf'
          exact ⟨n, fd', t'.ps, F', hr, kp', b'⟩
      refine ⟨tS G (fun cls d _ H => E cls d H) (exs (callN ds n) df.body), mSs_ok df.body _ _ _ g ⟨p.cls.nm, p.cls.made, p.cls.kp, p.cls.mt, p.cls.iv⟩ d4, F, α, _, cs, ab, ?_, endS_ok ab.len po⟩
      rw [← hl]
      exact start_env (H := H) r d3
/-- the law, where the code says True -/
theorem law_sp {n k : Nat} {a : Addr} {is : List Int} {H : Hp} (hS : SqL G.K H a (is.map V.int)) {c : Cells} (h : callN ds n k [.scr (is.map D.int)] [] = .ok (.bl true) c) : spOf G (callN ds n) k [.ref a] H (fun v _ => v = .bl true) fun _ _ _ => False := by
  refine ⟨H, [], [.scr (is.map D.int)], [], ⟨same_rf, rfl, List.nodup_nil, fun n a c e => by simp at e⟩, ⟨.ref a, [], rfl, ⟨a, _, rfl, hS, ?_⟩, rfl⟩, ?_⟩
  · induction is with
    | nil => rfl
    | cons i is ih => exact ⟨.int i, _, rfl, rfl, by
        have : ∀ l : List Int, Reps G H (l.map D.int) (l.map V.int) := by
          intro l
          induction l with
          | nil => rfl
          | cons b l ih2 => exact ⟨.int b, _, rfl, rfl, ih2⟩
        exact this is⟩
  · rw [h]
    exact fun F' α' H' s p ab v r => r
/-- nothing is let out -/
theorem fn_cx0 {K : PySem.W.Frag} {j : Nat} {f : Addr} {fd : FuncData} {ps : List Str} {sp : Sp} (F : FnOk P w K mg base (L2.CX P w) j f fd ps sp) : FnOk P w K mg base L2.CX0 j f fd ps (fun vs H Q _ => sp vs H Q fun _ _ _ => False) := by
  refine ⟨fun vs H Q E h => F.len vs H Q _ h, fun A outer s H args us vs Q E hr he hb hv hs => ?_⟩
  refine codeAny_mono (F.run A outer s H args us vs Q _ hr he hb hv hs) fun r s' hq => ?_
  cases r with
  | ok fl => cases fl <;> exact hq
  | error e =>
    obtain ⟨a, B, H', cls, d, _, _, _, _, _, _, _, hE⟩ := hq
    exact hE.elim
end
end PV
end

section
set_option Elab.async false
set_option linter.all false
set_option maxRecDepth 100000
set_option maxHeartbeats 4000000
set_option autoImplicit false
/-! The module's head; the law. -/
namespace PV
open PySem PySem.Spec PyProof.Rows L2
/-- what is asked of an exception's class beyond the head's own facts -/
def exB (K : PySem.W.Frag) (A : Addr) : Bool :=
  He.eqO (PySem.W.findIn K (.ref A) "__getattribute__") (some (some (.builtin "BaseException.__getattribute__"))) && (He.eqO (PySem.W.findIn K (.ref A) "__getattr__") (some none) && (decide (PySem.W.subIn K (.ref A) (.type "BaseException") = some true) && (PySem.W.hasDictIn K A &&
    (He.eqO (PySem.W.findIn K (.ref A) "__class__") (some (some (.builtin "object.__class__"))) && (He.eqO (PySem.W.specialIn K (.builtin "object.__class__") "__get__") (some (some (.builtin "getset_descriptor.__get__"))) &&
      (decide (PySem.W.takesIn K (.builtin "object.__class__") = some true) && (decide (PySem.W.mroIn K A (.type "object") = some true) && decide (PySem.W.kitOne K (.ref A) (.type "ValueError") = some true))))))))
theorem exB_ok {K : PySem.W.Frag} {A : Addr} (h : exB K A = true) : ExcC K A ∧ PySem.W.kitOne K (.ref A) (.type "ValueError") = some true := by
  unfold exB at h
  simp only [Bool.and_eq_true, decide_eq_true_eq] at h
  obtain ⟨h1, h2, h3, h4, h5, h6, h7, h8, h9⟩ := h
  exact ⟨⟨He.eqO_ok h1, He.eqO_ok h2, h3, h4, He.eqO_ok h5, He.eqO_ok h6, h7, h8⟩, h9⟩
def faOf (C : Mc) : List He.Fa := C.nm.map .glo ++ (C.cl.map .glo ++ (C.cl.map .exc ++ ((C.cl.flatMap fun x => C.cl.map fun y => .exm x y (decide (y = x))) ++ (blts.map .free ++ ((C.gi.map fun p => .int p.1 p.2) ++ C.gs.map fun p => .str p.1 p.2)))))
abbrev AlP : Type := He.AlD × Bool
def obsK (C : Mc) (ts : List Dt) (K : PySem.W.Frag) : AlP := (He.obsD (faOf C) (ts.map Dt.at_) K, C.cl.all fun x => exB K (He.ga K x))
def obsP (n : Nat) (C : Mc) (ts : List Dt) (g : Addr → Option Obj) : AlP := obsK C ts (He.frG g (He.asD g n))
def valP (ts : List Dt) : AlP := (He.valD (ts.map Dt.at_), true)
def hookP (n : Nat) (C : Mc) (ts : List Dt) : PySem.W.Hook where
  α := AlP
  obs := fun s => obsP n C ts s.heap.get?
  val := fun _ => valP ts
  says := fun _ h => ∃ K : PySem.W.Frag, K.In h ∧ obsK C ts K = valP ts
  of := fun _ _ e => ⟨_, He.frG_in, e⟩
  keeps := fun _ _ _ z k => z.elim fun K z => ⟨K, PySem.W.Frag.In.keeps z.1 k, z.2⟩
theorem obsP_eq {n : Nat} {C : Mc} {ts : List Dt} {g : Addr → Option Obj} {s : Shared} (h : ∀ a, g a = s.heap.get? a) : obsP n C ts g = (hookP n C ts).obs s := by
  have e : g = s.heap.get? := funext h
  rw [e] <;> rfl
def dfAll (C : Mc) : List Df → List Dt → Bool
  | [], [] => true
  | d :: ds, t :: ts => dfB C d t && dfAll C ds ts
  | _, _ => false
theorem dfAll_at {C : Mc} : ∀ {ds : List Df} {ts : List Dt} {k : Nat} {t : Dt}, dfAll C ds ts = true → ts[k]? = some t → ∃ d, ds[k]? = some d ∧ dfB C d t = true
  | [], [], _, _, _, e => by simp at e
  | [], _ :: _, _, _, h, _ => by simp [dfAll] at h
  | _ :: _, [], _, _, h, _ => by simp [dfAll] at h
  | d :: ds, t :: ts, 0, t', h, e => by
    simp only [dfAll, Bool.and_eq_true] at h
    simp only [List.getElem?_cons_zero, Option.some.injEq] at e
    subst e
    exact ⟨d, rfl, h.1⟩
  | d :: ds, t :: ts, k + 1, t', h, e => by
    simp only [dfAll, Bool.and_eq_true] at h
    simp only [List.getElem?_cons_succ] at e
    obtain ⟨d', e1, e2⟩ := dfAll_at h.2 e
    exact ⟨d', e1, e2⟩
def BindAll : List Dt → Prop
  | [] => True
  | t :: ts => BindOk t ∧ BindAll ts
theorem bindAll_at : ∀ {ts : List Dt} {t : Dt}, BindAll ts → t ∈ ts → BindOk t
  | [], _, _, e => by cases e
  | t :: ts, t', h, e => by
    rcases List.mem_cons.mp e with rfl | e
    · exact h.1
    · exact bindAll_at h.2 e
def gtOf (C : Mc) (K : PySem.W.Frag) : Gt := ⟨fun k => (C.nm[k]?).map (He.ga K), fun k => (C.cl[k]?).map (He.ga K), K⟩
section
variable {C : Mc} {ds : List Df} {ts : List Dt} {K : PySem.W.Frag} {h : Heap} {mg : Str → Option Value} {P : Program} {w : World}
theorem prog_of (X : K.In h) (M : h.Ns mainGlobals mg) (c : obsK C ts K = valP ts) (hn : ts.map (·.name) = C.nm) (hnd : C.cl.Nodup) (hd : dfAll C ds ts = true) (hb : BindAll ts) : Prog (gtOf C K) C mg ds ts := by
  have c1 : He.SaysD (faOf C) (ts.map Dt.at_) K := congrArg (fun z : AlP => z.1) c
  have c2 : (C.cl.all fun x => exB K (He.ga K x)) = true := congrArg (fun z : AlP => z.2) c
  have fact : ∀ f ∈ faOf C, f.ok K = true := fun f hf => by
    obtain ⟨i, hi, e⟩ := List.mem_iff_getElem.mp hf
    exact c1.fact i (by rw [← e]; exact List.getElem?_eq_getElem hi)
  have at_nm : ∀ x ∈ C.nm, mg x = some (.ref (He.ga K x)) := fun x hx => He.glo_ok X M (fact _ (by unfold faOf; exact List.mem_append_left _ (List.mem_map_of_mem hx)))
  have at_cl : ∀ x ∈ C.cl, mg x = some (.ref (He.ga K x)) := fun x hx => He.glo_ok X M (fact _ (by unfold faOf; exact List.mem_append_right _ (List.mem_append_left _ (List.mem_map_of_mem hx))))
  refine ⟨fun x hx => He.free_ok X M (fact (.free x) ?_), fun p hp => He.int_ok X M (fact (.int p.1 p.2) ?_), fun p hp => He.str_ok X M (fact (.str p.1 p.2) ?_), fun k x e => ?_, ⟨fun k x e => ?_, fun k A e => ?_, fun k A e => ?_, fun k k' A A' e e' => ?_, fun k A e => ?_⟩, fun k f e => ?_⟩
  · unfold faOf
    simp only [List.mem_append, List.mem_map]
    exact .inr (.inr (.inr (.inr (.inl ⟨x, hx, rfl⟩))))
  · unfold faOf
    simp only [List.mem_append, List.mem_map]
    exact .inr (.inr (.inr (.inr (.inr (.inl ⟨p, hp, rfl⟩)))))
  · unfold faOf
    simp only [List.mem_append, List.mem_map]
    exact .inr (.inr (.inr (.inr (.inr (.inr ⟨p, hp, rfl⟩)))))
  · exact ⟨He.ga K x, by show (C.nm[k]?).map _ = _; rw [e]; rfl, at_nm x (List.mem_of_getElem? e)⟩
  · exact ⟨He.ga K x, by show (C.cl[k]?).map _ = _; rw [e]; rfl, at_cl x (List.mem_of_getElem? e)⟩
  all_goals first
    | (obtain ⟨x, ex, rfl⟩ : ∃ x, C.cl[k]? = some x ∧ He.ga K x = A := by
        have e : (C.cl[k]?).map (He.ga K) = some A := e
        cases hx : C.cl[k]? with
        | none => rw [hx] at e; cases e
        | some x => rw [hx] at e; exact ⟨x, rfl, Option.some.inj e⟩)
    | skip
  · obtain ⟨h1, _, _, _⟩ := He.exc_ok (fact (.exc x) (by unfold faOf; simp only [List.mem_append, List.mem_map]; exact .inr (.inr (.inl ⟨x, List.mem_of_getElem? ex, rfl⟩))))
    exact ⟨_, _, _, _, PySem.F.excBase_ValueError, h1⟩
  · obtain ⟨_, h2, h3, h4⟩ := He.exc_ok (fact (.exc x) (by unfold faOf; simp only [List.mem_append, List.mem_map]; exact .inr (.inr (.inl ⟨x, List.mem_of_getElem? ex, rfl⟩))))
    exact ⟨h2, h3, h4⟩
  · obtain ⟨x', ex', rfl⟩ : ∃ x, C.cl[k']? = some x ∧ He.ga K x = A' := by
      have e : (C.cl[k']?).map (He.ga K) = some A' := e'
      cases hx : C.cl[k']? with
      | none => rw [hx] at e; cases e
      | some x => rw [hx] at e; exact ⟨x, rfl, Option.some.inj e⟩
    have hf := He.exm_ok (fact (.exm x' x (decide (x = x'))) (by
      unfold faOf
      simp only [List.mem_append, List.mem_map, List.mem_flatMap]
      exact .inr (.inr (.inr (.inl ⟨x', List.mem_of_getElem? ex', x, List.mem_of_getElem? ex, rfl⟩)))))
    refine hf.trans (congrArg some ?_)
    by_cases hk : k = k'
    · subst hk
      rw [ex] at ex'
      cases ex'
      simp
    · have : x ≠ x' := fun z => hk (by subst z; exact nodup_ix hnd ex ex')
      simp [hk, this]
  · exact exB_ok (List.all_eq_true.mp c2 x (List.mem_of_getElem? ex))
  · have e : (C.nm[k]?).map (He.ga K) = some f := e
    cases hx : C.nm[k]? with
    | none => rw [hx] at e; cases e
    | some x =>
      rw [hx] at e
      cases e
      have hx2 := hx
      rw [← hn, List.getElem?_map] at hx2
      cases ht : ts[k]? with
      | none => rw [ht] at hx2; cases hx2
      | some t =>
        rw [ht] at hx2
        cases hx2
        obtain ⟨fd, F⟩ := c1.def_ k (d := t.at_) (by rw [List.getElem?_map, ht]; rfl)
        obtain ⟨d, e1, e2⟩ := dfAll_at hd ht
        exact ⟨t, d, fd, rfl, e1, F, e2, bindAll_at hb (List.mem_of_getElem? ht)⟩
theorem funD_fd {x q a b s dv kw x' q' a' b' s' dv' kw' f fd fd'} (F : FunD K x q a b s dv kw f fd) (F' : FunD K x' q' a' b' s' dv' kw' f fd') : fd = fd' := by
  obtain ⟨_, _, _, _, _, _, _, _, _, _, _, l1, _, _⟩ := F.ex
  obtain ⟨_, _, _, _, _, _, _, _, _, _, _, l2, _, _⟩ := F'.ex
  rw [l1] at l2
  cases l2
  rfl
/-- the law's def keeps the law's promise -/
theorem facts_of {n k m : Nat} {f : Addr} {t : Dt} {x lx : Str} (X : K.In h) (M : h.Ns mainGlobals mg) (hfa : mg lx = some (.ref f)) (c : obsK C ts K = valP ts) (hn : ts.map (·.name) = C.nm) (hnd : C.cl.Nodup) (hd : dfAll C ds ts = true) (hb : BindAll ts)
    (hk : C.nm[k]? = some lx) (ht : ts[k]? = some t) (hps : t.ps = [x]) (hlaw : ∀ is : List Int, is.length ≤ m → ∃ c, callN ds n k [.scr (is.map D.int)] [] = .ok (.bl true) c) :
    ∃ (fd : FuncData) (sp : Sp), (∀ (s : Shared) (u : Value), BindsTo s fd ⟨[u], []⟩ [(x, u)]) ∧
      (∀ (H : Hp) (a : Addr) (ns : List Int), ns.length ≤ m → Only H → SqL K H a (ns.map V.int) → sp [.ref a] H (fun v _ => v = .bl true) fun _ _ _ => False) ∧
      ∀ base : Heap, K.In base → base.Ns mainGlobals mg → FnOk P w K mg base L2.CX0 n f fd [x] sp := by
  have p := prog_of (mg := mg) X M c hn hnd hd hb
  obtain ⟨f', e1, e2⟩ := p.fn k lx hk
  rw [hfa] at e2
  cases e2
  obtain ⟨t', df, fd, e3, e4, F, e5, e6⟩ := p.df k f e1
  rw [ht] at e3
  cases e3
  refine ⟨fd, fun vs H Q _ => spOf (gtOf C K) (callN ds n) k vs H Q fun _ _ _ => False, fun s u => ?_, fun H a ns hl _ hS => ?_, fun base hB hM => ?_⟩
  · have := F.bindsA e6 s [u] (by rw [hps]; rfl)
    rw [hps] at this
    exact this
  · obtain ⟨c, hc⟩ := hlaw ns hl
    exact law_sp (G := gtOf C K) hS hc
  · obtain ⟨t2, fd2, e7, F2, _, _, _, _, _, _, _, _, _, FF⟩ := prog_ok (P := P) (w := w) (base := base) p n k f e1
    rw [ht] at e7
    cases e7
    rw [hps] at F2
    rw [funD_fd F FF]
    exact fn_cx0 F2
end
end PV
end

section
namespace K04
open PV PySem
/-- is_number: thing -/
def c_is_number : Df := ⟨1, 1, false, [(.ret (.and [(.isi (.var 0) [.int]), (.not (.isi (.var 0) [.bool]))]))]⟩
/-- is_long: thing many -/
def c_is_long : Df := ⟨2, 2, false, [(.ret (.and [(.isi (.var 0) [.tuple]), (.cmp .eq (.bi .len [(.var 0)]) (.var 1))]))]⟩
/-- tupled: value own -/
def c_tupled : Df := ⟨1, 2, false, [(.ret (.ite (.isi (.var 0) [.list, .tuple]) (.bi .tuple [(.comp (.call 2 [(.var 1)]) (.nm 1) [1] .seq [(.var 0)] [])]) (.var
  0)))]⟩
/-- divisor_in: one other near far -/
def c_divisor_in : Df := ⟨2, 4, false, [(.par [(.nm 2), (.nm 3)] [(.bi .abs [(.var 0)]), (.bi .abs [(.var 1)])]), (.whl (.cmp .ne (.var 3) (.cst (.int 0)))
  [(.par [(.nm 2), (.nm 3)] [(.var 3), (.bin .mod (.var 2) (.var 3))])]), (.ret (.var 2))]⟩
/-- made: number parts by -/
def c_made : Df := ⟨2, 3, false, [(.set (.nm 2) (.ite (.cmp .gt (.var 1) (.cst (.int 0))) (.call 3 [(.var 0), (.var 1)]) (.bin .sub (.cst (.int 0)) (.call 3
  [(.var 0), (.var 1)])))), (.ret (.tup [(.bin .fdiv (.var 0) (.var 2)), (.bin .fdiv (.var 1) (.var 2))]))]⟩
/-- is_fraction_in: thing -/
def c_is_fraction_in : Df := ⟨1, 1, false, [(.ite (.or [(.not (.call 1 [(.var 0), (.cst (.int 2))])), (.not (.call 0 [(.idx (.var 0) (.cst (.int 0)))])), (.not
  (.call 0 [(.idx (.var 0) (.cst (.int 1)))])), (.cmp .lt (.idx (.var 0) (.cst (.int 1))) (.cst (.int 1)))]) [(.ret (.cst (.bl false)))] []), (.ret (.cmp .eq
  (.call 3 [(.idx (.var 0) (.cst (.int 0))), (.idx (.var 0) (.cst (.int 1)))]) (.cst (.int 1))))]⟩
/-- sure_fraction: fraction own -/
def c_sure_fraction : Df := ⟨1, 2, false, [(.set (.nm 1) (.call 2 [(.var 0)])), (.ite (.or [(.not (.call 5 [(.var 1)])), (.cmp .gt (.bi .max2 [(.bi .abs [(.idx
  (.var 1) (.cst (.int 0)))]), (.idx (.var 1) (.cst (.int 1)))]) (.gint (Str.ofString "MOST_PART") 1000000000000))]) [(.raise 2)] []), (.ret (.var 1))]⟩
/-- plus: one other -/
def c_plus : Df := ⟨2, 2, false, [(.ret (.call 4 [(.bin .add (.bin .mul (.idx (.var 0) (.cst (.int 0))) (.idx (.var 1) (.cst (.int 1)))) (.bin .mul (.idx (.var
  1) (.cst (.int 0))) (.idx (.var 0) (.cst (.int 1))))), (.bin .mul (.idx (.var 0) (.cst (.int 1))) (.idx (.var 1) (.cst (.int 1))))]))]⟩
/-- minus: one other -/
def c_minus : Df := ⟨2, 2, false, [(.ret (.call 4 [(.bin .sub (.bin .mul (.idx (.var 0) (.cst (.int 0))) (.idx (.var 1) (.cst (.int 1)))) (.bin .mul (.idx (.var
  1) (.cst (.int 0))) (.idx (.var 0) (.cst (.int 1))))), (.bin .mul (.idx (.var 0) (.cst (.int 1))) (.idx (.var 1) (.cst (.int 1))))]))]⟩
/-- times: one other -/
def c_times : Df := ⟨2, 2, false, [(.ret (.call 4 [(.bin .mul (.idx (.var 0) (.cst (.int 0))) (.idx (.var 1) (.cst (.int 0)))), (.bin .mul (.idx (.var 0) (.cst
  (.int 1))) (.idx (.var 1) (.cst (.int 1))))]))]⟩
/-- compare: one other near far -/
def c_compare : Df := ⟨2, 4, false, [(.par [(.nm 2), (.nm 3)] [(.bin .mul (.idx (.var 0) (.cst (.int 0))) (.idx (.var 1) (.cst (.int 1)))), (.bin .mul (.idx
  (.var 1) (.cst (.int 0))) (.idx (.var 0) (.cst (.int 1))))]), (.ret (.bin .sub (.cmp .gt (.var 2) (.var 3)) (.cmp .lt (.var 2) (.var 3))))]⟩
/-- total: rows found own -/
def c_total : Df := ⟨1, 3, false, [(.set (.nm 1) (.tup [(.cst (.int 0)), (.cst (.int 1))])), (.for (.nm 2) .seq [(.var 0)] [(.set (.nm 1) (.call 7 [(.var 1),
  (.var 2)]))]), (.ret (.var 1))]⟩
/-- up: fraction -/
def c_up : Df := ⟨1, 1, false, [(.ret (.bin .sub (.cst (.int 0)) (.bin .fdiv (.bin .sub (.cst (.int 0)) (.idx (.var 0) (.cst (.int 0)))) (.idx (.var 0) (.cst
  (.int 1))))))]⟩
/-- down: fraction -/
def c_down : Df := ⟨1, 1, false, [(.ret (.bin .fdiv (.idx (.var 0) (.cst (.int 0))) (.idx (.var 0) (.cst (.int 1)))))]⟩
/-- is_fraction: thing -/
def c_is_fraction : Df := ⟨1, 1, false, [(.ret (.call 5 [(.var 0)]))]⟩
/-- fraction: number parts -/
def c_fraction : Df := ⟨2, 2, false, [(.ite (.or [(.not (.call 0 [(.var 0)])), (.not (.call 0 [(.var 1)])), (.cmp .gt (.bi .max2 [(.bi .abs [(.var 0)]), (.bi
  .abs [(.var 1)])]) (.gint (Str.ofString "MOST_PART") 1000000000000))]) [(.raise 2)] []), (.ite (.cmp .eq (.var 1) (.cst (.int 0))) [(.raise 0)] []), (.ret
  (.call 4 [(.var 0), (.var 1)]))]⟩
/-- sure_two: one other near -/
def c_sure_two : Df := ⟨2, 3, false, [(.set (.nm 2) (.call 6 [(.var 0)])), (.ret (.tup [(.var 2), (.call 6 [(.var 1)])]))]⟩
/-- fraction_sum: one other near far -/
def c_fraction_sum : Df := ⟨2, 4, false, [(.set (.tp [(.nm 2), (.nm 3)]) (.call 16 [(.var 0), (.var 1)])), (.ret (.call 7 [(.var 2), (.var 3)]))]⟩
/-- fraction_less: one other near far -/
def c_fraction_less : Df := ⟨2, 4, false, [(.set (.tp [(.nm 2), (.nm 3)]) (.call 16 [(.var 0), (.var 1)])), (.ret (.call 8 [(.var 2), (.var 3)]))]⟩
/-- fraction_product: one other near far -/
def c_fraction_product : Df := ⟨2, 4, false, [(.set (.tp [(.nm 2), (.nm 3)]) (.call 16 [(.var 0), (.var 1)])), (.ret (.call 9 [(.var 2), (.var 3)]))]⟩
/-- fraction_quotient: one other near far -/
def c_fraction_quotient : Df := ⟨2, 4, false, [(.set (.tp [(.nm 2), (.nm 3)]) (.call 16 [(.var 0), (.var 1)])), (.ite (.cmp .eq (.idx (.var 3) (.cst (.int 0)))
  (.cst (.int 0))) [(.raise 0)] []), (.ret (.call 4 [(.bin .mul (.idx (.var 2) (.cst (.int 0))) (.idx (.var 3) (.cst (.int 1)))), (.bin .mul (.idx (.var 2)
  (.cst (.int 1))) (.idx (.var 3) (.cst (.int 0))))]))]⟩
/-- fraction_compared: one other near far -/
def c_fraction_compared : Df := ⟨2, 4, false, [(.set (.tp [(.nm 2), (.nm 3)]) (.call 16 [(.var 0), (.var 1)])), (.ret (.call 10 [(.var 2), (.var 3)]))]⟩
/-- rounded_down: one -/
def c_rounded_down : Df := ⟨1, 1, false, [(.ret (.call 13 [(.call 6 [(.var 0)])]))]⟩
/-- rounded_up: one -/
def c_rounded_up : Df := ⟨1, 1, false, [(.ret (.call 12 [(.call 6 [(.var 0)])]))]⟩
/-- fractions_total: rows own its -/
def c_fractions_total : Df := ⟨1, 3, false, [(.set (.nm 1) (.call 2 [(.var 0)])), (.ite (.or [(.not (.isi (.var 1) [.tuple])), (.cmp .gt (.bi .len [(.var 1)])
  (.gint (Str.ofString "MOST_SIDE") 40))]) [(.raise 2)] []), (.ret (.call 11 [(.comp (.call 6 [(.var 2)]) (.nm 2) [2] .seq [(.var 1)] [])]))]⟩
/-- _law_box: script k bit_so -/
def c_law_box : Df := ⟨2, 3, true, [(.set (.nm 2) (.ite (.cmp .lt (.var 1) (.bi .len [(.var 0)])) (.idx (.var 0) (.var 1)) (.cst (.int 0)))), (.ret (.mk (.lst
  [(.bin .mul (.bi .abs [(.var 2)]) (.bi .int [(.cmp .ge (.bi .abs [(.var 2)]) (.bin .pow (.cst (.int 10)) (.cst (.int 18))))])), (.bin .add (.bin .add (.bin
  .mod (.bi .int [(.var 2)]) (.cst (.int 2305843009213693951))) (.bin .mul (.cst (.int 39373)) (.var 1))) (.cst (.int 26347704))), (.cst (.int 0))])))]⟩
/-- _law_take: tin below_so once_so wide_so twice_so drawn_so -/
def c_law_take : Df := ⟨2, 6, false, [(.ite (.cmp .gt (.idx (.var 0) (.cst (.int 0))) (.cst (.int 0))) [(.set (.nm 5) (.bin .mod (.bi .int [(.idx (.var 0) (.cst
  (.int 0)))]) (.var 1))), (.sub (.var 0) (.cst (.int 0)) (.bin .fdiv (.idx (.var 0) (.cst (.int 0))) (.var 1))), (.ret (.var 5))] []), (.sub (.var 0) (.cst
  (.int 2)) (.bin .add (.idx (.var 0) (.cst (.int 2))) (.cst (.int 1)))), (.set (.nm 2) (.bin .mod (.bi .int [(.bin .mul (.bin .add (.idx (.var 0) (.cst (.int
  1))) (.bin .mul (.cst (.int 48271)) (.idx (.var 0) (.cst (.int 2))))) (.bin .add (.cst (.int 39373)) (.idx (.var 0) (.cst (.int 2)))))]) (.cst (.int
  2147483647)))), (.set (.nm 3) (.bin .add (.bin .mod (.bi .int [(.var 2)]) (.cst (.int 40009))) (.cst (.int 7)))), (.set (.nm 4) (.bin .mod (.bi .int [(.bin
  .mul (.bin .add (.bin .add (.var 2) (.idx (.var 0) (.cst (.int 2)))) (.bin .fdiv (.idx (.var 0) (.cst (.int 1))) (.cst (.int 1000003)))) (.var 3))]) (.cst
  (.int 2147483629)))), (.ret (.bin .mod (.bi .int [(.bin .fdiv (.bin .mod (.bi .int [(.bin .add (.bin .mul (.var 4) (.cst (.int 48271))) (.var 2))]) (.cst
  (.int 2147483587))) (.cst (.int 64)))]) (.var 1)))]⟩
/-- _law_cells: script most_so cells_so k bit_so at_so -/
def c_law_cells : Df := ⟨2, 6, false, [(.set (.nm 2) (.mk (.or [(.bi .list [(.slc (.var 0) false true (.cst .non) (.var 1))]), (.lst [(.cst (.int 0))])]))),
  (.for (.tp [(.nm 3), (.nm 4)]) .enum [(.slc (.var 0) true true (.var 1) (.cst (.int 63)))] [(.set (.nm 5) (.bin .mod (.bi .int [(.var 3)]) (.var 1))), (.sub
  (.var 2) (.var 5) (.bin .add (.idx (.var 2) (.var 5)) (.bin .mul (.var 4) (.bin .add (.var 3) (.cst (.int 2))))))]), (.ret (.var 2))]⟩
/-- _law_of: tin goods_so -/
def c_law_of : Df := ⟨2, 2, false, [(.ret (.idx (.var 1) (.call 26 [(.var 0), (.bi .len [(.var 1)])])))]⟩
/-- _law_same: got due mine its -/
def c_law_same : Df := ⟨2, 4, false, [(.ite (.isi (.var 1) [.list, .tuple]) [(.ite (.or [(.cmp .ne (.isi (.var 0) [.list]) (.isi (.var 1) [.list])), (.cmp .ne
  (.isi (.var 0) [.tuple]) (.isi (.var 1) [.tuple]))]) [(.ret (.cst (.bl false)))] []), (.ret (.and [(.cmp .eq (.bi .len [(.var 0)]) (.bi .len [(.var 1)])),
  (.bi .all [(.comp (.call 29 [(.var 2), (.var 3)]) (.tp [(.nm 2), (.nm 3)]) [2, 3] .zip [(.var 0), (.var 1)] [])])]))] []), (.ite (.isn false (.var 1)) [(.ret
  (.isn false (.var 0)))] []), (.ite (.isi (.var 1) [.bool, .str]) [(.ret (.and [(.cmp .eq (.isi (.var 0) [.bool]) (.isi (.var 1) [.bool])), (.cmp .eq (.isi
  (.var 0) [.str]) (.isi (.var 1) [.str])), (.cmp .eq (.var 0) (.var 1))]))] []), (.ret (.and [(.isi (.var 0) [.int]), (.not (.isi (.var 0) [.bool])), (.cmp .eq
  (.var 0) (.var 1))]))]⟩
/-- _law_gcd: a_so b_so -/
def c_law_gcd : Df := ⟨2, 2, false, [(.whl (.cmp .ne (.var 1) (.cst (.int 0))) [(.par [(.nm 0), (.nm 1)] [(.var 1), (.bin .mod (.var 0) (.var 1))])]), (.ret
  (.bi .abs [(.var 0)]))]⟩
/-- _law_mixed: tin matter parts_so own -/
def c_law_mixed : Df := ⟨2, 4, false, [(.ite (.not (.isi (.var 1) [.list, .tuple])) [(.ret (.var 1))] []), (.set (.nm 2) (.comp (.call 31 [(.var 0), (.var 3)])
  (.nm 3) [3] .seq [(.var 1)] [])), (.ret (.ite (.cmp .eq (.call 26 [(.var 0), (.cst (.int 2))]) (.cst (.int 0))) (.var 2) (.bi .tuple [(.var 2)])))]⟩
/-- _law_calls: door goods_so -/
def c_law_calls : Df := ⟨2, 2, false, [(.ite (.cmp .eq (.bi .len [(.var 1)]) (.cst (.int 1))) [(.ret (.callv 0 [(.idx (.var 1) (.cst (.int 0)))]))] []), (.ite
  (.cmp .eq (.bi .len [(.var 1)]) (.cst (.int 2))) [(.ret (.callv 0 [(.idx (.var 1) (.cst (.int 0))), (.idx (.var 1) (.cst (.int 1)))]))] []), (.ite (.cmp .eq
  (.bi .len [(.var 1)]) (.cst (.int 3))) [(.ret (.callv 0 [(.idx (.var 1) (.cst (.int 0))), (.idx (.var 1) (.cst (.int 1))), (.idx (.var 1) (.cst (.int 2)))]))]
  []), (.ite (.cmp .eq (.bi .len [(.var 1)]) (.cst (.int 4))) [(.ret (.callv 0 [(.idx (.var 1) (.cst (.int 0))), (.idx (.var 1) (.cst (.int 1))), (.idx (.var 1)
  (.cst (.int 2))), (.idx (.var 1) (.cst (.int 3)))]))] []), (.ret (.callv 0 [(.idx (.var 1) (.cst (.int 0))), (.idx (.var 1) (.cst (.int 1))), (.idx (.var 1)
  (.cst (.int 2))), (.idx (.var 1) (.cst (.int 3))), (.idx (.var 1) (.cst (.int 4)))]))]⟩
/-- _law_heard: door goods_so error caught told_so -/
def c_law_heard : Df := ⟨2, 5, false, [(.par [(.nm 3), (.nm 4)] [(.cst .non), (.cst .non)]), (.tryq [(.set (.nm 4) (.call 32 [(.var 0), (.var 1)]))] [(2, 2, 3,
  [.str (Str.ofString "unfit"), .isi .verr]), (0, 2, 3, [.str (Str.ofString "cannot"), .isi .verr]), (1, 2, 3, [.str (Str.ofString "many"), .isi .verr])]),
  (.ret (.ite (.isn false (.var 3)) (.lst [(.cst (.str (Str.ofString "told"))), (.var 4)]) (.var 3)))]⟩
/-- _law_low: a b own -/
def c_law_low : Df := ⟨2, 3, false, [(.ite (.cmp .lt (.var 1) (.cst (.int 0))) [(.par [(.nm 0), (.nm 1)] [(.neg (.var 0)), (.neg (.var 1))])] []), (.set (.nm 2)
  (.call 30 [(.bi .abs [(.var 0)]), (.var 1)])), (.ret (.tup [(.bin .fdiv (.var 0) (.var 2)), (.bin .fdiv (.var 1) (.var 2))]))]⟩
/-- _law_number: tin -/
def c_law_number : Df := ⟨1, 1, false, [(.ret (.call 28 [(.var 0), (.lst [(.cst (.int 0)), (.cst (.int 1)), (.neg (.cst (.int 1))), (.bin .sub (.call 26 [(.var
  0), (.cst (.int 13))]) (.cst (.int 6))), (.bin .sub (.call 26 [(.var 0), (.cst (.int 13))]) (.cst (.int 6))), (.bin .pow (.cst (.int 10)) (.cst (.int 12))),
  (.neg (.bin .pow (.cst (.int 10)) (.cst (.int 12)))), (.call 26 [(.var 0), (.bin .add (.bin .pow (.cst (.int 10)) (.cst (.int 12))) (.cst (.int 1)))])])]))]⟩
/-- _law_fraction: tin own -/
def c_law_fraction : Df := ⟨1, 2, false, [(.set (.nm 1) (.call 35 [(.var 0)])), (.ret (.call 34 [(.var 1), (.call 28 [(.var 0), (.lst [(.cst (.int 1)), (.cst
  (.int 1)), (.bin .add (.cst (.int 1)) (.call 26 [(.var 0), (.cst (.int 12))])), (.bin .pow (.cst (.int 10)) (.cst (.int 12))), (.bin .add (.cst (.int 1))
  (.call 26 [(.var 0), (.bin .pow (.cst (.int 10)) (.cst (.int 12)))]))])])]))]⟩
/-- _law_right: tin sign_so told_so dues_so rows_so own things_so goods_so bads_so a b one_so two x y c d lap -/
def c_law_right : Df := ⟨1, 18, false, [(.par [(.nm 9), (.nm 10)] [(.call 35 [(.var 0)]), (.call 35 [(.var 0)])]), (.ite (.not (.call 29 [(.call 33 [(.gfn 15),
  (.tup [(.var 9), (.var 10)])]), (.ite (.cmp .ne (.var 10) (.cst (.int 0))) (.lst [(.cst (.str (Str.ofString "told"))), (.call 34 [(.var 9), (.var 10)])])
  (.lst [(.cst (.str (Str.ofString "cannot"))), (.cst (.bl true))]))])) [(.ret (.cst (.bl false)))] []), (.par [(.nm 11), (.nm 12)] [(.call 36 [(.var 0)]),
  (.call 36 [(.var 0)])]), (.par [(.tp [(.nm 9), (.nm 10)]), (.tp [(.nm 15), (.nm 16)])] [(.var 11), (.var 12)]), (.set (.nm 1) (.bin .sub (.bin .mul (.var 9)
  (.var 16)) (.bin .mul (.var 15) (.var 10)))), (.set (.nm 2) (.lst [(.call 17 [(.var 11), (.bi .list [(.var 12)])]), (.call 18 [(.bi .list [(.var 11)]), (.var
  12)]), (.call 19 [(.var 11), (.var 12)]), (.call 21 [(.var 11), (.var 12)]), (.call 21 [(.var 11), (.var 11)]), (.call 22 [(.var 11)]), (.call 23 [(.var
  11)])])), (.set (.nm 3) (.lst [(.call 34 [(.bin .add (.bin .mul (.var 9) (.var 16)) (.bin .mul (.var 15) (.var 10))), (.bin .mul (.var 10) (.var 16))]),
  (.call 34 [(.bin .sub (.bin .mul (.var 9) (.var 16)) (.bin .mul (.var 15) (.var 10))), (.bin .mul (.var 10) (.var 16))]), (.call 34 [(.bin .mul (.var 9) (.var
  15)), (.bin .mul (.var 10) (.var 16))]), (.ite (.cmp .gt (.var 1) (.cst (.int 0))) (.cst (.int 1)) (.ite (.cmp .lt (.var 1) (.cst (.int 0))) (.neg (.cst (.int
  1))) (.cst (.int 0)))), (.cst (.int 0)), (.bin .fdiv (.var 9) (.var 10)), (.neg (.bin .fdiv (.neg (.var 9)) (.var 10)))])), (.ite (.or [(.not (.call 29 [(.var
  2), (.var 3)])), (.not (.call 29 [(.call 33 [(.gfn 20), (.tup [(.var 11), (.var 12)])]), (.ite (.cmp .ne (.var 15) (.cst (.int 0))) (.lst [(.cst (.str
  (Str.ofString "told"))), (.call 34 [(.bin .mul (.var 9) (.var 16)), (.bin .mul (.var 10) (.var 15))])]) (.lst [(.cst (.str (Str.ofString "cannot"))), (.cst
  (.bl true))]))]))]) [(.ret (.cst (.bl false)))] []), (.set (.nm 4) (.bi .tuple [(.comp (.call 36 [(.var 0)]) (.nm 17) [17] .rng [(.call 28 [(.var 0), (.lst
  [(.cst (.int 0)), (.cst (.int 3)), (.cst (.int 40))])])] [])])), (.ite (.cmp .gt (.bi .len [(.var 4)]) (.cst (.int 3))) [(.set (.nm 4) (.bi .tuple [(.comp
  (.call 34 [(.bin .mod (.idx (.var 5) (.cst (.int 0))) (.cst (.int 1000))), (.bin .add (.cst (.int 1)) (.bin .mod (.idx (.var 5) (.cst (.int 1))) (.cst (.int
  60))))]) (.nm 5) [5] .seq [(.var 4)] [])]))] []), (.par [(.nm 13), (.nm 14)] [(.cst (.int 0)), (.cst (.int 1))]), (.for (.nm 5) .seq [(.var 4)] [(.par [(.nm
  13), (.nm 14)] [(.bin .add (.bin .mul (.var 13) (.idx (.var 5) (.cst (.int 1)))) (.bin .mul (.idx (.var 5) (.cst (.int 0))) (.var 14))), (.bin .mul (.var 14)
  (.idx (.var 5) (.cst (.int 1))))]), (.set (.tp [(.nm 13), (.nm 14)]) (.call 34 [(.var 13), (.var 14)]))]), (.ite (.not (.call 29 [(.call 24 [(.call 31 [(.var
  0), (.var 4)])]), (.tup [(.var 13), (.var 14)])])) [(.ret (.cst (.bl false)))] []), (.set (.nm 6) (.lst [(.tup [(.cst (.int 2)), (.cst (.int 4))]), (.tup
  [(.cst (.int 1)), (.cst (.int 0))]), (.tup [(.cst (.int 1)), (.neg (.cst (.int 1)))]), (.lst [(.cst (.int 1)), (.cst (.int 2))]), (.tup [(.cst (.int 1))]),
  (.cst .non), (.tup [(.cst (.bl true)), (.cst (.int 1))]), (.tup [(.cst (.int 1)), (.cst (.int 2)), (.cst (.int 3))]), (.tup [(.cst (.int 0)), (.cst (.int
  2))]), (.tup [(.cst (.str (Str.ofString "1"))), (.cst (.int 2))])])), (.set (.nm 7) (.lst [(.var 11), (.var 12), (.tup [(.cst (.int 0)), (.cst (.int 1))]),
  (.tup [(.neg (.cst (.int 7))), (.cst (.int 3))]), (.tup [(.cst (.int 5)), (.cst (.int 1))]), (.tup [(.bin .pow (.cst (.int 10)) (.cst (.int 30))), (.cst (.int
  1))])])), (.ite (.not (.call 29 [(.comp (.call 14 [(.var 5)]) (.nm 5) [5] .seq [(.bin .add (.var 6) (.var 7))] []), (.bin .add (.bin .mul (.lst [(.cst (.bl
  false))]) (.cst (.int 10))) (.bin .mul (.lst [(.cst (.bl true))]) (.cst (.int 6))))])) [(.ret (.cst (.bl false)))] []), (.set (.nm 8) (.lst [(.call 33 [(.gfn
  15), (.tup [(.bin .add (.bin .pow (.cst (.int 10)) (.cst (.int 12))) (.cst (.int 1))), (.cst (.int 1))])]), (.call 33 [(.gfn 15), (.tup [(.cst (.int 1)),
  (.cst .non)])]), (.call 33 [(.gfn 17), (.tup [(.tup [(.cst (.int 2)), (.cst (.int 4))]), (.tup [(.cst (.int 1)), (.cst (.int 1))])])]), (.call 33 [(.gfn 18),
  (.tup [(.tup [(.cst (.int 1)), (.cst (.int 1))]), (.tup [(.cst (.int 1)), (.bin .add (.bin .pow (.cst (.int 10)) (.cst (.int 12))) (.cst (.int 1)))])])]),
  (.call 33 [(.gfn 19), (.tup [(.cst .non), (.tup [(.cst (.int 1)), (.cst (.int 1))])])]), (.call 33 [(.gfn 20), (.tup [(.tup [(.cst (.int 1)), (.cst (.int
  1))]), (.tup [(.cst (.int 0)), (.cst (.int 2))])])]), (.call 33 [(.gfn 22), (.tup [(.tup [(.cst (.int 1)), (.cst (.int 0))])])]), (.call 33 [(.gfn 24), (.tup
  [(.bin .mul (.tup [(.tup [(.cst (.int 1)), (.cst (.int 1))])]) (.cst (.int 41)))])]), (.call 33 [(.gfn 21), (.tup [(.tup [(.cst (.int 1)), (.cst (.int 1))]),
  (.tup [(.cst (.bl true)), (.cst (.int 1))])])]), (.call 33 [(.gfn 24), (.tup [(.tup [(.tup [(.cst (.int 2)), (.cst (.int 2))])])])])])), (.ret (.cmp .eq (.var
  8) (.bin .mul (.lst [(.lst [(.cst (.str (Str.ofString "unfit"))), (.cst (.bl true))])]) (.cst (.int 10)))))]⟩
/-- law: script cells_so n tin lap -/
def c_law : Df := ⟨1, 5, false, [(.set (.nm 1) (.call 27 [(.var 0), (.cst (.int 2))])), (.for (.nm 2) .rng [(.bi .len [(.var 1)])] [(.set (.nm 3) (.call 25
  [(.var 1), (.var 2)])), (.ite (.not (.bi .all [(.comp (.call 37 [(.var 3)]) (.nm 4) [4] .rng [(.cst (.int 5))] [])])) [(.ret (.cst (.bl false)))] [])]), (.ret
  (.cst (.bl true)))]⟩
def code : List Df := [c_is_number, c_is_long, c_tupled, c_divisor_in, c_made, c_is_fraction_in, c_sure_fraction, c_plus, c_minus, c_times, c_compare, c_total,
  c_up, c_down, c_is_fraction, c_fraction, c_sure_two, c_fraction_sum, c_fraction_less, c_fraction_product, c_fraction_quotient, c_fraction_compared,
  c_rounded_down, c_rounded_up, c_fractions_total, c_law_box, c_law_take, c_law_cells, c_law_of, c_law_same, c_law_gcd, c_law_mixed, c_law_calls, c_law_heard,
  c_law_low, c_law_number, c_law_fraction, c_law_right, c_law]
end K04
end

section
set_option Elab.async false
set_option linter.all false
set_option maxRecDepth 100000
set_option maxHeartbeats 0
namespace K04
open PV PySem PySem.Spec PyProof.Rows L2
def top (i : Nat) : Stmt := PySem.Challenge.pw_partedpairs_k04_whole_fractions_by_own_s.main.body.getD i (.Pass ⟨0, 0, 0, 0⟩)
def nms : List Str := (["is_number", "is_long", "tupled", "divisor_in", "made", "is_fraction_in", "sure_fraction", "plus", "minus", "times", "compare", "total",
  "up", "down", "is_fraction", "fraction", "sure_two", "fraction_sum", "fraction_less", "fraction_product", "fraction_quotient", "fraction_compared",
  "rounded_down", "rounded_up", "fractions_total", "_law_box", "_law_take", "_law_cells", "_law_of", "_law_same"] : List Str) ++ (["_law_gcd", "_law_mixed",
  "_law_calls", "_law_heard", "_law_low", "_law_number", "_law_fraction", "_law_right", "law"] : List Str)
def mc : Mc := ⟨[], nms, [("MOST_SIDE", 40), ("MOST_PART", 1000000000000)], [], ["CanNot", "TooMany", "Unfit"]⟩
def t_is_number : Dt := ⟨"is_number", defArgs (top 5), defBody (top 5), defScope (top 5), ["thing"], ["thing"]⟩
def t_is_long : Dt := ⟨"is_long", defArgs (top 6), defBody (top 6), defScope (top 6), ["thing", "many"], ["thing", "many"]⟩
def t_tupled : Dt := ⟨"tupled", defArgs (top 7), defBody (top 7), defScope (top 7), ["value"], ["value", "own"]⟩
def t_divisor_in : Dt := ⟨"divisor_in", defArgs (top 11), defBody (top 11), defScope (top 11), ["one", "other"], ["one", "other", "near", "far"]⟩
def t_made : Dt := ⟨"made", defArgs (top 12), defBody (top 12), defScope (top 12), ["number", "parts"], ["number", "parts", "by"]⟩
def t_is_fraction_in : Dt := ⟨"is_fraction_in", defArgs (top 13), defBody (top 13), defScope (top 13), ["thing"], ["thing"]⟩
def t_sure_fraction : Dt := ⟨"sure_fraction", defArgs (top 14), defBody (top 14), defScope (top 14), ["fraction"], ["fraction", "own"]⟩
def t_plus : Dt := ⟨"plus", defArgs (top 15), defBody (top 15), defScope (top 15), ["one", "other"], ["one", "other"]⟩
def t_minus : Dt := ⟨"minus", defArgs (top 16), defBody (top 16), defScope (top 16), ["one", "other"], ["one", "other"]⟩
def t_times : Dt := ⟨"times", defArgs (top 17), defBody (top 17), defScope (top 17), ["one", "other"], ["one", "other"]⟩
def t_compare : Dt := ⟨"compare", defArgs (top 18), defBody (top 18), defScope (top 18), ["one", "other"], ["one", "other", "near", "far"]⟩
def t_total : Dt := ⟨"total", defArgs (top 19), defBody (top 19), defScope (top 19), ["rows"], ["rows", "found", "own"]⟩
def t_up : Dt := ⟨"up", defArgs (top 20), defBody (top 20), defScope (top 20), ["fraction"], ["fraction"]⟩
def t_down : Dt := ⟨"down", defArgs (top 21), defBody (top 21), defScope (top 21), ["fraction"], ["fraction"]⟩
def t_is_fraction : Dt := ⟨"is_fraction", defArgs (top 22), defBody (top 22), defScope (top 22), ["thing"], ["thing"]⟩
def t_fraction : Dt := ⟨"fraction", defArgs (top 23), defBody (top 23), defScope (top 23), ["number", "parts"], ["number", "parts"]⟩
def t_sure_two : Dt := ⟨"sure_two", defArgs (top 24), defBody (top 24), defScope (top 24), ["one", "other"], ["one", "other", "near"]⟩
def t_fraction_sum : Dt := ⟨"fraction_sum", defArgs (top 25), defBody (top 25), defScope (top 25), ["one", "other"], ["one", "other", "near", "far"]⟩
def t_fraction_less : Dt := ⟨"fraction_less", defArgs (top 26), defBody (top 26), defScope (top 26), ["one", "other"], ["one", "other", "near", "far"]⟩
def t_fraction_product : Dt := ⟨"fraction_product", defArgs (top 27), defBody (top 27), defScope (top 27), ["one", "other"], ["one", "other", "near", "far"]⟩
def t_fraction_quotient : Dt := ⟨"fraction_quotient", defArgs (top 28), defBody (top 28), defScope (top 28), ["one", "other"], ["one", "other", "near", "far"]⟩
def t_fraction_compared : Dt := ⟨"fraction_compared", defArgs (top 29), defBody (top 29), defScope (top 29), ["one", "other"], ["one", "other", "near", "far"]⟩
def t_rounded_down : Dt := ⟨"rounded_down", defArgs (top 30), defBody (top 30), defScope (top 30), ["one"], ["one"]⟩
def t_rounded_up : Dt := ⟨"rounded_up", defArgs (top 31), defBody (top 31), defScope (top 31), ["one"], ["one"]⟩
def t_fractions_total : Dt := ⟨"fractions_total", defArgs (top 32), defBody (top 32), defScope (top 32), ["rows"], ["rows", "own", "its"]⟩
def t_law_box : Dt := ⟨"_law_box", defArgs (top 34), defBody (top 34), defScope (top 34), ["script", "k"], ["script", "k", "bit_so"]⟩
def t_law_take : Dt := ⟨"_law_take", defArgs (top 35), defBody (top 35), defScope (top 35), ["tin", "below_so"], ["tin", "below_so", "once_so", "wide_so",
  "twice_so", "drawn_so"]⟩
def t_law_cells : Dt := ⟨"_law_cells", defArgs (top 36), defBody (top 36), defScope (top 36), ["script", "most_so"], ["script", "most_so", "cells_so", "k",
  "bit_so", "at_so"]⟩
def t_law_of : Dt := ⟨"_law_of", defArgs (top 37), defBody (top 37), defScope (top 37), ["tin", "goods_so"], ["tin", "goods_so"]⟩
def t_law_same : Dt := ⟨"_law_same", defArgs (top 38), defBody (top 38), defScope (top 38), ["got", "due"], ["got", "due", "mine", "its"]⟩
def t_law_gcd : Dt := ⟨"_law_gcd", defArgs (top 39), defBody (top 39), defScope (top 39), ["a_so", "b_so"], ["a_so", "b_so"]⟩
def t_law_mixed : Dt := ⟨"_law_mixed", defArgs (top 40), defBody (top 40), defScope (top 40), ["tin", "matter"], ["tin", "matter", "parts_so", "own"]⟩
def t_law_calls : Dt := ⟨"_law_calls", defArgs (top 41), defBody (top 41), defScope (top 41), ["door", "goods_so"], ["door", "goods_so"]⟩
def t_law_heard : Dt := ⟨"_law_heard", defArgs (top 42), defBody (top 42), defScope (top 42), ["door", "goods_so"], ["door", "goods_so", "error", "caught",
  "told_so"]⟩
def t_law_low : Dt := ⟨"_law_low", defArgs (top 43), defBody (top 43), defScope (top 43), ["a", "b"], ["a", "b", "own"]⟩
def t_law_number : Dt := ⟨"_law_number", defArgs (top 44), defBody (top 44), defScope (top 44), ["tin"], ["tin"]⟩
def t_law_fraction : Dt := ⟨"_law_fraction", defArgs (top 45), defBody (top 45), defScope (top 45), ["tin"], ["tin", "own"]⟩
def t_law_right : Dt := ⟨"_law_right", defArgs (top 46), defBody (top 46), defScope (top 46), ["tin"], ["tin", "sign_so", "told_so", "dues_so", "rows_so",
  "own", "things_so", "goods_so", "bads_so", "a", "b", "one_so", "two", "x", "y", "c", "d", "lap"]⟩
def t_law : Dt := ⟨"law", defArgs (top 47), defBody (top 47), defScope (top 47), ["script"], ["script", "cells_so", "n", "tin", "lap"]⟩
def ts : List Dt := ([t_is_number, t_is_long, t_tupled, t_divisor_in, t_made, t_is_fraction_in, t_sure_fraction, t_plus, t_minus, t_times, t_compare, t_total,
  t_up, t_down, t_is_fraction, t_fraction, t_sure_two, t_fraction_sum, t_fraction_less, t_fraction_product, t_fraction_quotient, t_fraction_compared,
  t_rounded_down, t_rounded_up, t_fractions_total, t_law_box, t_law_take, t_law_cells, t_law_of, t_law_same] : List Dt) ++ ([t_law_gcd, t_law_mixed,
  t_law_calls, t_law_heard, t_law_low, t_law_number, t_law_fraction, t_law_right, t_law] : List Dt)
theorem binds_ok : BindAll ts := ⟨fun _ _ _ _ _ _ us hl => match us, hl with | [_], _ => rfl,
  fun _ _ _ _ _ _ us hl => match us, hl with | [_, _], _ => rfl,
  fun _ _ _ _ _ _ us hl => match us, hl with | [_], _ => rfl,
  fun _ _ _ _ _ _ us hl => match us, hl with | [_, _], _ => rfl,
  fun _ _ _ _ _ _ us hl => match us, hl with | [_, _], _ => rfl,
  fun _ _ _ _ _ _ us hl => match us, hl with | [_], _ => rfl,
  fun _ _ _ _ _ _ us hl => match us, hl with | [_], _ => rfl,
  fun _ _ _ _ _ _ us hl => match us, hl with | [_, _], _ => rfl,
  fun _ _ _ _ _ _ us hl => match us, hl with | [_, _], _ => rfl,
  fun _ _ _ _ _ _ us hl => match us, hl with | [_, _], _ => rfl,
  fun _ _ _ _ _ _ us hl => match us, hl with | [_, _], _ => rfl,
  fun _ _ _ _ _ _ us hl => match us, hl with | [_], _ => rfl,
  fun _ _ _ _ _ _ us hl => match us, hl with | [_], _ => rfl,
  fun _ _ _ _ _ _ us hl => match us, hl with | [_], _ => rfl,
  fun _ _ _ _ _ _ us hl => match us, hl with | [_], _ => rfl,
  fun _ _ _ _ _ _ us hl => match us, hl with | [_, _], _ => rfl,
  fun _ _ _ _ _ _ us hl => match us, hl with | [_, _], _ => rfl,
  fun _ _ _ _ _ _ us hl => match us, hl with | [_, _], _ => rfl,
  fun _ _ _ _ _ _ us hl => match us, hl with | [_, _], _ => rfl,
  fun _ _ _ _ _ _ us hl => match us, hl with | [_, _], _ => rfl,
  fun _ _ _ _ _ _ us hl => match us, hl with | [_, _], _ => rfl,
  fun _ _ _ _ _ _ us hl => match us, hl with | [_, _], _ => rfl,
  fun _ _ _ _ _ _ us hl => match us, hl with | [_], _ => rfl,
  fun _ _ _ _ _ _ us hl => match us, hl with | [_], _ => rfl,
  fun _ _ _ _ _ _ us hl => match us, hl with | [_], _ => rfl,
  fun _ _ _ _ _ _ us hl => match us, hl with | [_, _], _ => rfl,
  fun _ _ _ _ _ _ us hl => match us, hl with | [_, _], _ => rfl,
  fun _ _ _ _ _ _ us hl => match us, hl with | [_, _], _ => rfl,
  fun _ _ _ _ _ _ us hl => match us, hl with | [_, _], _ => rfl,
  fun _ _ _ _ _ _ us hl => match us, hl with | [_, _], _ => rfl,
  fun _ _ _ _ _ _ us hl => match us, hl with | [_, _], _ => rfl,
  fun _ _ _ _ _ _ us hl => match us, hl with | [_, _], _ => rfl,
  fun _ _ _ _ _ _ us hl => match us, hl with | [_, _], _ => rfl,
  fun _ _ _ _ _ _ us hl => match us, hl with | [_, _], _ => rfl,
  fun _ _ _ _ _ _ us hl => match us, hl with | [_, _], _ => rfl,
  fun _ _ _ _ _ _ us hl => match us, hl with | [_], _ => rfl,
  fun _ _ _ _ _ _ us hl => match us, hl with | [_], _ => rfl,
  fun _ _ _ _ _ _ us hl => match us, hl with | [_], _ => rfl,
  fun _ _ _ _ _ _ us hl => match us, hl with | [_], _ => rfl, trivial⟩
theorem names_ok : ts.map (·.name) = mc.nm := by kernel_rfl
theorem code_ok : dfAll mc code ts = true := by kernel_rfl
abbrev Rw : PySem.W.OpenRow := PySem.W.OpenLaw.row PySem.Challenge.rw_partedpairs_k04_whole_fractions_by_own_s
def ob (s : PySem.W.SharedT) : AlP := obsP 4 mc ts (HandSHeadRun.getT s)
theorem ob_eq (s : PySem.W.SharedT) : ob s = (hookP 4 mc ts).obs s.abs := obsP_eq (HandSHeadRun.getT_eq s)
def loose : List Str := (["CanNot", "TooMany", "Unfit", "is_number", "is_long", "tupled", "MOST_SIDE", "MOST_PART", "divisor_in", "made", "is_fraction_in",
  "sure_fraction", "plus", "minus", "times", "compare", "total", "up", "down", "is_fraction", "fraction", "sure_two", "fraction_sum", "fraction_less",
  "fraction_product", "fraction_quotient", "fraction_compared", "rounded_down", "rounded_up", "fractions_total"] : List Str) ++ (["_law_box", "_law_take",
  "_law_cells", "_law_of", "_law_same", "_law_gcd", "_law_mixed", "_law_calls", "_law_heard", "_law_low", "_law_number", "_law_fraction", "_law_right"] : List
  Str)
theorem run (w : World) : HandSHeadRun.RunEq Rw (PySem.W.view Rw.prog [47]) (hookP 4 mc ts) ob 6000 loose w := by
  intro os
  kernel_rfl
end K04
end

section
set_option Elab.async false
set_option linter.all false
set_option maxRecDepth 100000
set_option maxHeartbeats 4000000
set_option autoImplicit false
set_option exponentiation.threshold 20000
/-! What the code of k04 gives. -/
namespace K04
open PV PySem
theorem cl {n k np nl : Nat} {kp : Bool} {body : List S} {as : List D} {cs : Cells} (env : PV.Env) (h : code[k]? = some ⟨np, nl, kp, body⟩) (hl : as.length = np) (he : as.map some ++ List.replicate (nl - np) none = env) :
    callN code (n + 1) k as cs = endS kp cs.length (exs (callN code n) body env cs) := by
  subst he hl
  simp only [callN, h, if_true]
theorem take_len {α : Type} (xs : List α) : xs.take xs.length = xs := by simp
theorem take_len1 {α : Type} (xs : List α) (y : α) : (xs ++ [y]).take xs.length = xs := by simp
/-- data without a list that changes -/
def fro : D → Bool
  | .own _ => false
  | _ => true
theorem view_fro {cs : Cells} {d : D} (h : fro d = true) : view cs d = d := by cases d <;> first | rfl | simp [fro] at h
/-- plain data -/
def pl : D → Bool
  | .non => true | .bl _ => true | .int _ => true | .str _ => true | .tup _ => true | .lst _ => true
  | _ => false
def numD : D → Bool
  | .int _ => true
  | _ => false
theorem is_number_ok (n : Nat) (d : D) (cs : Cells) (h : pl d = true) : callN code (n + 1) 0 [d] cs = .ok (.bl (numD d)) cs := by
  rw [cl [some d] rfl rfl rfl]
  cases d <;> simp [exs, ex, ev, evs, evAnd, evOr, tst, tstAll, tstAny, view, R.bind, R.rs, R.opt, RS.seq, endS, endD, binD, cmpD, eqD, ltD, truD, biD, isiD, tyD, idxD, at', ixN, asg, asgs, fz, fzs, List.map, List.getElem?_cons_zero, List.getElem?_cons_succ, Option.map, List.set_cons_zero, List.set_cons_succ, List.length_cons, List.length_nil, numD] <;> simp [pl] at h
def longD : D → Bool
  | .tup xs => xs.length == 2
  | _ => false
theorem is_long_ok (n : Nat) (d : D) (cs : Cells) (h : pl d = true) : callN code (n + 1) 1 [d, .int 2] cs = .ok (.bl (longD d)) cs := by
  rw [cl [some d, some (.int 2)] rfl rfl rfl]
  cases d <;> simp [exs, ex, ev, evs, evAnd, evOr, tst, tstAll, tstAny, view, R.bind, R.rs, R.opt, RS.seq, endS, endD, binD, cmpD, eqD, ltD, truD, biD, isiD, tyD, idxD, at', ixN, asg, asgs, fz, fzs, List.map, List.getElem?_cons_zero, List.getElem?_cons_succ, Option.map, List.set_cons_zero, List.set_cons_succ, List.length_cons, List.length_nil, longD] <;> first | (simp [pl] at h; done) | skip
  next xs =>
    rw [Bool.eq_iff_iff]
    simp only [beq_iff_eq]
    omega
/-! the greatest divisor -/
def gI (a b : Int) : Int := (Int.gcd a b : Int)
theorem half (a b : Nat) (hb : 0 < b) (hr : a % b ≠ 0) : b % (a % b) ≤ b / 2 := by
  have h1 : a % b < b := Nat.mod_lt _ hb
  by_cases h : a % b ≤ b / 2
  · have := Nat.mod_lt b (Nat.pos_of_ne_zero hr)
    omega
  · have : b % (a % b) = b - a % b := by
      rw [Nat.mod_eq_sub_mod (by omega), Nat.mod_eq_of_lt (by omega)]
    omega
/-- one step of the walk -/
theorem euclid_go (F : Int → Int → R Bool) : True := trivial
abbrev dC : E := .cmp .ne (.var 3) (.cst (.int 0))
abbrev dB : List S := [(.par [(.nm 2), (.nm 3)] [(.var 3), (.bin .mod (.var 2) (.var 3))])]
theorem div_turn (call : Nat → List D → Cells → R D) (x y : D) (m : Nat) (p q : Nat) (cs : Cells) :
    whlF (fun e c' => tst call dC e c') (fun e c' => exs call dB e c') (m + 1) [some x, some y, some (.int p), some (.int q)] cs =
      if q = 0 then .next [some x, some y, some (.int p), some (.int q)] cs else whlF (fun e c' => tst call dC e c') (fun e c' => exs call dB e c') m [some x, some y, some (.int q), some (.int ((p % q : Nat) : Int))] cs := by
  rw [whlF]
  by_cases hq : q = 0
  · subst hq
    simp [exs, ex, ev, evs, evAnd, evOr, tst, tstAll, tstAny, view, R.bind, R.rs, R.opt, RS.seq, endS, endD, binD, cmpD, eqD, ltD, truD, biD, isiD, tyD, idxD, at', ixN, asg, asgs, fz, fzs, List.map, List.getElem?_cons_zero, List.getElem?_cons_succ, Option.map, List.set_cons_zero, List.set_cons_succ, List.length_cons, List.length_nil]
  · have h0 : 0 < (q : Int) := by omega
    have h1 : ((q : Int) == 0) = false := by simp [hq]
    simp [exs, ex, ev, evs, evAnd, evOr, tst, tstAll, tstAny, view, R.bind, R.rs, R.opt, RS.seq, endS, endD, binD, cmpD, eqD, ltD, truD, biD, isiD, tyD, idxD, at', ixN, asg, asgs, fz, fzs, List.map, List.getElem?_cons_zero, List.getElem?_cons_succ, Option.map, List.set_cons_zero, List.set_cons_succ, List.length_cons, List.length_nil, hq, h1, loopB]
    rw [if_pos (by omega)]
    simp [exs, ex, ev, evs, evAnd, evOr, tst, tstAll, tstAny, view, R.bind, R.rs, R.opt, RS.seq, endS, endD, binD, cmpD, eqD, ltD, truD, biD, isiD, tyD, idxD, at', ixN, asg, asgs, fz, fzs, List.map, List.getElem?_cons_zero, List.getElem?_cons_succ, Option.map, List.set_cons_zero, List.set_cons_succ, List.length_cons, List.length_nil, loopB]
theorem div_loop (call : Nat → List D → Cells → R D) (x y : D) (cs : Cells) : ∀ (k : Nat) (p q m : Nat), q < 2 ^ k → 2 * k + 1 ≤ m →
    whlF (fun e c' => tst call dC e c') (fun e c' => exs call dB e c') m [some x, some y, some (.int p), some (.int q)] cs = .next [some x, some y, some (.int (Nat.gcd p q : Nat)), some (.int 0)] cs
  | 0, p, q, m, hq, hm => by
    obtain ⟨m, rfl⟩ : ∃ m', m = m' + 1 := ⟨m - 1, by omega⟩
    have : q = 0 := by omega
    subst this
    rw [div_turn, if_pos rfl]
    simp
  | k + 1, p, q, m, hq, hm => by
    obtain ⟨m, rfl⟩ : ∃ m', m = m' + 2 := ⟨m - 2, by omega⟩
    rw [div_turn]
    by_cases h : q = 0
    · subst h
      rw [if_pos rfl]
      simp
    · rw [if_neg h, div_turn]
      have e1 : Nat.gcd p q = Nat.gcd q (p % q) := by rw [Nat.gcd_comm p q, Nat.gcd_rec q p, Nat.gcd_comm]
      by_cases h2 : p % q = 0
      · rw [if_pos h2, e1, h2]
        simp
      · rw [if_neg h2]
        have hh := half p q (Nat.pos_of_ne_zero h) h2
        have e2 : Nat.gcd q (p % q) = Nat.gcd (p % q) (q % (p % q)) := by rw [Nat.gcd_comm q (p % q), Nat.gcd_rec (p % q) q, Nat.gcd_comm]
        rw [div_loop call x y cs k (p % q) (q % (p % q)) m (by rw [Nat.pow_succ] at hq; omega) (by omega), e1, e2]
theorem absI (i : Int) : (if i < 0 then -i else i) = (i.natAbs : Int) := by split <;> omega
section
variable {call : Nat → List D → Cells → R D} {s : S} {ss : List S} {env env' : PV.Env} {cs c : Cells} {d : D} {x : PV.Exc}
theorem xn (h : ex call s env cs = .next env' c) : exs call (s :: ss) env cs = exs call ss env' c := by rw [exs, h]; rfl
theorem xr (h : ex call s env cs = .ret d c) : exs call (s :: ss) env cs = .ret d c := by rw [exs, h]; rfl
theorem xx (h : ex call s env cs = .exc x env' c) : exs call (s :: ss) env cs = .exc x env' c := by rw [exs, h]; rfl
end
theorem divisor_ok (n : Nat) (a b : Int) (cs : Cells) (hb : b.natAbs < 2 ^ 10000) : callN code (n + 1) 3 [.int a, .int b] cs = .ok (.int (gI a b)) cs := by
  rw [cl [some (.int a), some (.int b), none, none] rfl rfl rfl]
  have h := div_loop (callN code n) (.int a) (.int b) cs 10000 a.natAbs b.natAbs turns hb (by decide)
  rw [xn (env' := [some (.int a), some (.int b), some (.int a.natAbs), some (.int b.natAbs)]) (c := cs) (by simp [exs, ex, ev, evs, evAnd, evOr, tst, tstAll, tstAny, view, R.bind, R.rs, R.opt, RS.seq, endS, endD, binD, cmpD, eqD, ltD, truD, biD, isiD, tyD, idxD, at', ixN, asg, asgs, fz, fzs, List.map, List.getElem?_cons_zero, List.getElem?_cons_succ, Option.map, List.set_cons_zero, List.set_cons_succ, List.length_cons, List.length_nil, absI, List.replicate]), xn (by rw [ex]; exact h), xr (by simp only [exs, ex, ev, evs, evAnd, evOr, tst, tstAll, tstAny, view, R.bind, R.rs, R.opt, RS.seq, endS, endD, binD, cmpD, eqD, ltD, truD, biD, isiD, tyD, idxD, at', ixN, asg, asgs, fz, fzs, List.map, List.getElem?_cons_zero, List.getElem?_cons_succ, Option.map, List.set_cons_zero, List.set_cons_succ, List.length_cons, List.length_nil]; rfl)]
  simp [exs, ex, ev, evs, evAnd, evOr, tst, tstAll, tstAny, view, R.bind, R.rs, R.opt, RS.seq, endS, endD, binD, cmpD, eqD, ltD, truD, biD, isiD, tyD, idxD, at', ixN, asg, asgs, fz, fzs, List.map, List.getElem?_cons_zero, List.getElem?_cons_succ, Option.map, List.set_cons_zero, List.set_cons_succ, List.length_cons, List.length_nil, gI, Int.gcd]
abbrev gC : E := .cmp .ne (.var 1) (.cst (.int 0))
abbrev gB : List S := [(.par [(.nm 0), (.nm 1)] [(.var 1), (.bin .mod (.var 0) (.var 1))])]
theorem gcd_turn (call : Nat → List D → Cells → R D) (m : Nat) (p q : Nat) (cs : Cells) :
    whlF (fun e c' => tst call gC e c') (fun e c' => exs call gB e c') (m + 1) [some (.int p), some (.int q)] cs =
      if q = 0 then .next [some (.int p), some (.int q)] cs else whlF (fun e c' => tst call gC e c') (fun e c' => exs call gB e c') m [some (.int q), some (.int ((p % q : Nat) : Int))] cs := by
  rw [whlF]
  by_cases hq : q = 0
  · subst hq
    simp [exs, ex, ev, evs, evAnd, evOr, tst, tstAll, tstAny, view, R.bind, R.rs, R.opt, RS.seq, endS, endD, binD, cmpD, eqD, ltD, truD, biD, isiD, tyD, idxD, at', ixN, asg, asgs, fz, fzs, List.map, List.getElem?_cons_zero, List.getElem?_cons_succ, Option.map, List.set_cons_zero, List.set_cons_succ, List.length_cons, List.length_nil]
  · have h0 : 0 < (q : Int) := by omega
    have h1 : ((q : Int) == 0) = false := by simp [hq]
    simp [exs, ex, ev, evs, evAnd, evOr, tst, tstAll, tstAny, view, R.bind, R.rs, R.opt, RS.seq, endS, endD, binD, cmpD, eqD, ltD, truD, biD, isiD, tyD, idxD, at', ixN, asg, asgs, fz, fzs, List.map, List.getElem?_cons_zero, List.getElem?_cons_succ, Option.map, List.set_cons_zero, List.set_cons_succ, List.length_cons, List.length_nil, hq, h1, loopB]
    rw [if_pos (by omega)]
    simp [exs, ex, ev, evs, evAnd, evOr, tst, tstAll, tstAny, view, R.bind, R.rs, R.opt, RS.seq, endS, endD, binD, cmpD, eqD, ltD, truD, biD, isiD, tyD, idxD, at', ixN, asg, asgs, fz, fzs, List.map, List.getElem?_cons_zero, List.getElem?_cons_succ, Option.map, List.set_cons_zero, List.set_cons_succ, List.length_cons, List.length_nil, loopB]
theorem gcd_loop (call : Nat → List D → Cells → R D) (cs : Cells) : ∀ (k : Nat) (p q m : Nat), q < 2 ^ k → 2 * k + 1 ≤ m →
    whlF (fun e c' => tst call gC e c') (fun e c' => exs call gB e c') m [some (.int p), some (.int q)] cs = .next [some (.int (Nat.gcd p q : Nat)), some (.int 0)] cs
  | 0, p, q, m, hq, hm => by
    obtain ⟨m, rfl⟩ : ∃ m', m = m' + 1 := ⟨m - 1, by omega⟩
    have : q = 0 := by omega
    subst this
    rw [gcd_turn, if_pos rfl]
    simp
  | k + 1, p, q, m, hq, hm => by
    obtain ⟨m, rfl⟩ : ∃ m', m = m' + 2 := ⟨m - 2, by omega⟩
    rw [gcd_turn]
    by_cases h : q = 0
    · subst h
      rw [if_pos rfl]
      simp
    · rw [if_neg h, gcd_turn]
      have e1 : Nat.gcd p q = Nat.gcd q (p % q) := by rw [Nat.gcd_comm p q, Nat.gcd_rec q p, Nat.gcd_comm]
      by_cases h2 : p % q = 0
      · rw [if_pos h2, e1, h2]
        simp
      · rw [if_neg h2]
        have hh := half p q (Nat.pos_of_ne_zero h) h2
        have e2 : Nat.gcd q (p % q) = Nat.gcd (p % q) (q % (p % q)) := by rw [Nat.gcd_comm q (p % q), Nat.gcd_rec (p % q) q, Nat.gcd_comm]
        rw [gcd_loop call  cs k (p % q) (q % (p % q)) m (by rw [Nat.pow_succ] at hq; omega) (by omega), e1, e2]
theorem law_gcd_ok (n : Nat) (a b : Int) (cs : Cells) (ha : 0 ≤ a) (hb0 : 0 ≤ b) (hb : b.natAbs < 2 ^ 10000) : callN code (n + 1) 30 [.int a, .int b] cs = .ok (.int (gI a b)) cs := by
  obtain ⟨p, rfl⟩ := Int.eq_ofNat_of_zero_le ha
  obtain ⟨q, rfl⟩ := Int.eq_ofNat_of_zero_le hb0
  rw [cl [some (.int p), some (.int q)] rfl rfl rfl]
  have h := gcd_loop (callN code n) cs 10000 p q turns (by simpa using hb) (by decide)
  rw [xn (by rw [ex]; exact h), xr (by simp only [exs, ex, ev, evs, evAnd, evOr, tst, tstAll, tstAny, view, R.bind, R.rs, R.opt, RS.seq, endS, endD, binD, cmpD, eqD, ltD, truD, biD, isiD, tyD, idxD, at', ixN, asg, asgs, fz, fzs, List.map, List.getElem?_cons_zero, List.getElem?_cons_succ, Option.map, List.set_cons_zero, List.set_cons_succ, List.length_cons, List.length_nil]; rfl)]
  simp [exs, ex, ev, evs, evAnd, evOr, tst, tstAll, tstAny, view, R.bind, R.rs, R.opt, RS.seq, endS, endD, binD, cmpD, eqD, ltD, truD, biD, isiD, tyD, idxD, at', ixN, asg, asgs, fz, fzs, List.map, List.getElem?_cons_zero, List.getElem?_cons_succ, Option.map, List.set_cons_zero, List.set_cons_succ, List.length_cons, List.length_nil, absI, gI, Int.gcd]
def lo (a b : Int) : D := if 0 < b then .tup [.int (a / gI a b), .int (b / gI a b)] else .tup [.int (-a / gI a b), .int (-b / gI a b)]
theorem gI_pos {a b : Int} (h : b ≠ 0) : 0 < gI a b := by
  unfold gI
  have : 0 < Int.gcd a b := Int.gcd_pos_iff.mpr (.inr h)
  omega
theorem gI_le {a b : Int} (h : b ≠ 0) : (gI a b).natAbs ≤ b.natAbs := by
  unfold gI
  have : Int.gcd a b ∣ b.natAbs := Nat.gcd_dvd_right _ _
  have := Nat.le_of_dvd (by omega) this
  simpa using this
theorem gI_l (a b : Int) : gI a b ∣ a := Int.gcd_dvd_left ..
theorem gI_r (a b : Int) : gI a b ∣ b := Int.gcd_dvd_right ..
theorem gI_neg (a b : Int) : gI (-a) b = gI a b := by unfold gI; rw [Int.neg_gcd]
theorem gI_neg' (a b : Int) : gI a (-b) = gI a b := by unfold gI; rw [Int.gcd_neg]
theorem gI_abs (a b : Int) : gI a.natAbs b = gI a b := by
  unfold gI Int.gcd
  simp
theorem divOk_of {b : Int} (h : b.natAbs < 2 ^ 4000) : divOk b = true := by
  unfold divOk
  rw [Bool.or_eq_true, decide_eq_true_eq, decide_eq_true_eq]
  by_cases h0 : b.natAbs = 0
  · left; rw [h0]; decide
  · right
    have := (Nat.log2_lt h0).mpr h
    omega
theorem fdiv_neg {a g : Int} (hg : 0 < g) (hd : g ∣ a) : a.fdiv (-g) = -a / g := by
  obtain ⟨k, rfl⟩ := hd
  have e1 : g * k = (-g) * (-k) := by rw [Int.neg_mul_neg]
  have e2 : -(g * k) = g * (-k) := by rw [Int.mul_neg]
  rw [e2, Int.mul_ediv_cancel_left _ (by omega), e1, Int.mul_fdiv_cancel_left _ (by omega)]
theorem made_ok (n : Nat) (a b : Int) (cs : Cells) (h0 : b ≠ 0) (hb : b.natAbs < 2 ^ 4000) : callN code (n + 2) 4 [.int a, .int b] cs = .ok (lo a b) cs := by
  have hd := divisor_ok n a b cs (Nat.lt_of_lt_of_le hb (Nat.pow_le_pow_right (by omega) (by omega)))
  have g0 := gI_pos (a := a) h0
  have gl := gI_le (a := a) h0
  rw [cl [some (.int a), some (.int b), none] rfl rfl rfl]
  by_cases hp : 0 < b
  · rw [xn (env' := [some (.int a), some (.int b), some (.int (gI a b))]) (c := cs) (by simp [exs, ex, ev, evs, evAnd, evOr, tst, tstAll, tstAny, view, R.bind, R.rs, R.opt, RS.seq, endS, endD, binD, cmpD, eqD, ltD, truD, biD, isiD, tyD, idxD, at', ixN, asg, asgs, fz, fzs, List.map, List.getElem?_cons_zero, List.getElem?_cons_succ, Option.map, List.set_cons_zero, List.set_cons_succ, List.length_cons, List.length_nil, hp, hd]), xr (d := lo a b) (c := cs) (by simp [exs, ex, ev, evs, evAnd, evOr, tst, tstAll, tstAny, view, R.bind, R.rs, R.opt, RS.seq, endS, endD, binD, cmpD, eqD, ltD, truD, biD, isiD, tyD, idxD, at', ixN, asg, asgs, fz, fzs, List.map, List.getElem?_cons_zero, List.getElem?_cons_succ, Option.map, List.set_cons_zero, List.set_cons_succ, List.length_cons, List.length_nil, hp, g0, divOk_of (Nat.lt_of_le_of_lt gl hb), lo])]
    simp [lo, hp, endS, endD]
  · have hn : ¬ (0 : Int) < -gI a b := by omega
    have hn2 : -gI a b < 0 := by omega
    rw [xn (env' := [some (.int a), some (.int b), some (.int (-gI a b))]) (c := cs) (by simp [exs, ex, ev, evs, evAnd, evOr, tst, tstAll, tstAny, view, R.bind, R.rs, R.opt, RS.seq, endS, endD, binD, cmpD, eqD, ltD, truD, biD, isiD, tyD, idxD, at', ixN, asg, asgs, fz, fzs, List.map, List.getElem?_cons_zero, List.getElem?_cons_succ, Option.map, List.set_cons_zero, List.set_cons_succ, List.length_cons, List.length_nil, hp, hd])]
    rw [xr (d := lo a b) (c := cs) (by
      have hdo : divOk (-gI a b) = true := divOk_of (by rw [Int.natAbs_neg]; exact Nat.lt_of_le_of_lt gl hb)
      have hn' : ¬ gI a b < 0 := by omega
      simp [exs, ex, ev, evs, evAnd, evOr, tst, tstAll, tstAny, view, R.bind, R.rs, R.opt, RS.seq, endS, endD, binD, cmpD, eqD, ltD, truD, biD, isiD, tyD, idxD, at', ixN, asg, asgs, fz, fzs, List.map, List.getElem?_cons_zero, List.getElem?_cons_succ, Option.map, List.set_cons_zero, List.set_cons_succ, List.length_cons, List.length_nil, g0, hn', hdo, lo, hp, fdiv_neg g0 (gI_l a b), fdiv_neg g0 (gI_r a b)])]
    simp [lo, hp, endS, endD]
theorem law_low_ok (n : Nat) (a b : Int) (cs : Cells) (h0 : b ≠ 0) (hb : b.natAbs < 2 ^ 4000) : callN code (n + 2) 34 [.int a, .int b] cs = .ok (lo a b) cs := by
  have g0 := gI_pos (a := a) h0
  have gl := gI_le (a := a) h0
  have big' : ∀ x : Int, x.natAbs < 2 ^ 4000 → x.natAbs < 2 ^ 10000 := fun x h => Nat.lt_of_lt_of_le h (Nat.pow_le_pow_right (by omega) (by omega))
  rw [cl [some (.int a), some (.int b), none] rfl rfl rfl]
  by_cases hp : 0 < b
  · have hd := law_gcd_ok n a.natAbs b cs (by omega) (by omega) (big' b hb)
    rw [gI_abs] at hd
    have hn : ¬ b < 0 := by omega
    rw [xn (env' := [some (.int a), some (.int b), none]) (c := cs) (by simp [exs, ex, ev, evs, evAnd, evOr, tst, tstAll, tstAny, view, R.bind, R.rs, R.opt, RS.seq, endS, endD, binD, cmpD, eqD, ltD, truD, biD, isiD, tyD, idxD, at', ixN, asg, asgs, fz, fzs, List.map, List.getElem?_cons_zero, List.getElem?_cons_succ, Option.map, List.set_cons_zero, List.set_cons_succ, List.length_cons, List.length_nil, hn]), xn (env' := [some (.int a), some (.int b), some (.int (gI a b))]) (c := cs) (by simp [exs, ex, ev, evs, evAnd, evOr, tst, tstAll, tstAny, view, R.bind, R.rs, R.opt, RS.seq, endS, endD, binD, cmpD, eqD, ltD, truD, biD, isiD, tyD, idxD, at', ixN, asg, asgs, fz, fzs, List.map, List.getElem?_cons_zero, List.getElem?_cons_succ, Option.map, List.set_cons_zero, List.set_cons_succ, List.length_cons, List.length_nil, absI, hd]), xr (d := lo a b) (c := cs) (by simp [exs, ex, ev, evs, evAnd, evOr, tst, tstAll, tstAny, view, R.bind, R.rs, R.opt, RS.seq, endS, endD, binD, cmpD, eqD, ltD, truD, biD, isiD, tyD, idxD, at', ixN, asg, asgs, fz, fzs, List.map, List.getElem?_cons_zero, List.getElem?_cons_succ, Option.map, List.set_cons_zero, List.set_cons_succ, List.length_cons, List.length_nil, hp, g0, divOk_of (Nat.lt_of_le_of_lt gl hb), lo])]
    simp [lo, hp, endS, endD]
  · have hd := law_gcd_ok n (-a).natAbs (-b) cs (by omega) (by omega) (big' (-b) (by rw [Int.natAbs_neg]; exact hb))
    rw [gI_abs, gI_neg, gI_neg'] at hd
    have hn : b < 0 := by omega
    rw [xn (env' := [some (.int (-a)), some (.int (-b)), none]) (c := cs) (by simp [exs, ex, ev, evs, evAnd, evOr, tst, tstAll, tstAny, view, R.bind, R.rs, R.opt, RS.seq, endS, endD, binD, cmpD, eqD, ltD, truD, biD, isiD, tyD, idxD, at', ixN, asg, asgs, fz, fzs, List.map, List.getElem?_cons_zero, List.getElem?_cons_succ, Option.map, List.set_cons_zero, List.set_cons_succ, List.length_cons, List.length_nil, hn]), xn (env' := [some (.int (-a)), some (.int (-b)), some (.int (gI a b))]) (c := cs) (by simp only [exs, ex, ev, evs, evAnd, evOr, tst, tstAll, tstAny, view, R.bind, R.rs, R.opt, RS.seq, endS, endD, binD, cmpD, eqD, ltD, truD, biD, isiD, tyD, idxD, at', ixN, asg, asgs, fz, fzs, List.map, List.getElem?_cons_zero, List.getElem?_cons_succ, Option.map, List.set_cons_zero, List.set_cons_succ, List.length_cons, List.length_nil, absI, hd]; rfl), xr (d := lo a b) (c := cs) (by simp [exs, ex, ev, evs, evAnd, evOr, tst, tstAll, tstAny, view, R.bind, R.rs, R.opt, RS.seq, endS, endD, binD, cmpD, eqD, ltD, truD, biD, isiD, tyD, idxD, at', ixN, asg, asgs, fz, fzs, List.map, List.getElem?_cons_zero, List.getElem?_cons_succ, Option.map, List.set_cons_zero, List.set_cons_succ, List.length_cons, List.length_nil, hp, g0, divOk_of (Nat.lt_of_le_of_lt gl hb), lo])]
    simp [lo, hp, endS, endD]
/-! comprehensions -/
theorem last_get {cs : Cells} {c : Cell} : (cs ++ [c])[List.length cs]? = some c := by simp
theorem last_set {cs : Cells} {c c' : Cell} : (cs ++ [c]).set (List.length cs) c' = cs ++ [c'] := by simp
theorem push_last {cs : Cells} {acc : List D} {x : D} (hx : fro x = true) (hl : acc.length < big) : pushD (List.length cs) x (cs ++ [⟨true, .lst acc⟩]) = .ok () (cs ++ [⟨true, .lst (acc ++ [x])⟩]) := by
  have e : fz x (cs ++ [⟨true, .lst acc⟩]) = (x, cs ++ [⟨true, .lst acc⟩]) := by cases x <;> first | rfl | simp [fro] at hx
  unfold pushD
  rw [e]
  simp only [setCell, last_get, hl, if_true, last_set, R.bind]
theorem compL_pure {f : D → Cells → R Unit} {g : D → D} {cs : Cells} : ∀ (xs acc : List D), (∀ x ∈ xs, ∀ acc : List D, acc.length < big → f x (cs ++ [⟨true, .lst acc⟩]) = .ok () (cs ++ [⟨true, .lst (acc ++ [g x])⟩])) → acc.length + xs.length ≤ big →
    compL f xs (cs ++ [⟨true, .lst acc⟩]) = .ok () (cs ++ [⟨true, .lst (acc ++ xs.map g)⟩])
  | [], acc, _, _ => by simp [compL]
  | x :: xs, acc, h, hl => by
    rw [List.length_cons] at hl
    rw [compL, h x (by simp) acc (by omega)]
    simp only [R.bind]
    rw [compL_pure xs (acc ++ [g x]) (fun y hy => h y (by simp [hy])) (by simp; omega)]
    simp
theorem comp_frozen {call : Nat → List D → Cells → R D} {elt : E} {tg : Tg} {own : List Nat} {k : Ik} {es ifs : List E} {env : PV.Env} {cs cs' cs1 : Cells} {ds xs : List D} (h1 : evs call es env cs = .ok ds cs1) (h2 : kOk k ds = true) (h3 : ds.any isOwn = false) (h4 : itemsOf k ds = some xs)
    (h5 : compL (turnC tg (PV.wipe env own) (fun e c => tstAll call ifs e c) (fun e c => ev call elt e c) (List.length cs1)) xs (cs1 ++ [⟨true, .lst []⟩]) = .ok () cs') : ev call (.comp elt tg own k es ifs) env cs = .ok (.own (List.length cs1)) cs' := by
  rw [ev, h1]
  simp only [R.bind, walkC, h2, h3, h4, if_true, Bool.false_eq_true, if_false, h5]
theorem view_last {cs : Cells} {c : Cell} : view (cs ++ [c]) (.own (List.length cs)) = c.d := by simp [view]
def leaf : D → Bool
  | .non => true | .bl _ => true | .int _ => true | .str _ => true
  | _ => false
theorem tup_leaf (n : Nat) (d : D) (cs : Cells) (h : leaf d = true) : callN code (n + 1) 2 [d] cs = .ok d cs := by
  rw [cl [some d, none] rfl rfl rfl, xr (d := d) (c := cs)]
  · cases d <;> simp [endS, endD] <;> simp [leaf] at h
  · cases d <;> simp [exs, ex, ev, evs, evAnd, evOr, tst, tstAll, tstAny, view, R.bind, R.rs, R.opt, RS.seq, endS, endD, binD, cmpD, eqD, ltD, truD, biD, isiD, tyD, idxD, at', ixN, asg, asgs, fz, fzs, List.map, List.getElem?_cons_zero, List.getElem?_cons_succ, Option.map, List.set_cons_zero, List.set_cons_succ, List.length_cons, List.length_nil] <;> simp [leaf] at h
theorem tup_seq (n : Nat) (xs : List D) (g : D → D) (d : D) (cs : Cells) (hd : d = .tup xs ∨ d = .lst xs) (hx : ∀ x ∈ xs, ∀ cs, callN code n 2 [x] cs = .ok (g x) cs) (hg : ∀ x ∈ xs, fro (g x) = true) (hl : xs.length ≤ big) :
    callN code (n + 1) 2 [d] cs = .ok (.tup (xs.map g)) cs := by
  have key : ev (callN code n) (.comp (.call 2 [(.var 1)]) (.nm 1) [1] .seq [(.var 0)] []) [some d, none] cs = .ok (.own (List.length cs)) (cs ++ [⟨true, .lst ([] ++ xs.map g)⟩]) := by
    refine comp_frozen (cs1 := cs) (ds := [d]) (xs := xs) (by simp [exs, ex, ev, evs, evAnd, evOr, tst, tstAll, tstAny, view, R.bind, R.rs, R.opt, RS.seq, endS, endD, binD, cmpD, eqD, ltD, truD, biD, isiD, tyD, idxD, at', ixN, asg, asgs, fz, fzs, List.map, List.getElem?_cons_zero, List.getElem?_cons_succ, Option.map, List.set_cons_zero, List.set_cons_succ, List.length_cons, List.length_nil]) (by rfl) (by rcases hd with rfl | rfl <;> rfl) (by rcases hd with rfl | rfl <;> rfl) (compL_pure xs [] (fun x hx' acc ha => ?_) (by simpa using hl))
    simp only [turnC, PV.wipe, exs, ex, ev, evs, evAnd, evOr, tst, tstAll, tstAny, view, R.bind, R.rs, R.opt, RS.seq, endS, endD, binD, cmpD, eqD, ltD, truD, biD, isiD, tyD, idxD, at', ixN, asg, asgs, fz, fzs, List.map, List.getElem?_cons_zero, List.getElem?_cons_succ, Option.map, List.set_cons_zero, List.set_cons_succ, List.length_cons, List.length_nil, hx x hx']
    simp [exs, ex, ev, evs, evAnd, evOr, tst, tstAll, tstAny, view, R.bind, R.rs, R.opt, RS.seq, endS, endD, binD, cmpD, eqD, ltD, truD, biD, isiD, tyD, idxD, at', ixN, asg, asgs, fz, fzs, List.map, List.getElem?_cons_zero, List.getElem?_cons_succ, Option.map, List.set_cons_zero, List.set_cons_succ, List.length_cons, List.length_nil, hx x hx', push_last (hg x hx') ha]
  rw [cl [some d, none] rfl rfl rfl, xr (d := .tup (xs.map g)) (c := cs ++ [⟨true, .lst ([] ++ xs.map g)⟩])]
  · simp [endS, endD]
  · have hi : tst (callN code n) (.isi (.var 0) [.list, .tuple]) [some d, none] cs = .ok true cs := by rcases hd with rfl | rfl <;> simp [exs, ex, ev, evs, evAnd, evOr, tst, tstAll, tstAny, view, R.bind, R.rs, R.opt, RS.seq, endS, endD, binD, cmpD, eqD, ltD, truD, biD, isiD, tyD, idxD, at', ixN, asg, asgs, fz, fzs, List.map, List.getElem?_cons_zero, List.getElem?_cons_succ, Option.map, List.set_cons_zero, List.set_cons_succ, List.length_cons, List.length_nil]
    rw [ex, ev, hi]
    simp only [R.bind, if_true]
    rw [ev, evs, key]
    simp [exs, ex, ev, evs, evAnd, evOr, tst, tstAll, tstAny, view, R.bind, R.rs, R.opt, RS.seq, endS, endD, binD, cmpD, eqD, ltD, truD, biD, isiD, tyD, idxD, at', ixN, asg, asgs, fz, fzs, List.map, List.getElem?_cons_zero, List.getElem?_cons_succ, Option.map, List.set_cons_zero, List.set_cons_succ, List.length_cons, List.length_nil]
/-! fractions -/
def frB : D → Bool
  | .tup [.int p, .int q] => decide (1 ≤ q) && (gI p q == 1)
  | _ => false
structure Okd (d : D) : Prop where
  pl : pl d = true
  its : ∀ xs, d = .tup xs → ∀ x ∈ xs, K04.pl x = true
  small : ∀ p q, d = .tup [.int p, .int q] → q.natAbs < 2 ^ 4000
theorem is_fr_ok (n : Nat) (d : D) (cs : Cells) (h : Okd d) : callN code (n + 2) 5 [d] cs = .ok (.bl (frB d)) cs := by
  have hL := is_long_ok n d cs h.pl
  rw [cl [some d] rfl rfl rfl]
  cases hl : longD d with
  | false =>
    rw [hl] at hL
    have hf : frB d = false := by
      cases d <;> first | rfl | skip
      next xs =>
        rcases xs with _ | ⟨x, _ | ⟨y, _ | ⟨z, r⟩⟩⟩ <;> first | rfl | (simp [longD] at hl; done) | (cases x <;> first | rfl | (cases y <;> rfl))
    rw [xr (d := .bl false) (c := cs) (by simp [exs, ex, ev, evs, evAnd, evOr, tst, tstAll, tstAny, view, R.bind, R.rs, R.opt, RS.seq, endS, endD, binD, cmpD, eqD, ltD, truD, biD, isiD, tyD, idxD, at', ixN, asg, asgs, fz, fzs, List.map, List.getElem?_cons_zero, List.getElem?_cons_succ, Option.map, List.set_cons_zero, List.set_cons_succ, List.length_cons, List.length_nil, hL])]
    simp [endS, endD, hf]
  | true =>
    rw [hl] at hL
    obtain ⟨x, y, rfl⟩ : ∃ x y, d = .tup [x, y] := by
      cases d <;> simp only [longD, Bool.false_eq_true, beq_iff_eq] at hl
      next xs =>
        rcases xs with _ | ⟨x, _ | ⟨y, _ | ⟨z, r⟩⟩⟩ <;> simp at hl
        exact ⟨x, y, rfl⟩
    have hx := is_number_ok n x cs (h.its _ rfl x (by simp))
    have hy := is_number_ok n y cs (h.its _ rfl y (by simp))
    cases hnx : numD x with
    | false =>
      rw [hnx] at hx
      have hf : frB (.tup [x, y]) = false := by cases x <;> first | rfl | simp [numD] at hnx
      rw [xr (d := .bl false) (c := cs) (by simp [exs, ex, ev, evs, evAnd, evOr, tst, tstAll, tstAny, view, R.bind, R.rs, R.opt, RS.seq, endS, endD, binD, cmpD, eqD, ltD, truD, biD, isiD, tyD, idxD, at', ixN, asg, asgs, fz, fzs, List.map, List.getElem?_cons_zero, List.getElem?_cons_succ, Option.map, List.set_cons_zero, List.set_cons_succ, List.length_cons, List.length_nil, hL, hx])]
      simp [endS, endD, hf]
    | true =>
      rw [hnx] at hx
      obtain ⟨p, rfl⟩ : ∃ p, x = .int p := by cases x <;> simp [numD] at hnx; exact ⟨_, rfl⟩
      cases hny : numD y with
      | false =>
        rw [hny] at hy
        have hf : frB (.tup [.int p, y]) = false := by cases y <;> first | rfl | simp [numD] at hny
        rw [xr (d := .bl false) (c := cs) (by simp [exs, ex, ev, evs, evAnd, evOr, tst, tstAll, tstAny, view, R.bind, R.rs, R.opt, RS.seq, endS, endD, binD, cmpD, eqD, ltD, truD, biD, isiD, tyD, idxD, at', ixN, asg, asgs, fz, fzs, List.map, List.getElem?_cons_zero, List.getElem?_cons_succ, Option.map, List.set_cons_zero, List.set_cons_succ, List.length_cons, List.length_nil, hL, hx, hy])]
        simp [endS, endD, hf]
      | true =>
        rw [hny] at hy
        obtain ⟨q, rfl⟩ : ∃ q, y = .int q := by cases y <;> simp [numD] at hny; exact ⟨_, rfl⟩
        by_cases hq : q < 1
        · rw [xr (d := .bl false) (c := cs) (by simp [exs, ex, ev, evs, evAnd, evOr, tst, tstAll, tstAny, view, R.bind, R.rs, R.opt, RS.seq, endS, endD, binD, cmpD, eqD, ltD, truD, biD, isiD, tyD, idxD, at', ixN, asg, asgs, fz, fzs, List.map, List.getElem?_cons_zero, List.getElem?_cons_succ, Option.map, List.set_cons_zero, List.set_cons_succ, List.length_cons, List.length_nil, hL, hx, hy, hq])]
          have : ¬ 1 ≤ q := by omega
          simp [endS, endD, frB, this]
        · have hd := divisor_ok n p q cs (Nat.lt_of_lt_of_le (h.small p q rfl) (Nat.pow_le_pow_right (by omega) (by omega)))
          rw [xn (env' := [some (.tup [.int p, .int q])]) (c := cs) (by simp [exs, ex, ev, evs, evAnd, evOr, tst, tstAll, tstAny, view, R.bind, R.rs, R.opt, RS.seq, endS, endD, binD, cmpD, eqD, ltD, truD, biD, isiD, tyD, idxD, at', ixN, asg, asgs, fz, fzs, List.map, List.getElem?_cons_zero, List.getElem?_cons_succ, Option.map, List.set_cons_zero, List.set_cons_succ, List.length_cons, List.length_nil, hL, hx, hy, hq]), xr (d := .bl (gI p q == 1)) (c := cs) (by simp [exs, ex, ev, evs, evAnd, evOr, tst, tstAll, tstAny, view, R.bind, R.rs, R.opt, RS.seq, endS, endD, binD, cmpD, eqD, ltD, truD, biD, isiD, tyD, idxD, at', ixN, asg, asgs, fz, fzs, List.map, List.getElem?_cons_zero, List.getElem?_cons_succ, Option.map, List.set_cons_zero, List.set_cons_succ, List.length_cons, List.length_nil, hd])]
          have : 1 ≤ q := by omega
          simp [endS, endD, frB, this]
/-! FRACTIONS -/
structure Fr (p q : Int) : Prop where
  pos : 1 ≤ q
  low : gI p q = 1
  up : p.natAbs ≤ 10 ^ 12
  dn : q ≤ 10 ^ 12
abbrev fr (p q : Int) : D := .tup [.int p, .int q]
theorem two64 : (10 ^ 12 : Nat) < 2 ^ 64 := by decide
theorem mul_r {a b : Int} (h : b.natAbs < 2 ^ 64) : mulOk a b = true := by
  unfold mulOk
  rw [decide_eq_true h]
  simp
theorem mul_l {a b : Int} (h : a.natAbs < 2 ^ 64) : mulOk a b = true := by
  unfold mulOk
  rw [decide_eq_true h]
  simp
theorem Fr.s1 {p q : Int} (h : Fr p q) : p.natAbs < 2 ^ 64 := Nat.lt_of_le_of_lt h.up two64
theorem Fr.s2 {p q : Int} (h : Fr p q) : q.natAbs < 2 ^ 64 := by
  have := h.pos
  have h2 := h.dn
  have : q.natAbs ≤ 10 ^ 12 := by omega
  exact Nat.lt_of_le_of_lt this two64
theorem p64 {x : Nat} (h : x < 2 ^ 64) : x < 2 ^ 4000 := Nat.lt_of_lt_of_le h (Nat.pow_le_pow_right (by omega) (by omega))
theorem Fr.b {p q : Int} (h : Fr p q) : frB (fr p q) = true := by
  have := h.pos
  simp [frB, this, h.low]
theorem Fr.okd {p q : Int} (h : Fr p q) : Okd (fr p q) := by
  refine ⟨rfl, fun xs e x hx => ?_, fun p' q' e => ?_⟩
  · cases e
    simp at hx
    rcases hx with rfl | rfl <;> rfl
  · cases e
    exact p64 h.s2
theorem tup_pair (n : Nat) (x y d : D) (cs : Cells) (hx : leaf x = true) (hy : leaf y = true) (hd : d = .tup [x, y] ∨ d = .lst [x, y]) : callN code (n + 2) 2 [d] cs = .ok (.tup [x, y]) cs := by
  have := tup_seq (n + 1) [x, y] id d cs hd (fun z hz cs => by
    simp at hz
    rcases hz with rfl | rfl
    · exact tup_leaf n _ cs hx
    · exact tup_leaf n _ cs hy) (fun z hz => by
    simp at hz
    rcases hz with rfl | rfl
    · cases z <;> first | rfl | simp [leaf] at hx
    · cases z <;> first | rfl | simp [leaf] at hy) (by simp [big])
  simpa using this
theorem sure_ok (n : Nat) {p q : Int} (h : Fr p q) (d : D) (cs : Cells) (hd : d = fr p q ∨ d = .lst [.int p, .int q]) : callN code (n + 3) 6 [d] cs = .ok (fr p q) cs := by
  have h1 := tup_pair n (.int p) (.int q) d cs rfl rfl hd
  have h2 := is_fr_ok n (fr p q) cs h.okd
  rw [h.b] at h2
  have hu := h.up
  have hp := h.pos
  have hn := h.dn
  have hm : ¬ (1000000000000 < if (p.natAbs : Int) < q then q else (p.natAbs : Int)) := by split <;> omega
  rw [cl [some d, none] rfl rfl rfl, xn (env' := [some d, some (fr p q)]) (c := cs) (by simp [exs, ex, ev, evs, evAnd, evOr, tst, tstAll, tstAny, view, R.bind, R.rs, R.opt, RS.seq, endS, endD, binD, cmpD, eqD, ltD, truD, biD, isiD, tyD, idxD, at', ixN, asg, asgs, fz, fzs, List.map, List.getElem?_cons_zero, List.getElem?_cons_succ, Option.map, List.set_cons_zero, List.set_cons_succ, List.length_cons, List.length_nil, h1]), xn (env' := [some d, some (fr p q)]) (c := cs) (by simp [exs, ex, ev, evs, evAnd, evOr, tst, tstAll, tstAny, view, R.bind, R.rs, R.opt, RS.seq, endS, endD, binD, cmpD, eqD, ltD, truD, biD, isiD, tyD, idxD, at', ixN, asg, asgs, fz, fzs, List.map, List.getElem?_cons_zero, List.getElem?_cons_succ, Option.map, List.set_cons_zero, List.set_cons_succ, List.length_cons, List.length_nil, h2, absI, hm]), xr (by simp only [exs, ex, ev, evs, evAnd, evOr, tst, tstAll, tstAny, view, R.bind, R.rs, R.opt, RS.seq, endS, endD, binD, cmpD, eqD, ltD, truD, biD, isiD, tyD, idxD, at', ixN, asg, asgs, fz, fzs, List.map, List.getElem?_cons_zero, List.getElem?_cons_succ, Option.map, List.set_cons_zero, List.set_cons_succ, List.length_cons, List.length_nil]; rfl)]
  simp [endS, endD]
theorem sure_bad (n : Nat) (d d' : D) (cs : Cells) (h1 : callN code (n + 2) 2 [d] cs = .ok d' cs) (h2 : callN code (n + 2) 5 [d'] cs = .ok (.bl false) cs) : callN code (n + 3) 6 [d] cs = .exc ⟨2, []⟩ cs := by
  rw [cl [some d, none] rfl rfl rfl, xn (env' := [some d, some d']) (c := cs) (by simp [exs, ex, ev, evs, evAnd, evOr, tst, tstAll, tstAny, view, R.bind, R.rs, R.opt, RS.seq, endS, endD, binD, cmpD, eqD, ltD, truD, biD, isiD, tyD, idxD, at', ixN, asg, asgs, fz, fzs, List.map, List.getElem?_cons_zero, List.getElem?_cons_succ, Option.map, List.set_cons_zero, List.set_cons_succ, List.length_cons, List.length_nil, h1]), xx (x := ⟨2, []⟩) (env' := [some d, some d']) (c := cs) (by simp [exs, ex, ev, evs, evAnd, evOr, tst, tstAll, tstAny, view, R.bind, R.rs, R.opt, RS.seq, endS, endD, binD, cmpD, eqD, ltD, truD, biD, isiD, tyD, idxD, at', ixN, asg, asgs, fz, fzs, List.map, List.getElem?_cons_zero, List.getElem?_cons_succ, Option.map, List.set_cons_zero, List.set_cons_succ, List.length_cons, List.length_nil, h2])]
  simp [endS, take_len]
theorem sure_great (n : Nat) (d : D) (p q : Int) (cs : Cells) (h1 : callN code (n + 2) 2 [d] cs = .ok (fr p q) cs) (h2 : callN code (n + 2) 5 [fr p q] cs = .ok (.bl true) cs) (hg : 10 ^ 12 < q) : callN code (n + 3) 6 [d] cs = .exc ⟨2, []⟩ cs := by
  have hm : 1000000000000 < (if (p.natAbs : Int) < q then q else (p.natAbs : Int)) := by split <;> omega
  rw [cl [some d, none] rfl rfl rfl, xn (env' := [some d, some (fr p q)]) (c := cs) (by simp [exs, ex, ev, evs, evAnd, evOr, tst, tstAll, tstAny, view, R.bind, R.rs, R.opt, RS.seq, endS, endD, binD, cmpD, eqD, ltD, truD, biD, isiD, tyD, idxD, at', ixN, asg, asgs, fz, fzs, List.map, List.getElem?_cons_zero, List.getElem?_cons_succ, Option.map, List.set_cons_zero, List.set_cons_succ, List.length_cons, List.length_nil, h1]), xx (x := ⟨2, []⟩) (env' := [some d, some (fr p q)]) (c := cs) (by simp [exs, ex, ev, evs, evAnd, evOr, tst, tstAll, tstAny, view, R.bind, R.rs, R.opt, RS.seq, endS, endD, binD, cmpD, eqD, ltD, truD, biD, isiD, tyD, idxD, at', ixN, asg, asgs, fz, fzs, List.map, List.getElem?_cons_zero, List.getElem?_cons_succ, Option.map, List.set_cons_zero, List.set_cons_succ, List.length_cons, List.length_nil, h2, absI, hm])]
  simp [endS, take_len]
theorem lo_own (a b : Int) (cs : Cells) (n0 : Nat) (k : Bool) : endD k n0 (lo a b) cs = .ok (lo a b) (cs.take n0) := by unfold lo; split <;> rfl
theorem fro_lo (a b : Int) : fro (lo a b) = true := by unfold lo; split <;> rfl
section
variable {p q r s : Int}
theorem plus_ok (n : Nat) (cs : Cells) (h0 : q * s ≠ 0) (hb : (q * s).natAbs < 2 ^ 4000) (hr : r.natAbs < 2 ^ 64) (hs : s.natAbs < 2 ^ 64) : callN code (n + 3) 7 [fr p q, fr r s] cs = .ok (lo (p * s + r * q) (q * s)) cs := by
  have h := made_ok n (p * s + r * q) (q * s) cs h0 hb
  rw [cl [some (fr p q), some (fr r s)] rfl rfl rfl, xr (by simp [exs, ex, ev, evs, evAnd, evOr, tst, tstAll, tstAny, view, R.bind, R.rs, R.opt, RS.seq, endS, endD, binD, cmpD, eqD, ltD, truD, biD, isiD, tyD, idxD, at', ixN, asg, asgs, fz, fzs, List.map, List.getElem?_cons_zero, List.getElem?_cons_succ, Option.map, List.set_cons_zero, List.set_cons_succ, List.length_cons, List.length_nil, mul_r hs, mul_l hr, h]; exact ⟨rfl, rfl⟩)]
  simp [endS, lo_own]
theorem minus_ok (n : Nat) (cs : Cells) (h0 : q * s ≠ 0) (hb : (q * s).natAbs < 2 ^ 4000) (hr : r.natAbs < 2 ^ 64) (hs : s.natAbs < 2 ^ 64) : callN code (n + 3) 8 [fr p q, fr r s] cs = .ok (lo (p * s - r * q) (q * s)) cs := by
  have h := made_ok n (p * s - r * q) (q * s) cs h0 hb
  rw [cl [some (fr p q), some (fr r s)] rfl rfl rfl, xr (by simp [exs, ex, ev, evs, evAnd, evOr, tst, tstAll, tstAny, view, R.bind, R.rs, R.opt, RS.seq, endS, endD, binD, cmpD, eqD, ltD, truD, biD, isiD, tyD, idxD, at', ixN, asg, asgs, fz, fzs, List.map, List.getElem?_cons_zero, List.getElem?_cons_succ, Option.map, List.set_cons_zero, List.set_cons_succ, List.length_cons, List.length_nil, mul_r hs, mul_l hr, h]; exact ⟨rfl, rfl⟩)]
  simp [endS, lo_own]
theorem times_ok (n : Nat) (cs : Cells) (h0 : q * s ≠ 0) (hb : (q * s).natAbs < 2 ^ 4000) (hr : r.natAbs < 2 ^ 64) (hs : s.natAbs < 2 ^ 64) : callN code (n + 3) 9 [fr p q, fr r s] cs = .ok (lo (p * r) (q * s)) cs := by
  have h := made_ok n (p * r) (q * s) cs h0 hb
  rw [cl [some (fr p q), some (fr r s)] rfl rfl rfl, xr (by simp [exs, ex, ev, evs, evAnd, evOr, tst, tstAll, tstAny, view, R.bind, R.rs, R.opt, RS.seq, endS, endD, binD, cmpD, eqD, ltD, truD, biD, isiD, tyD, idxD, at', ixN, asg, asgs, fz, fzs, List.map, List.getElem?_cons_zero, List.getElem?_cons_succ, Option.map, List.set_cons_zero, List.set_cons_succ, List.length_cons, List.length_nil, mul_r hs, mul_r hr, h]; exact ⟨rfl, rfl⟩)]
  simp [endS, lo_own]
def sgn (i : Int) : Int := if i > 0 then 1 else if i < 0 then -1 else 0
theorem compare_ok (n : Nat) (cs : Cells) (hr : r.natAbs < 2 ^ 64) (hs : s.natAbs < 2 ^ 64) : callN code (n + 1) 10 [fr p q, fr r s] cs = .ok (.int (sgn (p * s - r * q))) cs := by
  rw [cl [some (fr p q), some (fr r s), none, none] rfl rfl rfl, xn (env' := [some (fr p q), some (fr r s), some (.int (p * s)), some (.int (r * q))]) (c := cs) (by simp [exs, ex, ev, evs, evAnd, evOr, tst, tstAll, tstAny, view, R.bind, R.rs, R.opt, RS.seq, endS, endD, binD, cmpD, eqD, ltD, truD, biD, isiD, tyD, idxD, at', ixN, asg, asgs, fz, fzs, List.map, List.getElem?_cons_zero, List.getElem?_cons_succ, Option.map, List.set_cons_zero, List.set_cons_succ, List.length_cons, List.length_nil, mul_r hs, mul_l hr]), xr (d := .int (sgn (p * s - r * q))) (c := cs)]
  · simp [endS, endD]
  · simp [exs, ex, ev, evs, evAnd, evOr, tst, tstAll, tstAny, view, R.bind, R.rs, R.opt, RS.seq, endS, endD, binD, cmpD, eqD, ltD, truD, biD, isiD, tyD, idxD, at', ixN, asg, asgs, fz, fzs, List.map, List.getElem?_cons_zero, List.getElem?_cons_succ, Option.map, List.set_cons_zero, List.set_cons_succ, List.length_cons, List.length_nil, sgn, b2n]
    by_cases h1 : r * q < p * s
    · have h2 : ¬ p * s < r * q := by omega
      have h3 : 0 < p * s - r * q := by omega
      simp [h1, h2, h3]
    · by_cases h2 : p * s < r * q
      · have h3 : ¬ 0 < p * s - r * q := by omega
        have h4 : p * s - r * q < 0 := by omega
        simp [h1, h2, h3, h4]
      · have h3 : ¬ 0 < p * s - r * q := by omega
        have h4 : ¬ p * s - r * q < 0 := by omega
        simp [h1, h2, h3, h4]
theorem down_ok (n : Nat) (cs : Cells) (hq : 0 < q) (hb : q.natAbs < 2 ^ 64) : callN code (n + 1) 13 [fr p q] cs = .ok (.int (p / q)) cs := by
  rw [cl [some (fr p q)] rfl rfl rfl, xr (by simp [exs, ex, ev, evs, evAnd, evOr, tst, tstAll, tstAny, view, R.bind, R.rs, R.opt, RS.seq, endS, endD, binD, cmpD, eqD, ltD, truD, biD, isiD, tyD, idxD, at', ixN, asg, asgs, fz, fzs, List.map, List.getElem?_cons_zero, List.getElem?_cons_succ, Option.map, List.set_cons_zero, List.set_cons_succ, List.length_cons, List.length_nil, hq, divOk_of (p64 hb)]; exact ⟨rfl, rfl⟩)]
  simp [endS, endD]
theorem up_ok (n : Nat) (cs : Cells) (hq : 0 < q) (hb : q.natAbs < 2 ^ 64) : callN code (n + 1) 12 [fr p q] cs = .ok (.int (-(-p / q))) cs := by
  rw [cl [some (fr p q)] rfl rfl rfl, xr (by simp [exs, ex, ev, evs, evAnd, evOr, tst, tstAll, tstAny, view, R.bind, R.rs, R.opt, RS.seq, endS, endD, binD, cmpD, eqD, ltD, truD, biD, isiD, tyD, idxD, at', ixN, asg, asgs, fz, fzs, List.map, List.getElem?_cons_zero, List.getElem?_cons_succ, Option.map, List.set_cons_zero, List.set_cons_succ, List.length_cons, List.length_nil, hq, divOk_of (p64 hb)]; exact ⟨rfl, rfl⟩)]
  simp [endS, endD]
/-- the doors -/
theorem sure_two_ok (n : Nat) (h : Fr p q) (h' : Fr r s) (d e : D) (cs : Cells) (hd : d = fr p q ∨ d = .lst [.int p, .int q]) (he : e = fr r s ∨ e = .lst [.int r, .int s]) : callN code (n + 4) 16 [d, e] cs = .ok (.tup [fr p q, fr r s]) cs := by
  have h1 := sure_ok n h d cs hd
  have h2 := sure_ok n h' e cs he
  rw [cl [some d, some e, none] rfl rfl rfl, xn (env' := [some d, some e, some (fr p q)]) (c := cs) (by simp [exs, ex, ev, evs, evAnd, evOr, tst, tstAll, tstAny, view, R.bind, R.rs, R.opt, RS.seq, endS, endD, binD, cmpD, eqD, ltD, truD, biD, isiD, tyD, idxD, at', ixN, asg, asgs, fz, fzs, List.map, List.getElem?_cons_zero, List.getElem?_cons_succ, Option.map, List.set_cons_zero, List.set_cons_succ, List.length_cons, List.length_nil, h1]), xr (by simp [exs, ex, ev, evs, evAnd, evOr, tst, tstAll, tstAny, view, R.bind, R.rs, R.opt, RS.seq, endS, endD, binD, cmpD, eqD, ltD, truD, biD, isiD, tyD, idxD, at', ixN, asg, asgs, fz, fzs, List.map, List.getElem?_cons_zero, List.getElem?_cons_succ, Option.map, List.set_cons_zero, List.set_cons_succ, List.length_cons, List.length_nil, h2]; exact ⟨rfl, rfl⟩)]
  simp [endS, endD]
theorem Fr.ne (h : Fr p q) (h' : Fr r s) : q * s ≠ 0 := by
  have := h.pos
  have := h'.pos
  exact Int.mul_ne_zero (by omega) (by omega)
theorem nat128 {a b : Int} (ha : a.natAbs < 2 ^ 64) (hb : b.natAbs < 2 ^ 64) : (a * b).natAbs < 2 ^ 4000 := by
  rw [Int.natAbs_mul]
  have h1 : a.natAbs * b.natAbs ≤ 2 ^ 64 * 2 ^ 64 := Nat.mul_le_mul (by omega) (by omega)
  refine Nat.lt_of_le_of_lt h1 ?_
  rw [← Nat.pow_add]
  exact Nat.pow_lt_pow_right (by omega) (by omega)
variable (h : Fr p q) (h' : Fr r s) {d e : D} (hd : d = fr p q ∨ d = .lst [.int p, .int q]) (he : e = fr r s ∨ e = .lst [.int r, .int s])
include h h' hd he
theorem fsum_ok (n : Nat) (cs : Cells) : callN code (n + 5) 17 [d, e] cs = .ok (lo (p * s + r * q) (q * s)) cs := by
  have h1 := sure_two_ok n h h' d e cs hd he
  have h2 := plus_ok (p := p) (n + 1) cs (h.ne h') (nat128 h.s2 h'.s2) h'.s1 h'.s2
  rw [cl [some d, some e, none, none] rfl rfl rfl, xn (env' := [some d, some e, some (fr p q), some (fr r s)]) (c := cs) (by simp [exs, ex, ev, evs, evAnd, evOr, tst, tstAll, tstAny, view, R.bind, R.rs, R.opt, RS.seq, endS, endD, binD, cmpD, eqD, ltD, truD, biD, isiD, tyD, idxD, at', ixN, asg, asgs, fz, fzs, List.map, List.getElem?_cons_zero, List.getElem?_cons_succ, Option.map, List.set_cons_zero, List.set_cons_succ, List.length_cons, List.length_nil, h1]), xr (by simp [exs, ex, ev, evs, evAnd, evOr, tst, tstAll, tstAny, view, R.bind, R.rs, R.opt, RS.seq, endS, endD, binD, cmpD, eqD, ltD, truD, biD, isiD, tyD, idxD, at', ixN, asg, asgs, fz, fzs, List.map, List.getElem?_cons_zero, List.getElem?_cons_succ, Option.map, List.set_cons_zero, List.set_cons_succ, List.length_cons, List.length_nil, h2]; exact ⟨rfl, rfl⟩)]
  simp [endS, lo_own]
theorem fless_ok (n : Nat) (cs : Cells) : callN code (n + 5) 18 [d, e] cs = .ok (lo (p * s - r * q) (q * s)) cs := by
  have h1 := sure_two_ok n h h' d e cs hd he
  have h2 := minus_ok (p := p) (n + 1) cs (h.ne h') (nat128 h.s2 h'.s2) h'.s1 h'.s2
  rw [cl [some d, some e, none, none] rfl rfl rfl, xn (env' := [some d, some e, some (fr p q), some (fr r s)]) (c := cs) (by simp [exs, ex, ev, evs, evAnd, evOr, tst, tstAll, tstAny, view, R.bind, R.rs, R.opt, RS.seq, endS, endD, binD, cmpD, eqD, ltD, truD, biD, isiD, tyD, idxD, at', ixN, asg, asgs, fz, fzs, List.map, List.getElem?_cons_zero, List.getElem?_cons_succ, Option.map, List.set_cons_zero, List.set_cons_succ, List.length_cons, List.length_nil, h1]), xr (by simp [exs, ex, ev, evs, evAnd, evOr, tst, tstAll, tstAny, view, R.bind, R.rs, R.opt, RS.seq, endS, endD, binD, cmpD, eqD, ltD, truD, biD, isiD, tyD, idxD, at', ixN, asg, asgs, fz, fzs, List.map, List.getElem?_cons_zero, List.getElem?_cons_succ, Option.map, List.set_cons_zero, List.set_cons_succ, List.length_cons, List.length_nil, h2]; exact ⟨rfl, rfl⟩)]
  simp [endS, lo_own]
theorem fprod_ok (n : Nat) (cs : Cells) : callN code (n + 5) 19 [d, e] cs = .ok (lo (p * r) (q * s)) cs := by
  have h1 := sure_two_ok n h h' d e cs hd he
  have h2 := times_ok (p := p) (n + 1) cs (h.ne h') (nat128 h.s2 h'.s2) h'.s1 h'.s2
  rw [cl [some d, some e, none, none] rfl rfl rfl, xn (env' := [some d, some e, some (fr p q), some (fr r s)]) (c := cs) (by simp [exs, ex, ev, evs, evAnd, evOr, tst, tstAll, tstAny, view, R.bind, R.rs, R.opt, RS.seq, endS, endD, binD, cmpD, eqD, ltD, truD, biD, isiD, tyD, idxD, at', ixN, asg, asgs, fz, fzs, List.map, List.getElem?_cons_zero, List.getElem?_cons_succ, Option.map, List.set_cons_zero, List.set_cons_succ, List.length_cons, List.length_nil, h1]), xr (by simp [exs, ex, ev, evs, evAnd, evOr, tst, tstAll, tstAny, view, R.bind, R.rs, R.opt, RS.seq, endS, endD, binD, cmpD, eqD, ltD, truD, biD, isiD, tyD, idxD, at', ixN, asg, asgs, fz, fzs, List.map, List.getElem?_cons_zero, List.getElem?_cons_succ, Option.map, List.set_cons_zero, List.set_cons_succ, List.length_cons, List.length_nil, h2]; exact ⟨rfl, rfl⟩)]
  simp [endS, lo_own]
theorem fcmp_ok (n : Nat) (cs : Cells) : callN code (n + 5) 21 [d, e] cs = .ok (.int (sgn (p * s - r * q))) cs := by
  have h1 := sure_two_ok n h h' d e cs hd he
  have h2 := compare_ok (p := p) (q := q) (n + 3) cs h'.s1 h'.s2
  rw [cl [some d, some e, none, none] rfl rfl rfl, xn (env' := [some d, some e, some (fr p q), some (fr r s)]) (c := cs) (by simp [exs, ex, ev, evs, evAnd, evOr, tst, tstAll, tstAny, view, R.bind, R.rs, R.opt, RS.seq, endS, endD, binD, cmpD, eqD, ltD, truD, biD, isiD, tyD, idxD, at', ixN, asg, asgs, fz, fzs, List.map, List.getElem?_cons_zero, List.getElem?_cons_succ, Option.map, List.set_cons_zero, List.set_cons_succ, List.length_cons, List.length_nil, h1]), xr (by simp [exs, ex, ev, evs, evAnd, evOr, tst, tstAll, tstAny, view, R.bind, R.rs, R.opt, RS.seq, endS, endD, binD, cmpD, eqD, ltD, truD, biD, isiD, tyD, idxD, at', ixN, asg, asgs, fz, fzs, List.map, List.getElem?_cons_zero, List.getElem?_cons_succ, Option.map, List.set_cons_zero, List.set_cons_succ, List.length_cons, List.length_nil, h2]; exact ⟨rfl, rfl⟩)]
  simp [endS, endD]
theorem fquo_ok (n : Nat) (cs : Cells) (hr : r ≠ 0) : callN code (n + 5) 20 [d, e] cs = .ok (lo (p * s) (q * r)) cs := by
  have h1 := sure_two_ok n h h' d e cs hd he
  have h2 := made_ok (n + 2) (p * s) (q * r) cs (Int.mul_ne_zero (by have := h.pos; omega) hr) (nat128 h.s2 h'.s1)
  rw [cl [some d, some e, none, none] rfl rfl rfl, xn (env' := [some d, some e, some (fr p q), some (fr r s)]) (c := cs) (by simp [exs, ex, ev, evs, evAnd, evOr, tst, tstAll, tstAny, view, R.bind, R.rs, R.opt, RS.seq, endS, endD, binD, cmpD, eqD, ltD, truD, biD, isiD, tyD, idxD, at', ixN, asg, asgs, fz, fzs, List.map, List.getElem?_cons_zero, List.getElem?_cons_succ, Option.map, List.set_cons_zero, List.set_cons_succ, List.length_cons, List.length_nil, h1]), xn (env' := [some d, some e, some (fr p q), some (fr r s)]) (c := cs) (by simp [exs, ex, ev, evs, evAnd, evOr, tst, tstAll, tstAny, view, R.bind, R.rs, R.opt, RS.seq, endS, endD, binD, cmpD, eqD, ltD, truD, biD, isiD, tyD, idxD, at', ixN, asg, asgs, fz, fzs, List.map, List.getElem?_cons_zero, List.getElem?_cons_succ, Option.map, List.set_cons_zero, List.set_cons_succ, List.length_cons, List.length_nil, hr]), xr (by simp [exs, ex, ev, evs, evAnd, evOr, tst, tstAll, tstAny, view, R.bind, R.rs, R.opt, RS.seq, endS, endD, binD, cmpD, eqD, ltD, truD, biD, isiD, tyD, idxD, at', ixN, asg, asgs, fz, fzs, List.map, List.getElem?_cons_zero, List.getElem?_cons_succ, Option.map, List.set_cons_zero, List.set_cons_succ, List.length_cons, List.length_nil, mul_r h'.s2, mul_r h'.s1, h2]; exact ⟨rfl, rfl⟩)]
  simp [endS, lo_own]
theorem fquo_no (n : Nat) (cs : Cells) (hr : r = 0) : callN code (n + 5) 20 [d, e] cs = .exc ⟨0, []⟩ cs := by
  have h1 := sure_two_ok n h h' d e cs hd he
  subst hr
  rw [cl [some d, some e, none, none] rfl rfl rfl, xn (env' := [some d, some e, some (fr p q), some (fr 0 s)]) (c := cs) (by simp [exs, ex, ev, evs, evAnd, evOr, tst, tstAll, tstAny, view, R.bind, R.rs, R.opt, RS.seq, endS, endD, binD, cmpD, eqD, ltD, truD, biD, isiD, tyD, idxD, at', ixN, asg, asgs, fz, fzs, List.map, List.getElem?_cons_zero, List.getElem?_cons_succ, Option.map, List.set_cons_zero, List.set_cons_succ, List.length_cons, List.length_nil, h1]), xx (x := ⟨0, []⟩) (env' := [some d, some e, some (fr p q), some (fr 0 s)]) (c := cs) (by simp [exs, ex, ev, evs, evAnd, evOr, tst, tstAll, tstAny, view, R.bind, R.rs, R.opt, RS.seq, endS, endD, binD, cmpD, eqD, ltD, truD, biD, isiD, tyD, idxD, at', ixN, asg, asgs, fz, fzs, List.map, List.getElem?_cons_zero, List.getElem?_cons_succ, Option.map, List.set_cons_zero, List.set_cons_succ, List.length_cons, List.length_nil])]
  simp [endS, take_len]
end
theorem rdown_ok (n : Nat) {p q : Int} (h : Fr p q) (cs : Cells) : callN code (n + 4) 22 [fr p q] cs = .ok (.int (p / q)) cs := by
  have h1 := sure_ok n h _ cs (.inl rfl)
  have h2 := down_ok (p := p) (n + 2) cs (by have := h.pos; omega) h.s2
  rw [cl [some (fr p q)] rfl rfl rfl, xr (by simp [exs, ex, ev, evs, evAnd, evOr, tst, tstAll, tstAny, view, R.bind, R.rs, R.opt, RS.seq, endS, endD, binD, cmpD, eqD, ltD, truD, biD, isiD, tyD, idxD, at', ixN, asg, asgs, fz, fzs, List.map, List.getElem?_cons_zero, List.getElem?_cons_succ, Option.map, List.set_cons_zero, List.set_cons_succ, List.length_cons, List.length_nil, h1, h2]; exact ⟨rfl, rfl⟩)]
  simp [endS, endD]
theorem rup_ok (n : Nat) {p q : Int} (h : Fr p q) (cs : Cells) : callN code (n + 4) 23 [fr p q] cs = .ok (.int (-(-p / q))) cs := by
  have h1 := sure_ok n h _ cs (.inl rfl)
  have h2 := up_ok (p := p) (n + 2) cs (by have := h.pos; omega) h.s2
  rw [cl [some (fr p q)] rfl rfl rfl, xr (by simp [exs, ex, ev, evs, evAnd, evOr, tst, tstAll, tstAny, view, R.bind, R.rs, R.opt, RS.seq, endS, endD, binD, cmpD, eqD, ltD, truD, biD, isiD, tyD, idxD, at', ixN, asg, asgs, fz, fzs, List.map, List.getElem?_cons_zero, List.getElem?_cons_succ, Option.map, List.set_cons_zero, List.set_cons_succ, List.length_cons, List.length_nil, h1, h2]; exact ⟨rfl, rfl⟩)]
  simp [endS, endD]
theorem fraction_ok (n : Nat) (a b : Int) (cs : Cells) (ha : a.natAbs ≤ 10 ^ 12) (hb : b.natAbs ≤ 10 ^ 12) (h0 : b ≠ 0) : callN code (n + 3) 15 [.int a, .int b] cs = .ok (lo a b) cs := by
  have h1 := is_number_ok (n + 1) (.int a) cs rfl
  have h2 := is_number_ok (n + 1) (.int b) cs rfl
  have h3 := made_ok n a b cs h0 (p64 (Nat.lt_of_le_of_lt hb two64))
  have hm : ¬ ((1000000000000 : Int) < if a.natAbs < b.natAbs then (b.natAbs : Int) else (a.natAbs : Int)) := by split <;> omega
  rw [cl [some (.int a), some (.int b)] rfl rfl rfl, xn (env' := [some (.int a), some (.int b)]) (c := cs) (by simp [exs, ex, ev, evs, evAnd, evOr, tst, tstAll, tstAny, view, R.bind, R.rs, R.opt, RS.seq, endS, endD, binD, cmpD, eqD, ltD, truD, biD, isiD, tyD, idxD, at', ixN, asg, asgs, fz, fzs, List.map, List.getElem?_cons_zero, List.getElem?_cons_succ, Option.map, List.set_cons_zero, List.set_cons_succ, List.length_cons, List.length_nil, h1, h2, numD, absI, hm]), xn (env' := [some (.int a), some (.int b)]) (c := cs) (by simp [exs, ex, ev, evs, evAnd, evOr, tst, tstAll, tstAny, view, R.bind, R.rs, R.opt, RS.seq, endS, endD, binD, cmpD, eqD, ltD, truD, biD, isiD, tyD, idxD, at', ixN, asg, asgs, fz, fzs, List.map, List.getElem?_cons_zero, List.getElem?_cons_succ, Option.map, List.set_cons_zero, List.set_cons_succ, List.length_cons, List.length_nil, h0]), xr (by simp [exs, ex, ev, evs, evAnd, evOr, tst, tstAll, tstAny, view, R.bind, R.rs, R.opt, RS.seq, endS, endD, binD, cmpD, eqD, ltD, truD, biD, isiD, tyD, idxD, at', ixN, asg, asgs, fz, fzs, List.map, List.getElem?_cons_zero, List.getElem?_cons_succ, Option.map, List.set_cons_zero, List.set_cons_succ, List.length_cons, List.length_nil, h3]; exact ⟨rfl, rfl⟩)]
  simp [endS, lo_own]
theorem fraction_no (n : Nat) (a : Int) (cs : Cells) (ha : a.natAbs ≤ 10 ^ 12) : callN code (n + 3) 15 [.int a, .int 0] cs = .exc ⟨0, []⟩ cs := by
  have h1 := is_number_ok (n + 1) (.int a) cs rfl
  have h2 := is_number_ok (n + 1) (.int 0) cs rfl
  have hm : ¬ (1000000000000 < if (a.natAbs : Int) < 0 then 0 else (a.natAbs : Int)) := by split <;> omega
  rw [cl [some (.int a), some (.int 0)] rfl rfl rfl, xn (env' := [some (.int a), some (.int 0)]) (c := cs) (by simp [exs, ex, ev, evs, evAnd, evOr, tst, tstAll, tstAny, view, R.bind, R.rs, R.opt, RS.seq, endS, endD, binD, cmpD, eqD, ltD, truD, biD, isiD, tyD, idxD, at', ixN, asg, asgs, fz, fzs, List.map, List.getElem?_cons_zero, List.getElem?_cons_succ, Option.map, List.set_cons_zero, List.set_cons_succ, List.length_cons, List.length_nil, h1, h2, numD, absI, hm]), xx (x := ⟨0, []⟩) (env' := [some (.int a), some (.int 0)]) (c := cs) (by simp [exs, ex, ev, evs, evAnd, evOr, tst, tstAll, tstAny, view, R.bind, R.rs, R.opt, RS.seq, endS, endD, binD, cmpD, eqD, ltD, truD, biD, isiD, tyD, idxD, at', ixN, asg, asgs, fz, fzs, List.map, List.getElem?_cons_zero, List.getElem?_cons_succ, Option.map, List.set_cons_zero, List.set_cons_succ, List.length_cons, List.length_nil])]
  simp [endS, take_len]
/-! added up -/
def loP (a b : Int) : Int × Int := if 0 < b then (a / gI a b, b / gI a b) else (-a / gI a b, -b / gI a b)
theorem lo_P (a b : Int) : lo a b = fr (loP a b).1 (loP a b).2 := by unfold lo loP; split <;> rfl
theorem loP_pos {a b : Int} (h : 0 < b) : 1 ≤ (loP a b).2 ∧ (loP a b).2 ≤ b := by
  have g0 := gI_pos (a := a) (b := b) (by omega)
  obtain ⟨k, hk⟩ := gI_r a b
  simp only [loP, h, if_true]
  have hk0 : 0 < k := by
    rcases Int.lt_or_le 0 k with h1 | h1
    · exact h1
    · have := Int.mul_le_mul_of_nonneg_left h1 (Int.le_of_lt g0)
      rw [← hk] at this
      omega
  have e : b / gI a b = k := by
    conv => lhs; arg 1; rw [hk]
    exact Int.mul_ediv_cancel_left _ (by omega)
  rw [e]
  refine ⟨hk0, ?_⟩
  have : 1 * k ≤ gI a b * k := Int.mul_le_mul_of_nonneg_right (by omega) (by omega)
  omega
abbrev Row := Int × Int
abbrev rD (r : Row) : D := fr r.1 r.2
def stp (a r : Row) : Row := loP (a.1 * r.2 + r.1 * a.2) (a.2 * r.2)
def tot (a : Row) (rs : List Row) : Row := rs.foldl stp a
def small (i : Nat) (y : Int) : Prop := 1 ≤ y ∧ y ≤ 2 ^ (40 * i)
theorem twelve : (10 ^ 12 : Int) ≤ 2 ^ 40 := by decide
theorem small_step {i : Nat} {y s : Int} (h : small i y) (h1 : 1 ≤ s) (h2 : s ≤ 10 ^ 12) : 0 < y * s ∧ y * s ≤ 2 ^ (40 * (i + 1)) := by
  obtain ⟨a, b⟩ := h
  refine ⟨Int.mul_pos (by omega) (by omega), ?_⟩
  have e : (2 : Int) ^ (40 * (i + 1)) = 2 ^ (40 * i) * 2 ^ 40 := by rw [show 40 * (i + 1) = 40 * i + 40 by omega, Int.pow_add]
  rw [e]
  have h3 : s ≤ 2 ^ 40 := Int.le_trans h2 twelve
  exact Int.mul_le_mul b h3 (by omega) (by omega)
theorem small_nat {i : Nat} {y : Int} (hi : i ≤ 41) (h : 0 < y) (h2 : y ≤ 2 ^ (40 * i)) : y.natAbs < 2 ^ 4000 := by
  have h3 : (2 : Int) ^ (40 * i) ≤ 2 ^ 1640 := by
    have := Nat.pow_le_pow_right (n := 2) (by omega) (show 40 * i ≤ 1640 by omega)
    exact_mod_cast this
  have h4 : y.natAbs ≤ 2 ^ 1640 := by
    have : (y.natAbs : Int) ≤ 2 ^ 1640 := by omega
    exact_mod_cast this
  exact Nat.lt_of_le_of_lt h4 (Nat.pow_lt_pow_right (by omega) (by omega))
theorem stp_small {i : Nat} {a r : Row} (ha : small i a.2) (hr : Fr r.1 r.2) : small (i + 1) (stp a r).2 := by
  obtain ⟨h1, h2⟩ := small_step ha hr.pos hr.dn
  obtain ⟨h3, h4⟩ := loP_pos (a := a.1 * r.2 + r.1 * a.2) h1
  exact ⟨h3, Int.le_trans h4 h2⟩
theorem plus_stp (n : Nat) (cs : Cells) {i : Nat} (hi : i ≤ 40) {a r : Row} (ha : small i a.2) (hr : Fr r.1 r.2) : callN code (n + 3) 7 [rD a, rD r] cs = .ok (rD (stp a r)) cs := by
  obtain ⟨h1, h2⟩ := small_step ha hr.pos hr.dn
  have := plus_ok (p := a.1) (q := a.2) (r := r.1) (s := r.2) n cs (by omega) (small_nat (i := i + 1) (by omega) h1 h2) hr.s1 hr.s2
  rw [this, lo_P]
  rfl
theorem total_loop (n : Nat) (cs : Cells) (mu : Bool) (rs : List Row) (hrs : ∀ r ∈ rs, Fr r.1 r.2) (hl : rs.length ≤ 40) : ∀ (k i : Nat) (a : Row) (w : Option D), i + k = rs.length → small i a.2 →
    ∃ w', forO (fun c => itemsOf .seq ([D.own (List.length cs)].map (view c))) (turnS (.nm 2) fun e c => exs (callN code (n + 3)) [(.set (.nm 1) (.call 7 [(.var 1), (.var 2)]))] e c) (k + 1) i [some (.own (List.length cs)), some (rD a), w] (cs ++ [⟨mu, .lst (rs.map rD)⟩])
      = .next [some (.own (List.length cs)), some (rD (tot a (rs.drop i))), w'] (cs ++ [⟨mu, .lst (rs.map rD)⟩])
  | 0, i, a, w, hi, ha => by
    refine ⟨w, ?_⟩
    have e : rs.drop i = [] := List.drop_eq_nil_of_le (by omega)
    have e2 : (rs.map rD)[i]? = none := List.getElem?_eq_none (by simp; omega)
    simp [forO, itemsOf, view_last, seqOf, e, tot, e2]
  | k + 1, i, a, w, hi, ha => by
    have hlt : i < rs.length := by omega
    have hr := hrs rs[i] (List.getElem_mem hlt)
    have hp := plus_stp n (cs ++ [⟨mu, .lst (rs.map rD)⟩]) (i := i) (by omega) ha hr
    obtain ⟨w', hw⟩ := total_loop n cs mu rs hrs hl k (i + 1) (stp a rs[i]) (some (rD rs[i])) (by omega) (stp_small ha hr)
    refine ⟨w', ?_⟩
    rw [List.drop_eq_getElem_cons hlt, show tot a (rs[i] :: rs.drop (i + 1)) = tot (stp a rs[i]) (rs.drop (i + 1)) from rfl, ← hw]
    have e2 : (rs.map rD)[i]? = some (rD rs[i]) := by simp [hlt]
    rw [forO]
    simp only [List.map, itemsOf, view_last, seqOf, e2]
    have e3 : turnS (.nm 2) (fun e c => exs (callN code (n + 3)) [(.set (.nm 1) (.call 7 [(.var 1), (.var 2)]))] e c) (rD rs[i]) [some (.own (List.length cs)), some (rD a), w] (cs ++ [⟨mu, .lst (rs.map rD)⟩]) = .next [some (.own (List.length cs)), some (rD (stp a rs[i])), some (rD rs[i])] (cs ++ [⟨mu, .lst (rs.map rD)⟩]) := by
      simp [turnS, exs, ex, ev, evs, evAnd, evOr, tst, tstAll, tstAny, view, R.bind, R.rs, R.opt, RS.seq, endS, endD, binD, cmpD, eqD, ltD, truD, biD, isiD, tyD, idxD, at', ixN, asg, asgs, fz, fzs, List.map, List.getElem?_cons_zero, List.getElem?_cons_succ, Option.map, List.set_cons_zero, List.set_cons_succ, List.length_cons, List.length_nil, hp]
    rw [e3, loopB]
theorem total_ok (n : Nat) (cs : Cells) (mu : Bool) (rs : List Row) (hrs : ∀ r ∈ rs, Fr r.1 r.2) (hl : rs.length ≤ 40) : callN code (n + 4) 11 [.own (List.length cs)] (cs ++ [⟨mu, .lst (rs.map rD)⟩]) = .ok (rD (tot (0, 1) rs)) (cs ++ [⟨mu, .lst (rs.map rD)⟩]) := by
  obtain ⟨w', hw⟩ := total_loop n cs mu rs hrs hl rs.length 0 (0, 1) none (by omega) ⟨by decide, by decide⟩
  rw [cl [some (.own (List.length cs)), none, none] rfl rfl rfl, xn (env' := [some (.own (List.length cs)), some (rD (0, 1)), none]) (c := cs ++ [⟨mu, .lst (rs.map rD)⟩]) (by simp [exs, ex, ev, evs, evAnd, evOr, tst, tstAll, tstAny, view, R.bind, R.rs, R.opt, RS.seq, endS, endD, binD, cmpD, eqD, ltD, truD, biD, isiD, tyD, idxD, at', ixN, asg, asgs, fz, fzs, List.map, List.getElem?_cons_zero, List.getElem?_cons_succ, Option.map, List.set_cons_zero, List.set_cons_succ, List.length_cons, List.length_nil])]
  rw [xn (env' := [some (.own (List.length cs)), some (rD (tot (0, 1) rs)), w']) (c := cs ++ [⟨mu, .lst (rs.map rD)⟩]) (by
    rw [ex]
    simp only [evs, ev, R.bind, R.rs, List.getElem?_cons_zero]
    simp only [walkS, kOk, if_true, List.any_cons, isOwn, Bool.true_or, List.map, view_last, itemsOf, seqOf]
    rw [List.length_map]
    simpa [itemsOf, seqOf, List.map] using hw)]
  rw [xr (d := rD (tot (0, 1) rs)) (c := cs ++ [⟨mu, .lst (rs.map rD)⟩]) (by simp [exs, ex, ev, evs, evAnd, evOr, tst, tstAll, tstAny, view, R.bind, R.rs, R.opt, RS.seq, endS, endD, binD, cmpD, eqD, ltD, truD, biD, isiD, tyD, idxD, at', ixN, asg, asgs, fz, fzs, List.map, List.getElem?_cons_zero, List.getElem?_cons_succ, Option.map, List.set_cons_zero, List.set_cons_succ, List.length_cons, List.length_nil])]
  simp only [endS, endD]
  rw [List.take_length]
/-- the row is read and added up -/
theorem ftotal_ok (n : Nat) (d : D) (cs : Cells) (rs : List Row) (hrs : ∀ r ∈ rs, Fr r.1 r.2) (hl : rs.length ≤ 40) (h1 : callN code (n + 4) 2 [d] cs = .ok (.tup (rs.map rD)) cs) : callN code (n + 5) 24 [d] cs = .ok (rD (tot (0, 1) rs)) cs := by
  have hc : ev (callN code (n + 4)) (.comp (.call 6 [(.var 2)]) (.nm 2) [2] .seq [(.var 1)] []) [some d, some (.tup (rs.map rD)), none] cs = .ok (.own (List.length cs)) (cs ++ [⟨true, .lst ([] ++ (rs.map rD).map id)⟩]) := by
    refine comp_frozen (cs1 := cs) (ds := [.tup (rs.map rD)]) (xs := rs.map rD) (by simp [exs, ex, ev, evs, evAnd, evOr, tst, tstAll, tstAny, view, R.bind, R.rs, R.opt, RS.seq, endS, endD, binD, cmpD, eqD, ltD, truD, biD, isiD, tyD, idxD, at', ixN, asg, asgs, fz, fzs, List.map, List.getElem?_cons_zero, List.getElem?_cons_succ, Option.map, List.set_cons_zero, List.set_cons_succ, List.length_cons, List.length_nil]) rfl rfl rfl (compL_pure _ [] (fun x hx acc ha => ?_) (by simp [big]; omega))
    obtain ⟨r, hr, rfl⟩ := List.mem_map.mp hx
    have hs := sure_ok (n + 1) (hrs r hr) (rD r) (cs ++ [⟨true, .lst acc⟩]) (.inl rfl)
    simp [turnC, PV.wipe, exs, ex, ev, evs, evAnd, evOr, tst, tstAll, tstAny, view, R.bind, R.rs, R.opt, RS.seq, endS, endD, binD, cmpD, eqD, ltD, truD, biD, isiD, tyD, idxD, at', ixN, asg, asgs, fz, fzs, List.map, List.getElem?_cons_zero, List.getElem?_cons_succ, Option.map, List.set_cons_zero, List.set_cons_succ, List.length_cons, List.length_nil, hs, push_last (x := fr r.1 r.2) rfl ha]
  rw [List.map_id, List.nil_append] at hc
  have ht := total_ok n cs true rs hrs hl
  have hm : ¬ (40 : Int) < (rs.length : Int) := by omega
  rw [cl [some d, none, none] rfl rfl rfl, xn (env' := [some d, some (.tup (rs.map rD)), none]) (c := cs) (by simp [exs, ex, ev, evs, evAnd, evOr, tst, tstAll, tstAny, view, R.bind, R.rs, R.opt, RS.seq, endS, endD, binD, cmpD, eqD, ltD, truD, biD, isiD, tyD, idxD, at', ixN, asg, asgs, fz, fzs, List.map, List.getElem?_cons_zero, List.getElem?_cons_succ, Option.map, List.set_cons_zero, List.set_cons_succ, List.length_cons, List.length_nil, h1]), xn (env' := [some d, some (.tup (rs.map rD)), none]) (c := cs) (by simp [exs, ex, ev, evs, evAnd, evOr, tst, tstAll, tstAny, view, R.bind, R.rs, R.opt, RS.seq, endS, endD, binD, cmpD, eqD, ltD, truD, biD, isiD, tyD, idxD, at', ixN, asg, asgs, fz, fzs, List.map, List.getElem?_cons_zero, List.getElem?_cons_succ, Option.map, List.set_cons_zero, List.set_cons_succ, List.length_cons, List.length_nil, hm])]
  rw [xr (d := rD (tot (0, 1) rs)) (c := cs ++ [⟨true, .lst (rs.map rD)⟩]) (by rw [ex, ev, evs, hc]; simp only [R.bind, evs]; rw [ht]; rfl)]
  simp [endS, endD]
theorem ftotal_long (n : Nat) (d : D) (cs : Cells) (xs : List D) (hl : 40 < xs.length) (h1 : callN code (n + 4) 2 [d] cs = .ok (.tup xs) cs) : callN code (n + 5) 24 [d] cs = .exc ⟨2, []⟩ cs := by
  have hm : (40 : Int) < (xs.length : Int) := by omega
  rw [cl [some d, none, none] rfl rfl rfl, xn (env' := [some d, some (.tup xs), none]) (c := cs) (by simp [exs, ex, ev, evs, evAnd, evOr, tst, tstAll, tstAny, view, R.bind, R.rs, R.opt, RS.seq, endS, endD, binD, cmpD, eqD, ltD, truD, biD, isiD, tyD, idxD, at', ixN, asg, asgs, fz, fzs, List.map, List.getElem?_cons_zero, List.getElem?_cons_succ, Option.map, List.set_cons_zero, List.set_cons_succ, List.length_cons, List.length_nil, h1]), xx (x := ⟨2, []⟩) (env' := [some d, some (.tup xs), none]) (c := cs) (by simp [exs, ex, ev, evs, evAnd, evOr, tst, tstAll, tstAny, view, R.bind, R.rs, R.opt, RS.seq, endS, endD, binD, cmpD, eqD, ltD, truD, biD, isiD, tyD, idxD, at', ixN, asg, asgs, fz, fzs, List.map, List.getElem?_cons_zero, List.getElem?_cons_succ, Option.map, List.set_cons_zero, List.set_cons_succ, List.length_cons, List.length_nil, hm])]
  simp [endS, take_len]
theorem ftotal_bad (n : Nat) (d y : D) (cs : Cells) (h1 : callN code (n + 4) 2 [d] cs = .ok (.tup [y]) cs) (h2 : ∀ cs, callN code (n + 4) 6 [y] cs = .exc ⟨2, []⟩ cs) : callN code (n + 5) 24 [d] cs = .exc ⟨2, []⟩ cs := by
  have hc : ev (callN code (n + 4)) (.comp (.call 6 [(.var 2)]) (.nm 2) [2] .seq [(.var 1)] []) [some d, some (.tup [y]), none] cs = .exc ⟨2, []⟩ (cs ++ [⟨true, .lst []⟩]) := by
    simp [exs, ex, ev, evs, evAnd, evOr, tst, tstAll, tstAny, view, R.bind, R.rs, R.opt, RS.seq, endS, endD, binD, cmpD, eqD, ltD, truD, biD, isiD, tyD, idxD, at', ixN, asg, asgs, fz, fzs, List.map, List.getElem?_cons_zero, List.getElem?_cons_succ, Option.map, List.set_cons_zero, List.set_cons_succ, List.length_cons, List.length_nil, walkC, kOk, isOwn, itemsOf, seqOf, compL, turnC, PV.wipe, h2]
  rw [cl [some d, none, none] rfl rfl rfl, xn (env' := [some d, some (.tup [y]), none]) (c := cs) (by simp [exs, ex, ev, evs, evAnd, evOr, tst, tstAll, tstAny, view, R.bind, R.rs, R.opt, RS.seq, endS, endD, binD, cmpD, eqD, ltD, truD, biD, isiD, tyD, idxD, at', ixN, asg, asgs, fz, fzs, List.map, List.getElem?_cons_zero, List.getElem?_cons_succ, Option.map, List.set_cons_zero, List.set_cons_succ, List.length_cons, List.length_nil, h1]), xn (env' := [some d, some (.tup [y]), none]) (c := cs) (by simp [exs, ex, ev, evs, evAnd, evOr, tst, tstAll, tstAny, view, R.bind, R.rs, R.opt, RS.seq, endS, endD, binD, cmpD, eqD, ltD, truD, biD, isiD, tyD, idxD, at', ixN, asg, asgs, fz, fzs, List.map, List.getElem?_cons_zero, List.getElem?_cons_succ, Option.map, List.set_cons_zero, List.set_cons_succ, List.length_cons, List.length_nil])]
  rw [xx (x := ⟨2, []⟩) (env' := [some d, some (.tup [y]), none]) (c := cs ++ [⟨true, .lst []⟩]) (by rw [ex, ev, evs, hc]; rfl)]
  simp [endS]
/-! draws -/
abbrev cel (x y z : Int) : Cell := ⟨true, .lst [.int x, .int y, .int z]⟩
/-- the list that is drawn from, b draws so far at most -/
def Tin (t b : Nat) (cs : Cells) : Prop := ∃ x y z : Int, cs[t]? = some (cel x y z) ∧ 0 ≤ x ∧ 0 ≤ y ∧ y < 2 ^ 62 ∧ 0 ≤ z ∧ z ≤ b
theorem Tin.lt {t b : Nat} {cs : Cells} (h : Tin t b cs) : t < List.length cs := by
  obtain ⟨x, y, z, e, _⟩ := h
  exact (List.getElem?_eq_some_iff.mp e).1
theorem Tin.mono {t b b' : Nat} {cs : Cells} (h : Tin t b cs) (hb : b ≤ b') : Tin t b' cs := by
  obtain ⟨x, y, z, e, h1, h2, h3, h4, h5⟩ := h
  exact ⟨x, y, z, e, h1, h2, h3, h4, by omega⟩
theorem Tin.app {t b : Nat} {cs : Cells} {c : Cell} (h : Tin t b cs) : Tin t b (cs ++ [c]) := by
  have hl := h.lt
  obtain ⟨x, y, z, e, r⟩ := h
  exact ⟨x, y, z, by rw [List.getElem?_append_left hl]; exact e, r⟩
theorem take_ok (n : Nat) {t b : Nat} (k : Int) (cs : Cells) (h : Tin t b cs) (hb : b ≤ 10 ^ 6) (hk : 1 ≤ k) (hk2 : k ≤ 2 ^ 63) : ∃ r c', 0 ≤ r ∧ r < k ∧ callN code (n + 1) 26 [.own t, .int k] cs = .ok (.int r) (cs.set t c') ∧ Tin t (b + 1) (cs.set t c') := by
  have hlt := h.lt
  obtain ⟨x, y, z, e, h1, h2, h3, h4, h5⟩ := h
  have hk0 : 0 < k := by omega
  have hdk : divOk k = true := divOk_of (p64 (by omega))
  have hgs : ∀ c : Cell, (cs.set t c)[t]? = some c := fun c => List.getElem?_set_self hlt
  rw [cl [some (.own t), some (.int k), none, none, none, none] rfl rfl rfl]
  by_cases hx : 0 < x
  · refine ⟨x % k, cel (x / k) y z, Int.emod_nonneg _ (by omega), Int.emod_lt_of_pos _ hk0, ?_, x / k, y, z, hgs _, Int.ediv_nonneg h1 (by omega), h2, h3, h4, by omega⟩
    rw [xr (d := .int (x % k)) (c := cs.set t (cel (x / k) y z)) (by simp [exs, ex, ev, evs, evAnd, evOr, tst, tstAll, tstAny, view, R.bind, R.rs, R.opt, RS.seq, endS, endD, binD, cmpD, eqD, ltD, truD, biD, isiD, tyD, idxD, at', ixN, asg, asgs, fz, fzs, List.map, List.getElem?_cons_zero, List.getElem?_cons_succ, Option.map, List.set_cons_zero, List.set_cons_succ, List.length_cons, List.length_nil, e, hx, hk0, hdk, setD, setCell])]
    simp only [endS, endD]
    rw [show List.length cs = List.length (cs.set t (cel (x / k) y z)) by simp, List.take_length]
  · have m1 : mulOk 48271 (z + 1) = true := mul_l (by decide)
    have m2 : mulOk (y + 48271 * (z + 1)) (39373 + (z + 1)) = true := mul_r (by omega)
    obtain ⟨o, ho⟩ : ∃ o : Int, o = ((y + 48271 * (z + 1)) * (39373 + (z + 1))) % 2147483647 := ⟨_, rfl⟩
    have o1 : 0 ≤ o := by rw [ho]; exact Int.emod_nonneg _ (by decide)
    have o2 : o < 2147483647 := by rw [ho]; exact Int.emod_lt_of_pos _ (by decide)
    obtain ⟨w, hw⟩ : ∃ w : Int, w = o % 40009 + 7 := ⟨_, rfl⟩
    have m3 : mulOk (o + (z + 1) + y / 1000003) w = true := mul_r (by omega)
    obtain ⟨u, hu⟩ : ∃ u : Int, u = ((o + (z + 1) + y / 1000003) * w) % 2147483629 := ⟨_, rfl⟩
    have m4 : mulOk u 48271 = true := mul_r (by decide)
    refine ⟨((u * 48271 + o) % 2147483587 / 64) % k, cel x y (z + 1), Int.emod_nonneg _ (by omega), Int.emod_lt_of_pos _ hk0, ?_, x, y, z + 1, hgs _, h1, h2, h3, by omega, by omega⟩
    have d1 : divOk 1000003 = true := by decide
    have d2 : divOk 64 = true := by decide
    have c1 : (cs.set t (cel x y (z + 1)))[t]? = some (cel x y (z + 1)) := hgs _
    rw [xn (env' := [some (.own t), some (.int k), none, none, none, none]) (c := cs) (by simp [exs, ex, ev, evs, evAnd, evOr, tst, tstAll, tstAny, view, R.bind, R.rs, R.opt, RS.seq, endS, endD, binD, cmpD, eqD, ltD, truD, biD, isiD, tyD, idxD, at', ixN, asg, asgs, fz, fzs, List.map, List.getElem?_cons_zero, List.getElem?_cons_succ, Option.map, List.set_cons_zero, List.set_cons_succ, List.length_cons, List.length_nil, e, hx]),
      xn (env' := [some (.own t), some (.int k), none, none, none, none]) (c := cs.set t (cel x y (z + 1))) (by simp [exs, ex, ev, evs, evAnd, evOr, tst, tstAll, tstAny, view, R.bind, R.rs, R.opt, RS.seq, endS, endD, binD, cmpD, eqD, ltD, truD, biD, isiD, tyD, idxD, at', ixN, asg, asgs, fz, fzs, List.map, List.getElem?_cons_zero, List.getElem?_cons_succ, Option.map, List.set_cons_zero, List.set_cons_succ, List.length_cons, List.length_nil, e, setD, setCell]),
      xn (env' := [some (.own t), some (.int k), some (.int o), none, none, none]) (c := cs.set t (cel x y (z + 1))) (by simp [exs, ex, ev, evs, evAnd, evOr, tst, tstAll, tstAny, view, R.bind, R.rs, R.opt, RS.seq, endS, endD, binD, cmpD, eqD, ltD, truD, biD, isiD, tyD, idxD, at', ixN, asg, asgs, fz, fzs, List.map, List.getElem?_cons_zero, List.getElem?_cons_succ, Option.map, List.set_cons_zero, List.set_cons_succ, List.length_cons, List.length_nil, c1, m1, m2, ho]),
      xn (env' := [some (.own t), some (.int k), some (.int o), some (.int w), none, none]) (c := cs.set t (cel x y (z + 1))) (by simp [exs, ex, ev, evs, evAnd, evOr, tst, tstAll, tstAny, view, R.bind, R.rs, R.opt, RS.seq, endS, endD, binD, cmpD, eqD, ltD, truD, biD, isiD, tyD, idxD, at', ixN, asg, asgs, fz, fzs, List.map, List.getElem?_cons_zero, List.getElem?_cons_succ, Option.map, List.set_cons_zero, List.set_cons_succ, List.length_cons, List.length_nil, hw]),
      xn (env' := [some (.own t), some (.int k), some (.int o), some (.int w), some (.int u), none]) (c := cs.set t (cel x y (z + 1))) (by simp [exs, ex, ev, evs, evAnd, evOr, tst, tstAll, tstAny, view, R.bind, R.rs, R.opt, RS.seq, endS, endD, binD, cmpD, eqD, ltD, truD, biD, isiD, tyD, idxD, at', ixN, asg, asgs, fz, fzs, List.map, List.getElem?_cons_zero, List.getElem?_cons_succ, Option.map, List.set_cons_zero, List.set_cons_succ, List.length_cons, List.length_nil, c1, m3, hu, d1]),
      xr (d := .int (((u * 48271 + o) % 2147483587 / 64) % k)) (c := cs.set t (cel x y (z + 1))) (by simp [exs, ex, ev, evs, evAnd, evOr, tst, tstAll, tstAny, view, R.bind, R.rs, R.opt, RS.seq, endS, endD, binD, cmpD, eqD, ltD, truD, biD, isiD, tyD, idxD, at', ixN, asg, asgs, fz, fzs, List.map, List.getElem?_cons_zero, List.getElem?_cons_succ, Option.map, List.set_cons_zero, List.set_cons_succ, List.length_cons, List.length_nil, m4, d2, hk0])]
    simp only [endS, endD]
    rw [show List.length cs = List.length (cs.set t (cel x y (z + 1))) by simp, List.take_length]
theorem of_ok (n : Nat) {t b : Nat} (xs : List D) (cs : Cells) (h : Tin t b cs) (hb : b ≤ 10 ^ 6) (h1 : 1 ≤ xs.length) (h2 : xs.length ≤ 1000) (hf : ∀ d ∈ xs, fro d = true) :
    ∃ d c', d ∈ xs ∧ callN code (n + 2) 28 [.own t, .lst xs] cs = .ok d (cs.set t c') ∧ Tin t (b + 1) (cs.set t c') := by
  obtain ⟨r, c', r1, r2, r3, r4⟩ := take_ok n (xs.length : Int) cs h hb (by omega) (by omega)
  have hr : r.toNat < xs.length := by omega
  refine ⟨xs[r.toNat], c', List.getElem_mem hr, ?_, r4⟩
  have hd := hf _ (List.getElem_mem hr)
  have e1 : at' xs r = some xs[r.toNat] := by
    unfold at' ixN
    rw [if_pos r1, if_pos r2]
    exact List.getElem?_eq_getElem hr
  rw [cl [some (.own t), some (.lst xs)] rfl rfl rfl]
  rw [xr (d := xs[r.toNat]) (c := cs.set t c') (by
    rw [ex, ev]
    simp only [ev, evs, R.bind, R.rs, List.getElem?_cons_zero, List.getElem?_cons_succ, biD, List.map, view, R.opt, r3, idxD, e1])]
  generalize xs[r.toNat] = d at hd
  simp only [endS]
  have : endD false (List.length cs) d (cs.set t c') = .ok d ((cs.set t c').take (List.length cs)) := by cases d <;> first | rfl | simp [fro] at hd
  rw [this, show List.length cs = List.length (cs.set t c') by simp, List.take_length]
theorem set_twice {cs : Cells} {t : Nat} {c c' : Cell} : (cs.set t c).set t c' = cs.set t c' := by simp
theorem number_ok (n : Nat) {t b : Nat} (cs : Cells) (h : Tin t b cs) (hb : b + 4 ≤ 10 ^ 6) : ∃ a c', a.natAbs ≤ 10 ^ 12 ∧ callN code (n + 3) 35 [.own t] cs = .ok (.int a) (cs.set t c') ∧ Tin t (b + 4) (cs.set t c') := by
  obtain ⟨r1, c1, a1, b1, e1, t1⟩ := take_ok (n + 1) 13 cs h (by omega) (by omega) (by omega)
  obtain ⟨r2, c2, a2, b2, e2, t2⟩ := take_ok (n + 1) 13 _ t1 (by omega) (by omega) (by omega)
  obtain ⟨r3, c3, a3, b3, e3, t3⟩ := take_ok (n + 1) (10 ^ 12 + 1) _ t2 (by omega) (by decide) (by decide)
  rw [set_twice] at e2 t2 e3 t3
  rw [set_twice] at e3 t3
  obtain ⟨d, c4, hd, e4, t4⟩ := of_ok n [.int 0, .int 1, .int (-1), .int (r1 - 6), .int (r2 - 6), .int (10 ^ 12), .int (-10 ^ 12), .int r3] _ t3 (by omega) (by simp) (by simp) (fun d hd => by
    simp only [List.mem_cons, List.not_mem_nil, or_false] at hd
    rcases hd with rfl | rfl | rfl | rfl | rfl | rfl | rfl | rfl <;> rfl)
  rw [set_twice] at e4 t4
  obtain ⟨a, rfl, ha⟩ : ∃ a : Int, d = .int a ∧ a.natAbs ≤ 10 ^ 12 := by
    simp only [List.mem_cons, List.not_mem_nil, or_false] at hd
    rcases hd with rfl | rfl | rfl | rfl | rfl | rfl | rfl | rfl <;> exact ⟨_, rfl, by omega⟩
  refine ⟨a, c4, ha, ?_, t4⟩
  rw [cl [some (.own t)] rfl rfl rfl]
  have k1 : (10 : Int) ^ (12 : Int).toNat = 10 ^ 12 := by decide
  rw [xr (d := .int a) (c := cs.set t c4) (by
    simp only [exs, ex, ev, evs, evAnd, evOr, tst, tstAll, tstAny, view, R.bind, R.rs, R.opt, RS.seq, endS, endD, binD, cmpD, eqD, ltD, truD, biD, isiD, tyD, idxD, at', ixN, asg, asgs, fz, fzs, List.map, List.getElem?_cons_zero, List.getElem?_cons_succ, Option.map, List.set_cons_zero, List.set_cons_succ, List.length_cons, List.length_nil, e1, e2]
    simp only [show (0 : Int) ≤ 12 ∧ (12 : Int) ≤ 1000 ∧ (10 : Int).natAbs < 2 ^ 64 by decide, if_true, and_self, k1, exs, ex, ev, evs, evAnd, evOr, tst, tstAll, tstAny, view, R.bind, R.rs, R.opt, RS.seq, endS, endD, binD, cmpD, eqD, ltD, truD, biD, isiD, tyD, idxD, at', ixN, asg, asgs, fz, fzs, List.map, List.getElem?_cons_zero, List.getElem?_cons_succ, Option.map, List.set_cons_zero, List.set_cons_succ, List.length_cons, List.length_nil, e3, e4])]
  simp only [endS, endD]
  rw [show List.length cs = List.length (cs.set t c4) by simp, List.take_length]
theorem ediv_le {a g : Int} (hg : 0 < g) (hd : g ∣ a) : (a / g).natAbs ≤ a.natAbs := by
  obtain ⟨k, rfl⟩ := hd
  rw [Int.mul_ediv_cancel_left _ (by omega), Int.natAbs_mul]
  have : 1 * k.natAbs ≤ g.natAbs * k.natAbs := Nat.mul_le_mul_right _ (by omega)
  omega
theorem loP_fr {a b : Int} (ha : a.natAbs ≤ 10 ^ 12) (h1 : 1 ≤ b) (h2 : b ≤ 10 ^ 12) : Fr (loP a b).1 (loP a b).2 := by
  have hb : 0 < b := by omega
  obtain ⟨p1, p2⟩ := loP_pos (a := a) hb
  have g0 := gI_pos (a := a) (b := b) (by omega)
  refine ⟨p1, ?_, ?_, by omega⟩
  · simp only [loP, hb, if_true]
    unfold gI at g0 ⊢
    have : Int.gcd (a / (Int.gcd a b : Int)) (b / (Int.gcd a b : Int)) = 1 := Int.gcd_ediv_gcd_ediv_gcd (by omega)
    rw [this]
    rfl
  · simp only [loP, hb, if_true]
    exact Nat.le_trans (ediv_le g0 (gI_l a b)) ha
theorem lfraction_ok (n : Nat) {t b : Nat} (cs : Cells) (h : Tin t b cs) (hb : b + 7 ≤ 10 ^ 6) : ∃ (r : Row) (c' : Cell), Fr r.1 r.2 ∧ callN code (n + 4) 36 [.own t] cs = .ok (rD r) (cs.set t c') ∧ Tin t (b + 7) (cs.set t c') := by
  obtain ⟨a, c1, ha, e1, t1⟩ := number_ok n cs h (by omega)
  obtain ⟨r2, c2, a2, b2, e2, t2⟩ := take_ok (n + 2) 12 _ t1 (by omega) (by omega) (by omega)
  obtain ⟨r3, c3, a3, b3, e3, t3⟩ := take_ok (n + 2) (10 ^ 12) _ t2 (by omega) (by decide) (by decide)
  rw [set_twice] at e2 t2 e3 t3
  rw [set_twice] at e3 t3
  obtain ⟨d, c4, hd, e4, t4⟩ := of_ok (n + 1) [.int 1, .int 1, .int (1 + r2), .int (10 ^ 12), .int (1 + r3)] _ t3 (by omega) (by simp) (by simp) (fun d hd => by
    simp only [List.mem_cons, List.not_mem_nil, or_false] at hd
    rcases hd with rfl | rfl | rfl | rfl | rfl <;> rfl)
  rw [set_twice] at e4 t4
  obtain ⟨q, rfl, q1, q2⟩ : ∃ q : Int, d = .int q ∧ 1 ≤ q ∧ q ≤ 10 ^ 12 := by
    simp only [List.mem_cons, List.not_mem_nil, or_false] at hd
    rcases hd with rfl | rfl | rfl | rfl | rfl <;> exact ⟨_, rfl, by omega, by omega⟩
  have hlo := law_low_ok (n + 1) a q (cs.set t c4) (by omega) (p64 (Nat.lt_of_le_of_lt (show q.natAbs ≤ 10 ^ 12 by omega) two64))
  refine ⟨loP a q, c4, loP_fr ha q1 q2, ?_, t4⟩
  rw [cl [some (.own t), none] rfl rfl rfl]
  have k1 : (10 : Int) ^ (12 : Int).toNat = 10 ^ 12 := by decide
  rw [xn (env' := [some (.own t), some (.int a)]) (c := cs.set t c1) (by simp only [exs, ex, ev, evs, evAnd, evOr, tst, tstAll, tstAny, view, R.bind, R.rs, R.opt, RS.seq, endS, endD, binD, cmpD, eqD, ltD, truD, biD, isiD, tyD, idxD, at', ixN, asg, asgs, fz, fzs, List.map, List.getElem?_cons_zero, List.getElem?_cons_succ, Option.map, List.set_cons_zero, List.set_cons_succ, List.length_cons, List.length_nil, e1]; rfl)]
  rw [xr (d := lo a q) (c := cs.set t c4) (by
    simp only [exs, ex, ev, evs, evAnd, evOr, tst, tstAll, tstAny, view, R.bind, R.rs, R.opt, RS.seq, endS, endD, binD, cmpD, eqD, ltD, truD, biD, isiD, tyD, idxD, at', ixN, asg, asgs, fz, fzs, List.map, List.getElem?_cons_zero, List.getElem?_cons_succ, Option.map, List.set_cons_zero, List.set_cons_succ, List.length_cons, List.length_nil, e2]
    simp only [show (0 : Int) ≤ 12 ∧ (12 : Int) ≤ 1000 ∧ (10 : Int).natAbs < 2 ^ 64 by decide, if_true, and_self, k1, exs, ex, ev, evs, evAnd, evOr, tst, tstAll, tstAny, view, R.bind, R.rs, R.opt, RS.seq, endS, endD, binD, cmpD, eqD, ltD, truD, biD, isiD, tyD, idxD, at', ixN, asg, asgs, fz, fzs, List.map, List.getElem?_cons_zero, List.getElem?_cons_succ, Option.map, List.set_cons_zero, List.set_cons_succ, List.length_cons, List.length_nil, e3, e4, hlo])]
  simp only [endS, lo_own]
  rw [show List.length cs = List.length (cs.set t c4) by simp, List.take_length, lo_P]
/-! the same -/
theorem all_true : ∀ n : Nat, allBl (List.replicate n (.bl true)) = some true
  | 0 => rfl
  | n + 1 => by rw [List.replicate_succ, allBl, all_true n]; rfl
theorem map_const {α : Type} (d : D) : ∀ xs : List α, (xs.map fun _ => d) = List.replicate xs.length d
  | [] => rfl
  | x :: xs => by rw [List.map_cons, map_const d xs, List.length_cons, List.replicate_succ]
theorem eqBl (a b : Bool) : eqD (.bl a) (.bl b) = some (a == b) := by cases a <;> cases b <;> rfl
theorem eqInt (a b : Int) : eqD (.int a) (.int b) = some (a == b) := rfl
theorem same_int (n : Nat) (i : Int) (cs : Cells) : callN code (n + 1) 29 [.int i, .int i] cs = .ok (.bl true) cs := by
  rw [cl [some (.int i), some (.int i), none, none] rfl rfl rfl, xn (env' := [some (.int i), some (.int i), none, none]) (c := cs) (by simp [exs, ex, ev, evs, evAnd, evOr, tst, tstAll, tstAny, view, R.bind, R.rs, R.opt, RS.seq, endS, endD, binD, cmpD, eqD, ltD, truD, biD, isiD, tyD, idxD, at', ixN, asg, asgs, fz, fzs, List.map, List.getElem?_cons_zero, List.getElem?_cons_succ, Option.map, List.set_cons_zero, List.set_cons_succ, List.length_cons, List.length_nil]), xn (env' := [some (.int i), some (.int i), none, none]) (c := cs) (by simp [exs, ex, ev, evs, evAnd, evOr, tst, tstAll, tstAny, view, R.bind, R.rs, R.opt, RS.seq, endS, endD, binD, cmpD, eqD, ltD, truD, biD, isiD, tyD, idxD, at', ixN, asg, asgs, fz, fzs, List.map, List.getElem?_cons_zero, List.getElem?_cons_succ, Option.map, List.set_cons_zero, List.set_cons_succ, List.length_cons, List.length_nil]), xn (env' := [some (.int i), some (.int i), none, none]) (c := cs) (by simp [exs, ex, ev, evs, evAnd, evOr, tst, tstAll, tstAny, view, R.bind, R.rs, R.opt, RS.seq, endS, endD, binD, cmpD, eqD, ltD, truD, biD, isiD, tyD, idxD, at', ixN, asg, asgs, fz, fzs, List.map, List.getElem?_cons_zero, List.getElem?_cons_succ, Option.map, List.set_cons_zero, List.set_cons_succ, List.length_cons, List.length_nil]), xr (d := .bl true) (c := cs) (by simp [exs, ex, ev, evs, evAnd, evOr, tst, tstAll, tstAny, view, R.bind, R.rs, R.opt, RS.seq, endS, endD, binD, cmpD, eqD, ltD, truD, biD, isiD, tyD, idxD, at', ixN, asg, asgs, fz, fzs, List.map, List.getElem?_cons_zero, List.getElem?_cons_succ, Option.map, List.set_cons_zero, List.set_cons_succ, List.length_cons, List.length_nil])]
  simp [endS, endD]
theorem same_bl (n : Nat) (b : Bool) (cs : Cells) : callN code (n + 1) 29 [.bl b, .bl b] cs = .ok (.bl true) cs := by
  rw [cl [some (.bl b), some (.bl b), none, none] rfl rfl rfl, xn (env' := [some (.bl b), some (.bl b), none, none]) (c := cs) (by simp [exs, ex, ev, evs, evAnd, evOr, tst, tstAll, tstAny, view, R.bind, R.rs, R.opt, RS.seq, endS, endD, binD, cmpD, eqD, ltD, truD, biD, isiD, tyD, idxD, at', ixN, asg, asgs, fz, fzs, List.map, List.getElem?_cons_zero, List.getElem?_cons_succ, Option.map, List.set_cons_zero, List.set_cons_succ, List.length_cons, List.length_nil]), xn (env' := [some (.bl b), some (.bl b), none, none]) (c := cs) (by simp [exs, ex, ev, evs, evAnd, evOr, tst, tstAll, tstAny, view, R.bind, R.rs, R.opt, RS.seq, endS, endD, binD, cmpD, eqD, ltD, truD, biD, isiD, tyD, idxD, at', ixN, asg, asgs, fz, fzs, List.map, List.getElem?_cons_zero, List.getElem?_cons_succ, Option.map, List.set_cons_zero, List.set_cons_succ, List.length_cons, List.length_nil]),
    xr (d := .bl true) (c := cs) (by simp [exs, ex, ev, evs, evAnd, tst, view, R.bind, R.rs, R.opt, RS.seq, cmpD, eqBl, isiD, tyD, truD])]
  simp [endS, endD]
theorem same_str (n : Nat) (x : Str) (cs : Cells) (e : eqD (.str x) (.str x) = some true) : callN code (n + 1) 29 [.str x, .str x] cs = .ok (.bl true) cs := by
  rw [cl [some (.str x), some (.str x), none, none] rfl rfl rfl, xn (env' := [some (.str x), some (.str x), none, none]) (c := cs) (by simp [exs, ex, ev, evs, evAnd, evOr, tst, tstAll, tstAny, view, R.bind, R.rs, R.opt, RS.seq, endS, endD, binD, cmpD, eqD, ltD, truD, biD, isiD, tyD, idxD, at', ixN, asg, asgs, fz, fzs, List.map, List.getElem?_cons_zero, List.getElem?_cons_succ, Option.map, List.set_cons_zero, List.set_cons_succ, List.length_cons, List.length_nil]), xn (env' := [some (.str x), some (.str x), none, none]) (c := cs) (by simp [exs, ex, ev, evs, evAnd, evOr, tst, tstAll, tstAny, view, R.bind, R.rs, R.opt, RS.seq, endS, endD, binD, cmpD, eqD, ltD, truD, biD, isiD, tyD, idxD, at', ixN, asg, asgs, fz, fzs, List.map, List.getElem?_cons_zero, List.getElem?_cons_succ, Option.map, List.set_cons_zero, List.set_cons_succ, List.length_cons, List.length_nil]),
    xr (d := .bl true) (c := cs) (by simp [exs, ex, ev, evs, evAnd, tst, view, R.bind, R.rs, R.opt, RS.seq, cmpD, e, eqBl, isiD, tyD, truD])]
  simp [endS, endD]
abbrev zipE : E := .comp (.call 29 [(.var 2), (.var 3)]) (.tp [(.nm 2), (.nm 3)]) [2, 3] .zip [(.var 0), (.var 1)] []
abbrev zp (xs ys : List D) : List D := List.zipWith (fun a b => D.tup [a, b]) xs ys
theorem same_turn (n : Nat) (cs : Cells) (g d x y : D) (acc : List D) (h : ∀ cs, callN code n 29 [x, y] cs = .ok (.bl true) cs) (ha : acc.length < big) :
    turnC (.tp [(.nm 2), (.nm 3)]) (PV.wipe [some g, some d, none, none] [2, 3]) (fun e c => tstAll (callN code n) [] e c) (fun e c => ev (callN code n) (.call 29 [(.var 2), (.var 3)]) e c) (List.length cs) (.tup [x, y]) (cs ++ [⟨true, .lst acc⟩]) = .ok () (cs ++ [⟨true, .lst (acc ++ [.bl true])⟩]) := by
  simp [turnC, PV.wipe, exs, ex, ev, evs, evAnd, evOr, tst, tstAll, tstAny, view, R.bind, R.rs, R.opt, RS.seq, endS, endD, binD, cmpD, eqD, ltD, truD, biD, isiD, tyD, idxD, at', ixN, asg, asgs, fz, fzs, List.map, List.getElem?_cons_zero, List.getElem?_cons_succ, Option.map, List.set_cons_zero, List.set_cons_succ, List.length_cons, List.length_nil, h, push_last (x := .bl true) rfl ha]
theorem same_seq (n : Nat) (g d : D) (xs ys : List D) (cs : Cells) (hg : (g = .tup xs ∧ d = .tup ys) ∨ (g = .lst xs ∧ d = .lst ys)) (hl : xs.length = ys.length) (hb : xs.length ≤ big) (h : ∀ z ∈ zp xs ys, ∃ x y, z = .tup [x, y] ∧ ∀ cs, callN code n 29 [x, y] cs = .ok (.bl true) cs) :
    callN code (n + 1) 29 [g, d] cs = .ok (.bl true) cs := by
  have hc : ev (callN code n) zipE [some g, some d, none, none] cs = .ok (.own (List.length cs)) (cs ++ [⟨true, .lst ([] ++ (zp xs ys).map fun _ => .bl true)⟩]) := by
    refine comp_frozen (cs1 := cs) (ds := [g, d]) (xs := zp xs ys) (by simp [exs, ex, ev, evs, evAnd, evOr, tst, tstAll, tstAny, view, R.bind, R.rs, R.opt, RS.seq, endS, endD, binD, cmpD, eqD, ltD, truD, biD, isiD, tyD, idxD, at', ixN, asg, asgs, fz, fzs, List.map, List.getElem?_cons_zero, List.getElem?_cons_succ, Option.map, List.set_cons_zero, List.set_cons_succ, List.length_cons, List.length_nil]) (by rcases hg with ⟨rfl, rfl⟩ | ⟨rfl, rfl⟩ <;> rfl) (by rcases hg with ⟨rfl, rfl⟩ | ⟨rfl, rfl⟩ <;> rfl) (by rcases hg with ⟨rfl, rfl⟩ | ⟨rfl, rfl⟩ <;> rfl)
      (compL_pure _ [] (fun z hz acc ha => ?_) (by simp; omega))
    obtain ⟨x, y, rfl, hxy⟩ := h z hz
    exact same_turn n cs g d x y acc hxy ha
  rw [map_const, List.nil_append] at hc
  have hall := all_true (zp xs ys).length
  rw [cl [some g, some d, none, none] rfl rfl rfl]
  have fin : exs (callN code n) [(.ite (.or [(.cmp .ne (.isi (.var 0) [.list]) (.isi (.var 1) [.list])), (.cmp .ne (.isi (.var 0) [.tuple]) (.isi (.var 1) [.tuple]))]) [(.ret (.cst (.bl false)))] []), (.ret (.and [(.cmp .eq (.bi .len [(.var 0)]) (.bi .len [(.var 1)])), (.bi .all [zipE])]))] [some g, some d, none, none] cs = .ret (.bl true) (cs ++ [⟨true, .lst (List.replicate (zp xs ys).length (.bl true))⟩]) := by
    have n1 : eqD (.bl true) (.bl true) = some true := rfl
    have n2 : eqD (.bl false) (.bl false) = some true := rfl
    rw [xn (env' := [some g, some d, none, none]) (c := cs) (by rcases hg with ⟨rfl, rfl⟩ | ⟨rfl, rfl⟩ <;> simp [ex, exs, ev, evs, tst, tstAny, view, R.bind, R.rs, R.opt, cmpD, n1, n2, isiD, tyD, truD])]
    refine xr ?_
    have hlen : ev (callN code n) (.cmp .eq (.bi .len [(.var 0)]) (.bi .len [(.var 1)])) [some g, some d, none, none] cs = .ok (.bl true) cs := by
      rcases hg with ⟨rfl, rfl⟩ | ⟨rfl, rfl⟩ <;> simp [exs, ex, ev, evs, evAnd, evOr, tst, tstAll, tstAny, view, R.bind, R.rs, R.opt, RS.seq, endS, endD, binD, cmpD, eqD, ltD, truD, biD, isiD, tyD, idxD, at', ixN, asg, asgs, fz, fzs, List.map, List.getElem?_cons_zero, List.getElem?_cons_succ, Option.map, List.set_cons_zero, List.set_cons_succ, List.length_cons, List.length_nil, hl]
    rw [ex, ev, evAnd, hlen]
    simp only [R.bind, view, truD]
    rw [evAnd, ev, evs, hc]
    simp [evs, R.bind, R.rs, R.opt, view_last, biD, all_true]
  rw [xr (d := .bl true) (c := cs ++ [⟨true, .lst (List.replicate (zp xs ys).length (.bl true))⟩])]
  · simp [endS, endD]
  · rw [ex]
    have : tst (callN code n) (.isi (.var 1) [.list, .tuple]) [some g, some d, none, none] cs = .ok true cs := by rcases hg with ⟨rfl, rfl⟩ | ⟨rfl, rfl⟩ <;> simp [exs, ex, ev, evs, evAnd, evOr, tst, tstAll, tstAny, view, R.bind, R.rs, R.opt, RS.seq, endS, endD, binD, cmpD, eqD, ltD, truD, biD, isiD, tyD, idxD, at', ixN, asg, asgs, fz, fzs, List.map, List.getElem?_cons_zero, List.getElem?_cons_succ, Option.map, List.set_cons_zero, List.set_cons_succ, List.length_cons, List.length_nil]
    rw [this]
    simp only [R.rs, if_true]
    exact fin
theorem same_fr (n : Nat) (p q : Int) (cs : Cells) : callN code (n + 2) 29 [fr p q, fr p q] cs = .ok (.bl true) cs := by
  refine same_seq (n + 1) _ _ [.int p, .int q] [.int p, .int q] cs (.inl ⟨rfl, rfl⟩) rfl (by simp [big]) fun z hz => ?_
  simp only [zp, List.zipWith_cons_cons, List.zipWith_nil_left, List.mem_cons, List.not_mem_nil, or_false] at hz
  rcases hz with rfl | rfl <;> exact ⟨_, _, rfl, fun cs => same_int n _ cs⟩
theorem same_lo (n : Nat) (a b : Int) (cs : Cells) : callN code (n + 2) 29 [lo a b, lo a b] cs = .ok (.bl true) cs := by rw [lo_P]; exact same_fr n _ _ cs
abbrev told : D := .str (Str.ofString "told")
abbrev cannot : D := .str (Str.ofString "cannot")
abbrev unfit : D := .str (Str.ofString "unfit")
theorem same_told (n : Nat) (a b : Int) (cs : Cells) : callN code (n + 3) 29 [.lst [told, lo a b], .lst [told, lo a b]] cs = .ok (.bl true) cs := by
  refine same_seq (n + 2) _ _ [told, lo a b] [told, lo a b] cs (.inr ⟨rfl, rfl⟩) rfl (by simp [big]) fun z hz => ?_
  simp only [zp, List.zipWith_cons_cons, List.zipWith_nil_left, List.mem_cons, List.not_mem_nil, or_false] at hz
  rcases hz with rfl | rfl
  · exact ⟨_, _, rfl, fun cs => same_str (n + 1) _ cs (by decide +kernel)⟩
  · exact ⟨_, _, rfl, fun cs => same_lo n a b cs⟩
theorem same_cannot (n : Nat) (cs : Cells) : callN code (n + 3) 29 [.lst [cannot, .bl true], .lst [cannot, .bl true]] cs = .ok (.bl true) cs := by
  refine same_seq (n + 2) _ _ [cannot, .bl true] [cannot, .bl true] cs (.inr ⟨rfl, rfl⟩) rfl (by simp [big]) fun z hz => ?_
  simp only [zp, List.zipWith_cons_cons, List.zipWith_nil_left, List.mem_cons, List.not_mem_nil, or_false] at hz
  rcases hz with rfl | rfl
  · exact ⟨_, _, rfl, fun cs => same_str (n + 1) _ cs (by decide +kernel)⟩
  · exact ⟨_, _, rfl, fun cs => same_bl (n + 1) _ cs⟩
/-! doors heard -/
theorem calls1 (n k : Nat) (a d : D) (cs : Cells) (h : callN code n k [a] cs = .ok d cs) (hd : fro d = true) : callN code (n + 1) 32 [.fn k, .tup [a]] cs = .ok d cs := by
  rw [cl [some (.fn k), some (.tup [a])] rfl rfl rfl, xr (d := d) (c := cs) (by simp [exs, ex, ev, evs, evAnd, evOr, tst, tstAll, tstAny, view, R.bind, R.rs, R.opt, RS.seq, endS, endD, binD, cmpD, eqD, ltD, truD, biD, isiD, tyD, idxD, at', ixN, asg, asgs, fz, fzs, List.map, List.getElem?_cons_zero, List.getElem?_cons_succ, Option.map, List.set_cons_zero, List.set_cons_succ, List.length_cons, List.length_nil, h])]
  cases d <;> first | (simp [endS, endD]; done) | simp [fro] at hd
theorem calls1x (n k : Nat) (a : D) (x : PV.Exc) (cs : Cells) (h : callN code n k [a] cs = .exc x cs) : callN code (n + 1) 32 [.fn k, .tup [a]] cs = .exc x cs := by
  rw [cl [some (.fn k), some (.tup [a])] rfl rfl rfl, xx (x := x) (env' := [some (.fn k), some (.tup [a])]) (c := cs) (by simp [exs, ex, ev, evs, evAnd, evOr, tst, tstAll, tstAny, view, R.bind, R.rs, R.opt, RS.seq, endS, endD, binD, cmpD, eqD, ltD, truD, biD, isiD, tyD, idxD, at', ixN, asg, asgs, fz, fzs, List.map, List.getElem?_cons_zero, List.getElem?_cons_succ, Option.map, List.set_cons_zero, List.set_cons_succ, List.length_cons, List.length_nil, h])]
  simp [endS, take_len]
theorem calls2 (n k : Nat) (a b d : D) (cs : Cells) (h : callN code n k [a, b] cs = .ok d cs) (hd : fro d = true) : callN code (n + 1) 32 [.fn k, .tup [a, b]] cs = .ok d cs := by
  rw [cl [some (.fn k), some (.tup [a, b])] rfl rfl rfl, xn (env' := [some (.fn k), some (.tup [a, b])]) (c := cs) (by simp [exs, ex, ev, evs, evAnd, evOr, tst, tstAll, tstAny, view, R.bind, R.rs, R.opt, RS.seq, endS, endD, binD, cmpD, eqD, ltD, truD, biD, isiD, tyD, idxD, at', ixN, asg, asgs, fz, fzs, List.map, List.getElem?_cons_zero, List.getElem?_cons_succ, Option.map, List.set_cons_zero, List.set_cons_succ, List.length_cons, List.length_nil]), xr (d := d) (c := cs) (by simp [exs, ex, ev, evs, evAnd, evOr, tst, tstAll, tstAny, view, R.bind, R.rs, R.opt, RS.seq, endS, endD, binD, cmpD, eqD, ltD, truD, biD, isiD, tyD, idxD, at', ixN, asg, asgs, fz, fzs, List.map, List.getElem?_cons_zero, List.getElem?_cons_succ, Option.map, List.set_cons_zero, List.set_cons_succ, List.length_cons, List.length_nil, h])]
  cases d <;> first | (simp [endS, endD]; done) | simp [fro] at hd
theorem calls2x (n k : Nat) (a b : D) (x : PV.Exc) (cs : Cells) (h : callN code n k [a, b] cs = .exc x cs) : callN code (n + 1) 32 [.fn k, .tup [a, b]] cs = .exc x cs := by
  rw [cl [some (.fn k), some (.tup [a, b])] rfl rfl rfl, xn (env' := [some (.fn k), some (.tup [a, b])]) (c := cs) (by simp [exs, ex, ev, evs, evAnd, evOr, tst, tstAll, tstAny, view, R.bind, R.rs, R.opt, RS.seq, endS, endD, binD, cmpD, eqD, ltD, truD, biD, isiD, tyD, idxD, at', ixN, asg, asgs, fz, fzs, List.map, List.getElem?_cons_zero, List.getElem?_cons_succ, Option.map, List.set_cons_zero, List.set_cons_succ, List.length_cons, List.length_nil]), xx (x := x) (env' := [some (.fn k), some (.tup [a, b])]) (c := cs) (by simp [exs, ex, ev, evs, evAnd, evOr, tst, tstAll, tstAny, view, R.bind, R.rs, R.opt, RS.seq, endS, endD, binD, cmpD, eqD, ltD, truD, biD, isiD, tyD, idxD, at', ixN, asg, asgs, fz, fzs, List.map, List.getElem?_cons_zero, List.getElem?_cons_succ, Option.map, List.set_cons_zero, List.set_cons_succ, List.length_cons, List.length_nil, h])]
  simp [endS, take_len]
theorem heard_ok (n k : Nat) (gs d : D) (cs : Cells) (h : callN code n 32 [.fn k, gs] cs = .ok d cs) (hd : fro d = true) : callN code (n + 1) 33 [.fn k, gs] cs = .ok (.lst [told, d]) cs := by
  have hz : fz d cs = (d, cs) := by cases d <;> first | rfl | simp [fro] at hd
  rw [cl [some (.fn k), some gs, none, none, none] rfl rfl rfl, xn (env' := [some (.fn k), some gs, none, some .non, some .non]) (c := cs) (by simp [exs, ex, ev, evs, evAnd, evOr, tst, tstAll, tstAny, view, R.bind, R.rs, R.opt, RS.seq, endS, endD, binD, cmpD, eqD, ltD, truD, biD, isiD, tyD, idxD, at', ixN, asg, asgs, fz, fzs, List.map, List.getElem?_cons_zero, List.getElem?_cons_succ, Option.map, List.set_cons_zero, List.set_cons_succ, List.length_cons, List.length_nil]), xn (env' := [some (.fn k), some gs, none, some .non, some d]) (c := cs) (by simp [exs, ex, ev, evs, evAnd, evOr, tst, tstAll, tstAny, view, R.bind, R.rs, R.opt, RS.seq, endS, endD, binD, cmpD, eqD, ltD, truD, biD, isiD, tyD, idxD, at', ixN, asg, asgs, fz, fzs, List.map, List.getElem?_cons_zero, List.getElem?_cons_succ, Option.map, List.set_cons_zero, List.set_cons_succ, List.length_cons, List.length_nil, h, tryB]),
    xr (d := .lst [told, d]) (c := cs) (by cases d <;> first | (simp [fro] at hd; done) | simp [exs, ex, ev, evs, tst, view, R.bind, R.rs, R.opt, RS.seq, truD, fzs, fz])]
  simp [endS, endD]
theorem heard_unfit (n k : Nat) (gs : D) (cs : Cells) (h : callN code n 32 [.fn k, gs] cs = .exc ⟨2, []⟩ cs) : callN code (n + 1) 33 [.fn k, gs] cs = .ok (.lst [unfit, .bl true]) cs := by
  rw [cl [some (.fn k), some gs, none, none, none] rfl rfl rfl, xn (env' := [some (.fn k), some gs, none, some .non, some .non]) (c := cs) (by simp [exs, ex, ev, evs, evAnd, evOr, tst, tstAll, tstAny, view, R.bind, R.rs, R.opt, RS.seq, endS, endD, binD, cmpD, eqD, ltD, truD, biD, isiD, tyD, idxD, at', ixN, asg, asgs, fz, fzs, List.map, List.getElem?_cons_zero, List.getElem?_cons_succ, Option.map, List.set_cons_zero, List.set_cons_succ, List.length_cons, List.length_nil]), xn (env' := [some (.fn k), some gs, none, some (.lst [unfit, .bl true]), some .non]) (c := cs) (by simp [exs, ex, ev, evs, evAnd, evOr, tst, tstAll, tstAny, view, R.bind, R.rs, R.opt, RS.seq, endS, endD, binD, cmpD, eqD, ltD, truD, biD, isiD, tyD, idxD, at', ixN, asg, asgs, fz, fzs, List.map, List.getElem?_cons_zero, List.getElem?_cons_succ, Option.map, List.set_cons_zero, List.set_cons_succ, List.length_cons, List.length_nil, h, tryB, clauseOf, siD]),
    xr (d := .lst [unfit, .bl true]) (c := cs) (by simp [exs, ex, ev, evs, evAnd, evOr, tst, tstAll, tstAny, view, R.bind, R.rs, R.opt, RS.seq, endS, endD, binD, cmpD, eqD, ltD, truD, biD, isiD, tyD, idxD, at', ixN, asg, asgs, fz, fzs, List.map, List.getElem?_cons_zero, List.getElem?_cons_succ, Option.map, List.set_cons_zero, List.set_cons_succ, List.length_cons, List.length_nil])]
  simp [endS, endD]
theorem heard_cannot (n k : Nat) (gs : D) (cs : Cells) (h : callN code n 32 [.fn k, gs] cs = .exc ⟨0, []⟩ cs) : callN code (n + 1) 33 [.fn k, gs] cs = .ok (.lst [cannot, .bl true]) cs := by
  rw [cl [some (.fn k), some gs, none, none, none] rfl rfl rfl, xn (env' := [some (.fn k), some gs, none, some .non, some .non]) (c := cs) (by simp [exs, ex, ev, evs, evAnd, evOr, tst, tstAll, tstAny, view, R.bind, R.rs, R.opt, RS.seq, endS, endD, binD, cmpD, eqD, ltD, truD, biD, isiD, tyD, idxD, at', ixN, asg, asgs, fz, fzs, List.map, List.getElem?_cons_zero, List.getElem?_cons_succ, Option.map, List.set_cons_zero, List.set_cons_succ, List.length_cons, List.length_nil]), xn (env' := [some (.fn k), some gs, none, some (.lst [cannot, .bl true]), some .non]) (c := cs) (by simp [exs, ex, ev, evs, evAnd, evOr, tst, tstAll, tstAny, view, R.bind, R.rs, R.opt, RS.seq, endS, endD, binD, cmpD, eqD, ltD, truD, biD, isiD, tyD, idxD, at', ixN, asg, asgs, fz, fzs, List.map, List.getElem?_cons_zero, List.getElem?_cons_succ, Option.map, List.set_cons_zero, List.set_cons_succ, List.length_cons, List.length_nil, h, tryB, clauseOf, siD]),
    xr (d := .lst [cannot, .bl true]) (c := cs) (by simp [exs, ex, ev, evs, evAnd, evOr, tst, tstAll, tstAny, view, R.bind, R.rs, R.opt, RS.seq, endS, endD, binD, cmpD, eqD, ltD, truD, biD, isiD, tyD, idxD, at', ixN, asg, asgs, fz, fzs, List.map, List.getElem?_cons_zero, List.getElem?_cons_succ, Option.map, List.set_cons_zero, List.set_cons_succ, List.length_cons, List.length_nil])]
  simp [endS, endD]
/-! rows drawn, mixed -/
theorem set_id {cs : Cells} {t : Nat} {c : Cell} (h : cs[t]? = some c) : cs.set t c = cs := by
  refine List.ext_getElem? fun i => ?_
  rw [List.getElem?_set]
  split
  · next e =>
    subst e
    split
    · exact h.symm
    · next hl => exact absurd (List.getElem?_eq_some_iff.mp h).1 hl
  · rfl
theorem Tin.same {t b : Nat} {cs : Cells} (h : Tin t b cs) : ∃ c, cs.set t c = cs := by
  obtain ⟨x, y, z, e, _⟩ := h
  exact ⟨_, set_id e⟩
theorem set_app {cs gs : Cells} {t : Nat} {c : Cell} (h : t < List.length cs) : (cs ++ gs).set t c = cs.set t c ++ gs := List.set_append_left _ _ h
theorem len_set {cs : Cells} {t : Nat} {c : Cell} : List.length (cs.set t c) = List.length cs := by simp
theorem Tin.app_inv {t b : Nat} {cs gs : Cells} (h : Tin t b (cs ++ gs)) (hl : t < List.length cs) : Tin t b cs := by
  obtain ⟨x, y, z, e, r⟩ := h
  rw [List.getElem?_append_left hl] at e
  exact ⟨x, y, z, e, r⟩
abbrev rowF (call : Nat → List D → Cells → R D) (env : PV.Env) (m : Nat) : D → Cells → R Unit := turnC (.nm 17) (PV.wipe env [17]) (fun e c => tstAll call [] e c) (fun e c => ev call (.call 36 [(.var 0)]) e c) m
theorem gen_rows (n t : Nat) (env : PV.Env) (he : env[0]? = some (some (.own t))) (hl : 17 < env.length) : ∀ (xs : List D) (acc : List Row) (A : Cells) (b : Nat), Tin t b A → b + 7 * xs.length ≤ 10 ^ 6 → acc.length + xs.length ≤ big → (∀ r ∈ acc, Fr r.1 r.2) →
    ∃ (rs : List Row) (c' : Cell), rs.length = acc.length + xs.length ∧ (∀ r ∈ rs, Fr r.1 r.2) ∧ compL (rowF (callN code (n + 4)) env (List.length A)) xs (A ++ [⟨true, .lst (acc.map rD)⟩]) = .ok () (A.set t c' ++ [⟨true, .lst (rs.map rD)⟩]) ∧ Tin t (b + 7 * xs.length) (A.set t c')
  | [], acc, A, b, h, hb, hs, hf => by
    obtain ⟨c, hc⟩ := h.same
    exact ⟨acc, c, by simp, hf, by rw [compL, hc], by rw [hc]; exact h⟩
  | x :: xs, acc, A, b, h, hb, hs, hf => by
    rw [List.length_cons] at hb hs
    have hlt := h.lt
    obtain ⟨r, c1, hr, e1, t1⟩ := lfraction_ok n (A ++ [⟨true, .lst (acc.map rD)⟩]) h.app (by omega)
    rw [set_app hlt] at e1 t1
    have t1' := t1.app_inv (by rw [len_set]; exact hlt)
    obtain ⟨rs, c2, q1, q2, q3, q4⟩ := gen_rows n t env he hl xs (acc ++ [r]) (A.set t c1) (b + 7) t1' (by omega) (by simp; omega) (by
      intro y hy
      rcases List.mem_append.mp hy with hy | hy
      · exact hf y hy
      · simp at hy; subst hy; exact hr)
    refine ⟨rs, c2, by rw [q1]; simp; omega, q2, ?_, ?_⟩
    · have step : rowF (callN code (n + 4)) env (List.length A) x (A ++ [⟨true, .lst (acc.map rD)⟩]) = .ok () (A.set t c1 ++ [⟨true, .lst ((acc ++ [r]).map rD)⟩]) := by
        have hw : ∀ v, (List.set (PV.wipe env [17]) 17 v)[0]? = some (some (.own t)) := fun v => by
          rw [List.getElem?_set_ne (by omega)]
          simp only [PV.wipe]
          rw [List.getElem?_set_ne (by omega)]
          exact he
        have hl2 : 17 < (PV.wipe env [17]).length := by simpa [PV.wipe] using hl
        simp only [rowF, turnC, asg, hl2, if_true, tstAll, R.bind, ev, evs, hw, e1]
        have := push_last (cs := A.set t c1) (acc := acc.map rD) (x := rD r) rfl (by rw [List.length_map]; omega)
        rw [len_set] at this
        rw [this]
        simp
      rw [compL, step]
      simp only [R.bind]
      rw [len_set] at q3
      rw [q3, set_twice]
    · rw [set_twice] at q4
      rw [List.length_cons, show b + 7 * (xs.length + 1) = b + 7 + 7 * xs.length by omega]
      exact q4
/-- a row told as a tuple or as a list -/
def Mx (d : D) (r : Row) : Prop := d = rD r ∨ d = .lst [.int r.1, .int r.2]
theorem mixed_leaf (n t : Nat) (i : Int) (A : Cells) : callN code (n + 1) 31 [.own t, .int i] A = .ok (.int i) A := by
  rw [cl [some (.own t), some (.int i), none, none] rfl rfl rfl, xr (d := .int i) (c := A) (by simp [exs, ex, ev, evs, evAnd, evOr, tst, tstAll, tstAny, view, R.bind, R.rs, R.opt, RS.seq, endS, endD, binD, cmpD, eqD, ltD, truD, biD, isiD, tyD, idxD, at', ixN, asg, asgs, fz, fzs, List.map, List.getElem?_cons_zero, List.getElem?_cons_succ, Option.map, List.set_cons_zero, List.set_cons_succ, List.length_cons, List.length_nil])]
  simp [endS, endD]
abbrev mixF (call : Nat → List D → Cells → R D) (t : Nat) (d : D) (m : Nat) : D → Cells → R Unit := turnC (.nm 3) (PV.wipe [some (.own t), some d, none, none] [3]) (fun e c => tstAll call [] e c) (fun e c => ev call (.call 31 [(.var 0), (.var 3)]) e c) m
/-- the end of a mixing: the row as a list, or as a tuple -/
theorem mixed_end (n t b : Nat) (d : D) (xs ys : List D) (A A1 : Cells) (hd : d = .tup xs) (hA : List.length A1 = List.length A) (h : Tin t b A1) (hb : b ≤ 10 ^ 5) (hl : t < List.length A) (hx : compL (mixF (callN code (n + 1)) t d (List.length A)) xs (A ++ [⟨true, .lst []⟩]) = .ok () (A1 ++ [⟨true, .lst ys⟩])) :
    ∃ d' c', (d' = .tup ys ∨ d' = .lst ys) ∧ callN code (n + 2) 31 [.own t, d] A = .ok d' (A1.set t c') ∧ Tin t (b + 1) (A1.set t c') := by
  subst hd
  obtain ⟨r, c', r1, r2, e1, t1⟩ := take_ok n 2 (A1 ++ [⟨true, .lst ys⟩]) h.app (by omega) (by omega) (by omega)
  have hl1 : t < List.length A1 := by omega
  rw [set_app hl1] at e1 t1
  have hc : ev (callN code (n + 1)) (.comp (.call 31 [(.var 0), (.var 3)]) (.nm 3) [3] .seq [(.var 1)] []) [some (.own t), some (.tup xs), none, none] A = .ok (.own (List.length A)) (A1 ++ [⟨true, .lst ys⟩]) :=
    comp_frozen (cs1 := A) (ds := [.tup xs]) (xs := xs) (by simp [exs, ex, ev, evs, evAnd, evOr, tst, tstAll, tstAny, view, R.bind, R.rs, R.opt, RS.seq, endS, endD, binD, cmpD, eqD, ltD, truD, biD, isiD, tyD, idxD, at', ixN, asg, asgs, fz, fzs, List.map, List.getElem?_cons_zero, List.getElem?_cons_succ, Option.map, List.set_cons_zero, List.set_cons_succ, List.length_cons, List.length_nil]) rfl rfl rfl hx
  have hgl : (A1.set t c' ++ [⟨true, .lst ys⟩])[List.length A]? = some ⟨true, .lst ys⟩ := by rw [← hA, ← len_set (t := t) (c := c')]; exact last_get
  have htk : (A1.set t c' ++ [(⟨true, .lst ys⟩ : Cell)]).take (List.length A) = A1.set t c' := by rw [← hA, ← len_set (t := t) (c := c')]; exact take_len1 _ _
  have hn : ¬ List.length A < List.length A := by omega
  by_cases h0 : r = 0
  · subst h0
    refine ⟨.lst ys, c', .inr rfl, ?_, t1.app_inv (by rw [len_set]; exact hl1)⟩
    rw [cl [some (.own t), some (.tup xs), none, none] rfl rfl rfl, xn (env' := [some (.own t), some (.tup xs), none, none]) (c := A) (by simp [exs, ex, ev, evs, evAnd, evOr, tst, tstAll, tstAny, view, R.bind, R.rs, R.opt, RS.seq, endS, endD, binD, cmpD, eqD, ltD, truD, biD, isiD, tyD, idxD, at', ixN, asg, asgs, fz, fzs, List.map, List.getElem?_cons_zero, List.getElem?_cons_succ, Option.map, List.set_cons_zero, List.set_cons_succ, List.length_cons, List.length_nil]),
      xn (env' := [some (.own t), some (.tup xs), some (.own (List.length A)), none]) (c := A1 ++ [⟨true, .lst ys⟩]) (by rw [ex, hc]; rfl), xr (d := .own (List.length A)) (c := A1.set t c' ++ [⟨true, .lst ys⟩]) (by simp [exs, ex, ev, evs, evAnd, evOr, tst, tstAll, tstAny, view, R.bind, R.rs, R.opt, RS.seq, endS, endD, binD, cmpD, eqD, ltD, truD, biD, isiD, tyD, idxD, at', ixN, asg, asgs, fz, fzs, List.map, List.getElem?_cons_zero, List.getElem?_cons_succ, Option.map, List.set_cons_zero, List.set_cons_succ, List.length_cons, List.length_nil, e1])]
    simp only [endS, endD, hn, if_false, hgl, htk, Bool.false_and, Bool.false_eq_true]
  · refine ⟨.tup ys, c', .inl rfl, ?_, t1.app_inv (by rw [len_set]; exact hl1)⟩
    rw [cl [some (.own t), some (.tup xs), none, none] rfl rfl rfl, xn (env' := [some (.own t), some (.tup xs), none, none]) (c := A) (by simp [exs, ex, ev, evs, evAnd, evOr, tst, tstAll, tstAny, view, R.bind, R.rs, R.opt, RS.seq, endS, endD, binD, cmpD, eqD, ltD, truD, biD, isiD, tyD, idxD, at', ixN, asg, asgs, fz, fzs, List.map, List.getElem?_cons_zero, List.getElem?_cons_succ, Option.map, List.set_cons_zero, List.set_cons_succ, List.length_cons, List.length_nil]),
      xn (env' := [some (.own t), some (.tup xs), some (.own (List.length A)), none]) (c := A1 ++ [⟨true, .lst ys⟩]) (by rw [ex, hc]; rfl), xr (d := .tup ys) (c := A1.set t c' ++ [⟨true, .lst ys⟩]) (by
        have hb0 : (r == 0) = false := by simpa using h0
        simp [ex, ev, tst, evs, R.bind, R.rs, R.opt, e1, cmpD, eqInt, hb0, truD, view, hgl, biD])]
    simp only [endS, endD, htk]
theorem mixed_pair (n t b : Nat) (r : Row) (A : Cells) (h : Tin t b A) (hb : b ≤ 10 ^ 5) : ∃ d c', Mx d r ∧ callN code (n + 3) 31 [.own t, rD r] A = .ok d (A.set t c') ∧ Tin t (b + 1) (A.set t c') := by
  obtain ⟨d, c', h1, h2, h3⟩ := mixed_end (n + 1) t b (rD r) [.int r.1, .int r.2] [.int r.1, .int r.2] A A rfl rfl h hb h.lt (by
    have := compL_pure (f := mixF (callN code (n + 2)) t (rD r) (List.length A)) (g := id) (cs := A) [.int r.1, .int r.2] [] (fun x hx acc ha => by
      obtain ⟨i, rfl⟩ : ∃ i, x = .int i := by
        simp at hx
        rcases hx with rfl | rfl <;> exact ⟨_, rfl⟩
      have hm := mixed_leaf (n + 1) t i (A ++ [⟨true, .lst acc⟩])
      simp [mixF, turnC, PV.wipe, exs, ex, ev, evs, evAnd, evOr, tst, tstAll, tstAny, view, R.bind, R.rs, R.opt, RS.seq, endS, endD, binD, cmpD, eqD, ltD, truD, biD, isiD, tyD, idxD, at', ixN, asg, asgs, fz, fzs, List.map, List.getElem?_cons_zero, List.getElem?_cons_succ, Option.map, List.set_cons_zero, List.set_cons_succ, List.length_cons, List.length_nil, hm, push_last (x := .int i) rfl ha]) (by simp [big])
    simpa using this)
  exact ⟨d, c', h1, h2, h3⟩
theorem mixed_loop (n t : Nat) (D0 : D) : ∀ (rs : List Row) (acc : List D) (A : Cells) (b : Nat), Tin t b A → b + rs.length ≤ 10 ^ 5 → acc.length + rs.length ≤ big →
    ∃ (ds : List D) (c' : Cell), ds.length = rs.length ∧ (∀ (i : Nat) (d : D) (r : Row), ds[i]? = some d → rs[i]? = some r → Mx d r) ∧ compL (mixF (callN code (n + 3)) t D0 (List.length A)) (rs.map rD) (A ++ [⟨true, .lst acc⟩]) = .ok () (A.set t c' ++ [⟨true, .lst (acc ++ ds)⟩]) ∧ Tin t (b + rs.length) (A.set t c')
  | [], acc, A, b, h, hb, hs => by
    obtain ⟨c, hc⟩ := h.same
    exact ⟨[], c, rfl, fun i d r e => by simp at e, by simp [compL, hc], by rw [hc]; exact h⟩
  | r :: rs, acc, A, b, h, hb, hs => by
    rw [List.length_cons] at hb hs
    have hlt := h.lt
    obtain ⟨d, c1, hd, e1, t1⟩ := mixed_pair n t b r (A ++ [⟨true, .lst acc⟩]) h.app (by omega)
    rw [set_app hlt] at e1 t1
    have t1' := t1.app_inv (by rw [len_set]; exact hlt)
    obtain ⟨ds, c2, q1, q2, q3, q4⟩ := mixed_loop n t D0 rs (acc ++ [d]) (A.set t c1) (b + 1) t1' (by omega) (by simp; omega)
    refine ⟨d :: ds, c2, by simp [q1], fun i d' r' f1 f2 => ?_, ?_, ?_⟩
    · cases i with
      | zero => simp at f1 f2; subst f1 f2; exact hd
      | succ i => exact q2 i d' r' (by simpa using f1) (by simpa using f2)
    · have hfd : fro d = true := by rcases hd with rfl | rfl <;> rfl
      have step : mixF (callN code (n + 3)) t D0 (List.length A) (rD r) (A ++ [⟨true, .lst acc⟩]) = .ok () (A.set t c1 ++ [⟨true, .lst (acc ++ [d])⟩]) := by
        have := push_last (cs := A.set t c1) (acc := acc) (x := d) hfd (by omega)
        rw [len_set] at this
        simp [mixF, turnC, PV.wipe, asg, tstAll, R.bind, ev, evs, e1, this]
      rw [List.map_cons, compL, step]
      simp only [R.bind]
      rw [len_set] at q3
      rw [q3, set_twice]
      simp
    · rw [set_twice] at q4
      rw [List.length_cons, show b + (rs.length + 1) = b + 1 + rs.length by omega]
      exact q4
theorem mixed_rows (n t b : Nat) (rs : List Row) (A : Cells) (h : Tin t b A) (hb : b + rs.length ≤ 10 ^ 5) (hs : rs.length ≤ 1000) : ∃ d c', callN code (n + 4) 31 [.own t, .tup (rs.map rD)] A = .ok d (A.set t c') ∧ Tin t (b + rs.length + 1) (A.set t c') ∧ fro d = true ∧
    ∀ m cs, callN code (m + 3) 2 [d] cs = .ok (.tup (rs.map rD)) cs := by
  have hlt := h.lt
  obtain ⟨ds, c1, q1, q2, q3, q4⟩ := mixed_loop n t (.tup (rs.map rD)) rs [] A b h hb (by simp [big]; omega)
  obtain ⟨d, c2, h1, h2, h3⟩ := mixed_end (n + 2) t (b + rs.length) (.tup (rs.map rD)) (rs.map rD) ds A (A.set t c1) rfl len_set q4 (by omega) hlt (by simpa using q3)
  rw [set_twice] at h2 h3
  refine ⟨d, c2, h2, h3, by rcases h1 with rfl | rfl <;> rfl, fun m cs => ?_⟩
  have := tup_seq (m + 2) ds (fun d => match d with | .lst xs => .tup xs | d => d) d cs h1 (fun x hx cs => by
    obtain ⟨i, hi, e⟩ := List.mem_iff_getElem.mp hx
    have hr : rs[i]? = some rs[i] := List.getElem?_eq_getElem (by omega)
    rcases q2 i x rs[i] (by rw [← e]; exact List.getElem?_eq_getElem hi) hr with rfl | rfl
    · exact tup_pair m _ _ _ cs rfl rfl (.inl rfl)
    · exact tup_pair m _ _ _ cs rfl rfl (.inr rfl)) (fun x hx => by
    obtain ⟨i, hi, e⟩ := List.mem_iff_getElem.mp hx
    have hr : rs[i]? = some rs[i] := List.getElem?_eq_getElem (by omega)
    rcases q2 i x rs[i] (by rw [← e]; exact List.getElem?_eq_getElem hi) hr with rfl | rfl <;> rfl) (by simp [big]; omega)
  rw [this]
  have e : (ds.map fun d => match d with | .lst xs => D.tup xs | d => d) = rs.map rD := by
    refine List.ext_getElem? fun i => ?_
    rw [List.getElem?_map, List.getElem?_map]
    by_cases hi : i < rs.length
    · have hr : rs[i]? = some rs[i] := List.getElem?_eq_getElem hi
      have hd : ds[i]? = some ds[i] := List.getElem?_eq_getElem (by omega)
      rw [hr, hd]
      rcases q2 i _ _ hd hr with e | e <;> rw [e] <;> rfl
    · rw [List.getElem?_eq_none (by omega), List.getElem?_eq_none (by omega)]
      rfl
  rw [e]
/-! a list that may change beside one that does not -/
theorem compO_pure {f : D → Cells → R Unit} {g : D → D} {items : Cells → Option (List D)} {B : Cells} {xs : List D} (hi : ∀ acc : List D, items (B ++ [⟨true, .lst acc⟩]) = some xs) (h : ∀ x ∈ xs, ∀ acc : List D, acc.length < big → f x (B ++ [⟨true, .lst acc⟩]) = .ok () (B ++ [⟨true, .lst (acc ++ [g x])⟩])) :
    ∀ (k i : Nat) (acc : List D), i + k = xs.length → acc.length + k ≤ big → compO items f (k + 1) i (B ++ [⟨true, .lst acc⟩]) = .ok () (B ++ [⟨true, .lst (acc ++ (xs.drop i).map g)⟩])
  | 0, i, acc, hk, hb => by
    have e : xs[i]? = none := List.getElem?_eq_none (by omega)
    rw [List.drop_eq_nil_of_le (by omega)]
    simp [compO, hi, e]
  | k + 1, i, acc, hk, hb => by
    have hlt : i < xs.length := by omega
    have e : xs[i]? = some xs[i] := List.getElem?_eq_getElem hlt
    rw [compO, hi]
    simp only [e, h _ (List.getElem_mem hlt) acc (by omega), R.bind]
    rw [compO_pure hi h k (i + 1) (acc ++ [g xs[i]]) (by omega) (by simp; omega), List.drop_eq_getElem_cons hlt, List.map_cons, List.append_assoc]
    rfl
theorem comp_walk {call : Nat → List D → Cells → R D} {elt : E} {tg : Tg} {own : List Nat} {k : Ik} {es ifs : List E} {env : PV.Env} {cs cs' cs1 : Cells} {ds : List D} (h1 : evs call es env cs = .ok ds cs1)
    (h5 : walkC k ds (turnC tg (PV.wipe env own) (fun e c => tstAll call ifs e c) (fun e c => ev call elt e c) (List.length cs1)) cs1 (cs1 ++ [⟨true, .lst []⟩]) = .ok () cs') : ev call (.comp elt tg own k es ifs) env cs = .ok (.own (List.length cs1)) cs' := by
  rw [ev, h1]
  simp only [R.bind, h5]
theorem view_prev {A : Cells} {c c' : Cell} : view (A ++ [c] ++ [c']) (.own (List.length A)) = c.d := by
  simp [view]
theorem zip_self (xs : List D) : ∀ z ∈ zp xs xs, ∃ x ∈ xs, z = .tup [x, x] := by
  induction xs with
  | nil => intro z hz; simp [zp] at hz
  | cons a xs ih =>
    intro z hz
    simp only [zp, List.zipWith_cons_cons, List.mem_cons] at hz
    rcases hz with rfl | hz
    · exact ⟨a, by simp, rfl⟩
    · obtain ⟨x, h1, h2⟩ := ih z hz
      exact ⟨x, by simp [h1], h2⟩
theorem same_own (n : Nat) (A : Cells) (xs : List D) (hb : xs.length ≤ 1000) (h : ∀ x ∈ xs, ∀ cs, callN code n 29 [x, x] cs = .ok (.bl true) cs) : callN code (n + 1) 29 [.own (List.length A), .lst xs] (A ++ [⟨true, .lst xs⟩]) = .ok (.bl true) (A ++ [⟨true, .lst xs⟩]) := by
  have hc : ev (callN code n) zipE [some (.own (List.length A)), some (.lst xs), none, none] (A ++ [⟨true, .lst xs⟩]) = .ok (.own (List.length (A ++ [(⟨true, .lst xs⟩ : Cell)]))) (A ++ [⟨true, .lst xs⟩] ++ [⟨true, .lst (List.replicate (zp xs xs).length (.bl true))⟩]) := by
    have hO := compO_pure (f := turnC (.tp [(.nm 2), (.nm 3)]) (PV.wipe [some (.own (List.length A)), some (.lst xs), none, none] [2, 3]) (fun e c => tstAll (callN code n) [] e c) (fun e c => ev (callN code n) (.call 29 [(.var 2), (.var 3)]) e c) (List.length (A ++ [(⟨true, .lst xs⟩ : Cell)])))
      (g := fun _ => .bl true) (items := fun c => itemsOf .zip ([D.own (List.length A), .lst xs].map (view c))) (B := A ++ [⟨true, .lst xs⟩]) (xs := zp xs xs) (fun acc => by
        have hv1 : view (A ++ [⟨true, .lst xs⟩] ++ [⟨true, .lst acc⟩]) (.own (List.length A)) = .lst xs := view_prev
        have hv2 : view (A ++ [⟨true, .lst xs⟩] ++ [⟨true, .lst acc⟩]) (.lst xs) = .lst xs := rfl
        simp only [List.map, hv1, hv2, itemsOf, seqOf]) (fun z hz acc ha => by
        obtain ⟨x, hx, rfl⟩ := zip_self xs z hz
        exact same_turn n _ _ _ x x acc (h x hx) ha) (zp xs xs).length 0 [] (by omega) (by simp [big]; omega)
    rw [List.drop_zero, map_const, List.nil_append] at hO
    refine comp_walk (ds := [.own (List.length A), .lst xs]) (cs1 := A ++ [⟨true, .lst xs⟩]) ?_ ?_
    · simp [exs, ex, ev, evs, evAnd, evOr, tst, tstAll, tstAny, view, R.bind, R.rs, R.opt, RS.seq, endS, endD, binD, cmpD, eqD, ltD, truD, biD, isiD, tyD, idxD, at', ixN, asg, asgs, fz, fzs, List.map, List.getElem?_cons_zero, List.getElem?_cons_succ, Option.map, List.set_cons_zero, List.set_cons_succ, List.length_cons, List.length_nil]
    have hk : kOk .zip [D.own (List.length A), .lst xs] = true := rfl
    have ha : [D.own (List.length A), D.lst xs].any isOwn = true := rfl
    have hi : itemsOf .zip ([D.own (List.length A), .lst xs].map (view (A ++ [⟨true, .lst xs⟩]))) = some (zp xs xs) := by
      have hv1 : view (A ++ [⟨true, .lst xs⟩]) (.own (List.length A)) = .lst xs := view_last
      have hv2 : view (A ++ [⟨true, .lst xs⟩]) (.lst xs) = .lst xs := rfl
      simp only [List.map, hv1, hv2, itemsOf, seqOf]
    unfold walkC
    rw [if_pos hk, if_pos ha, hi]
    exact hO
  have n1 : eqD (.bl true) (.bl true) = some true := rfl
  have n2 : eqD (.bl false) (.bl false) = some true := rfl
  have hv : (A ++ [(⟨true, .lst xs⟩ : Cell)])[List.length A]? = some ⟨true, .lst xs⟩ := last_get
  rw [cl [some (.own (List.length A)), some (.lst xs), none, none] rfl rfl rfl]
  have fin : exs (callN code n) [(.ite (.or [(.cmp .ne (.isi (.var 0) [.list]) (.isi (.var 1) [.list])), (.cmp .ne (.isi (.var 0) [.tuple]) (.isi (.var 1) [.tuple]))]) [(.ret (.cst (.bl false)))] []), (.ret (.and [(.cmp .eq (.bi .len [(.var 0)]) (.bi .len [(.var 1)])), (.bi .all [zipE])]))] [some (.own (List.length A)), some (.lst xs), none, none] (A ++ [⟨true, .lst xs⟩]) = .ret (.bl true) (A ++ [⟨true, .lst xs⟩] ++ [⟨true, .lst (List.replicate (zp xs xs).length (.bl true))⟩]) := by
    rw [xn (env' := [some (.own (List.length A)), some (.lst xs), none, none]) (c := A ++ [⟨true, .lst xs⟩]) (by simp [ex, exs, ev, evs, tst, tstAny, view, R.bind, R.rs, R.opt, cmpD, n1, n2, isiD, tyD, truD, hv])]
    refine xr ?_
    have hlen : ev (callN code n) (.cmp .eq (.bi .len [(.var 0)]) (.bi .len [(.var 1)])) [some (.own (List.length A)), some (.lst xs), none, none] (A ++ [⟨true, .lst xs⟩]) = .ok (.bl true) (A ++ [⟨true, .lst xs⟩]) := by
      simp [exs, ex, ev, evs, evAnd, evOr, tst, tstAll, tstAny, view, R.bind, R.rs, R.opt, RS.seq, endS, endD, binD, cmpD, eqD, ltD, truD, biD, isiD, tyD, idxD, at', ixN, asg, asgs, fz, fzs, List.map, List.getElem?_cons_zero, List.getElem?_cons_succ, Option.map, List.set_cons_zero, List.set_cons_succ, List.length_cons, List.length_nil, hv]
    rw [ex, ev, evAnd, hlen]
    simp only [R.bind, view, truD]
    rw [evAnd, ev, evs, hc]
    have hv2 : view (A ++ [⟨true, .lst xs⟩] ++ [⟨true, .lst (List.replicate (zp xs xs).length (.bl true))⟩]) (.own (List.length (A ++ [(⟨true, .lst xs⟩ : Cell)]))) = .lst (List.replicate (zp xs xs).length (.bl true)) := view_last
    simp only [evs, R.bind, R.rs, R.opt, List.map, hv2, biD, all_true]
  rw [xr (d := .bl true) (c := A ++ [⟨true, .lst xs⟩] ++ [⟨true, .lst (List.replicate (zp xs xs).length (.bl true))⟩])]
  · simp only [endS, endD, take_len1]
  · rw [ex]
    have : tst (callN code n) (.isi (.var 1) [.list, .tuple]) [some (.own (List.length A)), some (.lst xs), none, none] (A ++ [⟨true, .lst xs⟩]) = .ok true (A ++ [⟨true, .lst xs⟩]) := by simp [exs, ex, ev, evs, evAnd, evOr, tst, tstAll, tstAny, view, R.bind, R.rs, R.opt, RS.seq, endS, endD, binD, cmpD, eqD, ltD, truD, biD, isiD, tyD, idxD, at', ixN, asg, asgs, fz, fzs, List.map, List.getElem?_cons_zero, List.getElem?_cons_succ, Option.map, List.set_cons_zero, List.set_cons_succ, List.length_cons, List.length_nil]
    rw [this]
    simp only [R.rs, if_true]
    exact fin
/-! refused -/
theorem isf_ok (n : Nat) (d : D) (cs : Cells) (h : Okd d) : callN code (n + 3) 14 [d] cs = .ok (.bl (frB d)) cs := by
  have := is_fr_ok n d cs h
  rw [cl [some d] rfl rfl rfl, xr (d := .bl (frB d)) (c := cs) (by simp [exs, ex, ev, evs, evAnd, evOr, tst, tstAll, tstAny, view, R.bind, R.rs, R.opt, RS.seq, endS, endD, binD, cmpD, eqD, ltD, truD, biD, isiD, tyD, idxD, at', ixN, asg, asgs, fz, fzs, List.map, List.getElem?_cons_zero, List.getElem?_cons_succ, Option.map, List.set_cons_zero, List.set_cons_succ, List.length_cons, List.length_nil, this])]
  simp [endS, endD]
theorem fraction_great (n : Nat) (a b : Int) (cs : Cells) (ha : 10 ^ 12 < a) : callN code (n + 3) 15 [.int a, .int b] cs = .exc ⟨2, []⟩ cs := by
  have h1 := is_number_ok (n + 1) (.int a) cs rfl
  have h2 := is_number_ok (n + 1) (.int b) cs rfl
  have hm : ((1000000000000 : Int) < if a.natAbs < b.natAbs then (b.natAbs : Int) else (a.natAbs : Int)) := by split <;> omega
  rw [cl [some (.int a), some (.int b)] rfl rfl rfl, xx (x := ⟨2, []⟩) (env' := [some (.int a), some (.int b)]) (c := cs) (by simp [exs, ex, ev, evs, evAnd, evOr, tst, tstAll, tstAny, view, R.bind, R.rs, R.opt, RS.seq, endS, endD, binD, cmpD, eqD, ltD, truD, biD, isiD, tyD, idxD, at', ixN, asg, asgs, fz, fzs, List.map, List.getElem?_cons_zero, List.getElem?_cons_succ, Option.map, List.set_cons_zero, List.set_cons_succ, List.length_cons, List.length_nil, h1, h2, numD, absI, hm])]
  simp [endS, take_len]
theorem fraction_non (n : Nat) (a : Int) (cs : Cells) : callN code (n + 3) 15 [.int a, .non] cs = .exc ⟨2, []⟩ cs := by
  have h1 := is_number_ok (n + 1) (.int a) cs rfl
  have h2 := is_number_ok (n + 1) .non cs rfl
  rw [cl [some (.int a), some .non] rfl rfl rfl, xx (x := ⟨2, []⟩) (env' := [some (.int a), some .non]) (c := cs) (by simp [exs, ex, ev, evs, evAnd, evOr, tst, tstAll, tstAny, view, R.bind, R.rs, R.opt, RS.seq, endS, endD, binD, cmpD, eqD, ltD, truD, biD, isiD, tyD, idxD, at', ixN, asg, asgs, fz, fzs, List.map, List.getElem?_cons_zero, List.getElem?_cons_succ, Option.map, List.set_cons_zero, List.set_cons_succ, List.length_cons, List.length_nil, h1, h2, numD])]
  simp [endS, take_len]
section
variable {n : Nat} {d e : D} {x : PV.Exc} {cs : Cells}
theorem two_bad1 (h : callN code (n + 3) 6 [d] cs = .exc x cs) : callN code (n + 4) 16 [d, e] cs = .exc x cs := by
  rw [cl [some d, some e, none] rfl rfl rfl, xx (x := x) (env' := [some d, some e, none]) (c := cs) (by simp [exs, ex, ev, evs, evAnd, evOr, tst, tstAll, tstAny, view, R.bind, R.rs, R.opt, RS.seq, endS, endD, binD, cmpD, eqD, ltD, truD, biD, isiD, tyD, idxD, at', ixN, asg, asgs, fz, fzs, List.map, List.getElem?_cons_zero, List.getElem?_cons_succ, Option.map, List.set_cons_zero, List.set_cons_succ, List.length_cons, List.length_nil, h])]
  simp [endS, take_len]
theorem two_bad2 {d' : D} (h1 : callN code (n + 3) 6 [d] cs = .ok d' cs) (h : callN code (n + 3) 6 [e] cs = .exc x cs) : callN code (n + 4) 16 [d, e] cs = .exc x cs := by
  rw [cl [some d, some e, none] rfl rfl rfl, xn (env' := [some d, some e, some d']) (c := cs) (by simp [exs, ex, ev, evs, evAnd, evOr, tst, tstAll, tstAny, view, R.bind, R.rs, R.opt, RS.seq, endS, endD, binD, cmpD, eqD, ltD, truD, biD, isiD, tyD, idxD, at', ixN, asg, asgs, fz, fzs, List.map, List.getElem?_cons_zero, List.getElem?_cons_succ, Option.map, List.set_cons_zero, List.set_cons_succ, List.length_cons, List.length_nil, h1]), xx (x := x) (env' := [some d, some e, some d']) (c := cs) (by simp [exs, ex, ev, evs, evAnd, evOr, tst, tstAll, tstAny, view, R.bind, R.rs, R.opt, RS.seq, endS, endD, binD, cmpD, eqD, ltD, truD, biD, isiD, tyD, idxD, at', ixN, asg, asgs, fz, fzs, List.map, List.getElem?_cons_zero, List.getElem?_cons_succ, Option.map, List.set_cons_zero, List.set_cons_succ, List.length_cons, List.length_nil, h])]
  simp [endS, take_len]
theorem bad17 (h : callN code (n + 4) 16 [d, e] cs = .exc x cs) : callN code (n + 5) 17 [d, e] cs = .exc x cs := by
  rw [cl [some d, some e, none, none] rfl rfl rfl, xx (x := x) (env' := [some d, some e, none, none]) (c := cs) (by simp [exs, ex, ev, evs, evAnd, evOr, tst, tstAll, tstAny, view, R.bind, R.rs, R.opt, RS.seq, endS, endD, binD, cmpD, eqD, ltD, truD, biD, isiD, tyD, idxD, at', ixN, asg, asgs, fz, fzs, List.map, List.getElem?_cons_zero, List.getElem?_cons_succ, Option.map, List.set_cons_zero, List.set_cons_succ, List.length_cons, List.length_nil, h])]
  simp [endS, take_len]
theorem bad18 (h : callN code (n + 4) 16 [d, e] cs = .exc x cs) : callN code (n + 5) 18 [d, e] cs = .exc x cs := by
  rw [cl [some d, some e, none, none] rfl rfl rfl, xx (x := x) (env' := [some d, some e, none, none]) (c := cs) (by simp [exs, ex, ev, evs, evAnd, evOr, tst, tstAll, tstAny, view, R.bind, R.rs, R.opt, RS.seq, endS, endD, binD, cmpD, eqD, ltD, truD, biD, isiD, tyD, idxD, at', ixN, asg, asgs, fz, fzs, List.map, List.getElem?_cons_zero, List.getElem?_cons_succ, Option.map, List.set_cons_zero, List.set_cons_succ, List.length_cons, List.length_nil, h])]
  simp [endS, take_len]
theorem bad19 (h : callN code (n + 4) 16 [d, e] cs = .exc x cs) : callN code (n + 5) 19 [d, e] cs = .exc x cs := by
  rw [cl [some d, some e, none, none] rfl rfl rfl, xx (x := x) (env' := [some d, some e, none, none]) (c := cs) (by simp [exs, ex, ev, evs, evAnd, evOr, tst, tstAll, tstAny, view, R.bind, R.rs, R.opt, RS.seq, endS, endD, binD, cmpD, eqD, ltD, truD, biD, isiD, tyD, idxD, at', ixN, asg, asgs, fz, fzs, List.map, List.getElem?_cons_zero, List.getElem?_cons_succ, Option.map, List.set_cons_zero, List.set_cons_succ, List.length_cons, List.length_nil, h])]
  simp [endS, take_len]
theorem bad20 (h : callN code (n + 4) 16 [d, e] cs = .exc x cs) : callN code (n + 5) 20 [d, e] cs = .exc x cs := by
  rw [cl [some d, some e, none, none] rfl rfl rfl, xx (x := x) (env' := [some d, some e, none, none]) (c := cs) (by simp [exs, ex, ev, evs, evAnd, evOr, tst, tstAll, tstAny, view, R.bind, R.rs, R.opt, RS.seq, endS, endD, binD, cmpD, eqD, ltD, truD, biD, isiD, tyD, idxD, at', ixN, asg, asgs, fz, fzs, List.map, List.getElem?_cons_zero, List.getElem?_cons_succ, Option.map, List.set_cons_zero, List.set_cons_succ, List.length_cons, List.length_nil, h])]
  simp [endS, take_len]
theorem bad21 (h : callN code (n + 4) 16 [d, e] cs = .exc x cs) : callN code (n + 5) 21 [d, e] cs = .exc x cs := by
  rw [cl [some d, some e, none, none] rfl rfl rfl, xx (x := x) (env' := [some d, some e, none, none]) (c := cs) (by simp [exs, ex, ev, evs, evAnd, evOr, tst, tstAll, tstAny, view, R.bind, R.rs, R.opt, RS.seq, endS, endD, binD, cmpD, eqD, ltD, truD, biD, isiD, tyD, idxD, at', ixN, asg, asgs, fz, fzs, List.map, List.getElem?_cons_zero, List.getElem?_cons_succ, Option.map, List.set_cons_zero, List.set_cons_succ, List.length_cons, List.length_nil, h])]
  simp [endS, take_len]
theorem bad22 (h : callN code (n + 3) 6 [d] cs = .exc x cs) : callN code (n + 4) 22 [d] cs = .exc x cs := by
  rw [cl [some d] rfl rfl rfl, xx (x := x) (env' := [some d]) (c := cs) (by simp [exs, ex, ev, evs, evAnd, evOr, tst, tstAll, tstAny, view, R.bind, R.rs, R.opt, RS.seq, endS, endD, binD, cmpD, eqD, ltD, truD, biD, isiD, tyD, idxD, at', ixN, asg, asgs, fz, fzs, List.map, List.getElem?_cons_zero, List.getElem?_cons_succ, Option.map, List.set_cons_zero, List.set_cons_succ, List.length_cons, List.length_nil, h])]
  simp [endS, take_len]
end
/-- no FRACTION: refused -/
theorem sure_no (n : Nat) (d : D) (cs : Cells) (h1 : callN code (n + 2) 2 [d] cs = .ok d cs) (ho : Okd d) (hb : frB d = false) : callN code (n + 3) 6 [d] cs = .exc ⟨2, []⟩ cs := by
  have h2 := is_fr_ok n d cs ho
  rw [hb] at h2
  exact sure_bad n d d cs h1 h2
theorem okd_pair {x y : D} (hx : pl x = true) (hy : pl y = true) (h : ∀ q, y = .int q → q.natAbs < 2 ^ 4000) : Okd (.tup [x, y]) := by
  refine ⟨rfl, fun xs e z hz => ?_, fun p q e => ?_⟩
  · cases e
    simp at hz
    rcases hz with rfl | rfl
    · exact hx
    · exact hy
  · cases e
    exact h q rfl
theorem f11 : Fr 1 1 := ⟨by decide, by decide, by decide, by decide⟩
theorem bads_ok (n : Nat) (cs : Cells) :
    callN code (n + 7) 33 [.fn 15, .tup [.int (10 ^ 12 + 1), .int 1]] cs = .ok (.lst [unfit, .bl true]) cs ∧ callN code (n + 7) 33 [.fn 15, .tup [.int 1, .non]] cs = .ok (.lst [unfit, .bl true]) cs ∧
    callN code (n + 7) 33 [.fn 17, .tup [fr 2 4, fr 1 1]] cs = .ok (.lst [unfit, .bl true]) cs ∧ callN code (n + 7) 33 [.fn 18, .tup [fr 1 1, fr 1 (10 ^ 12 + 1)]] cs = .ok (.lst [unfit, .bl true]) cs ∧
    callN code (n + 7) 33 [.fn 19, .tup [.non, fr 1 1]] cs = .ok (.lst [unfit, .bl true]) cs ∧ callN code (n + 7) 33 [.fn 20, .tup [fr 1 1, fr 0 2]] cs = .ok (.lst [unfit, .bl true]) cs ∧
    callN code (n + 7) 33 [.fn 22, .tup [fr 1 0]] cs = .ok (.lst [unfit, .bl true]) cs ∧ callN code (n + 7) 33 [.fn 24, .tup [.tup (List.replicate 41 (fr 1 1))]] cs = .ok (.lst [unfit, .bl true]) cs ∧
    callN code (n + 7) 33 [.fn 21, .tup [fr 1 1, .tup [.bl true, .int 1]]] cs = .ok (.lst [unfit, .bl true]) cs ∧ callN code (n + 7) 33 [.fn 24, .tup [.tup [fr 2 2]]] cs = .ok (.lst [unfit, .bl true]) cs := by
  have tp : ∀ (m : Nat) (p q : Int) (cs : Cells), callN code (m + 2) 2 [fr p q] cs = .ok (fr p q) cs := fun m p q cs => tup_pair m _ _ _ cs rfl rfl (.inl rfl)
  have bad : ∀ (m : Nat) (p q : Int) (cs : Cells), q.natAbs < 2 ^ 4000 → frB (fr p q) = false → callN code (m + 3) 6 [fr p q] cs = .exc ⟨2, []⟩ cs := fun m p q cs hq hb =>
    sure_no m _ cs (tp m p q cs) (okd_pair rfl rfl fun q' e => by cases e; exact hq) hb
  have ok1 : ∀ m cs, callN code (m + 3) 6 [fr 1 1] cs = .ok (fr 1 1) cs := fun m cs => sure_ok m f11 _ cs (.inl rfl)
  refine ⟨heard_unfit _ _ _ _ (calls2x _ _ _ _ _ _ (fraction_great (n + 2) _ _ cs (by decide))), heard_unfit _ _ _ _ (calls2x _ _ _ _ _ _ (fraction_non (n + 2) _ cs)),
    heard_unfit _ _ _ _ (calls2x _ _ _ _ _ _ (bad17 (two_bad1 (bad (n) 2 4 cs (by decide) (by decide))))), heard_unfit _ _ _ _ (calls2x _ _ _ _ _ _ (bad18 (two_bad2 (ok1 n cs) ?_))),
    heard_unfit _ _ _ _ (calls2x _ _ _ _ _ _ (bad19 (two_bad1 ?_))), heard_unfit _ _ _ _ (calls2x _ _ _ _ _ _ (bad20 (two_bad2 (ok1 n cs) (bad n 0 2 cs (by decide) (by decide))))),
    heard_unfit _ _ _ _ (calls1x _ _ _ _ _ (bad22 (bad (n + 1) 1 0 cs (by decide) (by decide)))), heard_unfit _ _ _ _ (calls1x _ _ _ _ _ (ftotal_long n _ cs (List.replicate 41 (fr 1 1)) (by simp) ?_)),
    heard_unfit _ _ _ _ (calls2x _ _ _ _ _ _ (bad21 (two_bad2 (ok1 n cs) ?_))), heard_unfit _ _ _ _ (calls1x _ _ _ _ _ (ftotal_bad n _ (fr 2 2) cs ?_ fun cs => bad (n + 1) 2 2 cs (by decide) (by decide)))⟩
  · have h2 := is_fr_ok n (fr 1 (10 ^ 12 + 1)) cs (okd_pair rfl rfl fun q e => by cases e; decide)
    exact sure_great n _ 1 (10 ^ 12 + 1) cs (tp n _ _ cs) h2 (by decide)
  · exact sure_no n _ cs (tup_leaf (n + 1) .non cs rfl) ⟨rfl, (fun xs e => by cases e), (fun p q e => by cases e)⟩ rfl
  · have := tup_seq (n + 3) (List.replicate 41 (fr 1 1)) id _ cs (.inl rfl) (fun x hx cs => by rw [List.eq_of_mem_replicate hx]; exact tp (n + 1) 1 1 cs) (fun x hx => by rw [List.eq_of_mem_replicate hx]; rfl) (by simp [big])
    simpa using this
  · exact sure_no n _ cs (tup_pair n _ _ _ cs rfl rfl (.inl rfl)) (okd_pair rfl rfl fun q e => by cases e; decide) rfl
  · have := tup_seq (n + 3) [fr 2 2] id _ cs (.inl rfl) (fun x hx cs => by simp at hx; subst hx; exact tp (n + 1) 2 2 cs) (fun x hx => by simp at hx; subst hx; rfl) (by simp [big])
    simpa using this
end K04
end

section
set_option Elab.async false
set_option linter.all false
set_option maxRecDepth 100000
set_option maxHeartbeats 8000000
set_option autoImplicit false
set_option exponentiation.threshold 20000
/-! The law of k04 by what its code gives. -/
namespace K04
open PV PySem
/-- the cells as the law's turn leaves them -/
def Stt (cs : Cells) (t b : Nat) (A : Cells) : Prop := Tin t b A ∧ ∃ c gs, A = cs.set t c ++ gs
theorem Stt.new {cs : Cells} {t b : Nat} (h : Tin t b cs) : Stt cs t b cs := by
  obtain ⟨c, hc⟩ := h.same
  exact ⟨h, c, [], by rw [hc, List.append_nil]⟩
theorem Stt.set {cs A : Cells} {t b b' : Nat} {c' : Cell} (h : Stt cs t b A) (ht : t < List.length cs) (h2 : Tin t b' (A.set t c')) : Stt cs t b' (A.set t c') := by
  obtain ⟨_, c, gs, rfl⟩ := h
  refine ⟨h2, c', gs, ?_⟩
  rw [set_app (by rw [len_set]; exact ht), set_twice]
theorem Stt.app {cs A : Cells} {t b : Nat} {g : Cell} (h : Stt cs t b A) : Stt cs t b (A ++ [g]) := by
  obtain ⟨h1, c, gs, rfl⟩ := h
  exact ⟨h1.app, c, gs ++ [g], by rw [List.append_assoc]⟩
theorem Stt.end {cs A : Cells} {t b : Nat} (h : Stt cs t b A) (ht : t < List.length cs) : ∃ c, A.take (List.length cs) = cs.set t c ∧ Tin t b (cs.set t c) := by
  obtain ⟨h1, c, gs, rfl⟩ := h
  refine ⟨c, ?_, h1.app_inv (by rw [len_set]; exact ht)⟩
  have : List.length cs = List.length (cs.set t c) := by simp
  rw [this, List.take_left' rfl]
/-- the rows lessened -/
def lw (r : Row) : Row := loP (r.1 % 1000) (1 + r.2 % 60)
theorem lw_fr (r : Row) : Fr (lw r).1 (lw r).2 := by
  refine loP_fr ?_ ?_ ?_ <;> omega
abbrev lwE : E := .call 34 [(.bin .mod (.idx (.var 5) (.cst (.int 0))) (.cst (.int 1000))), (.bin .add (.cst (.int 1)) (.bin .mod (.idx (.var 5) (.cst (.int 1))) (.cst (.int 60))))]
theorem low_rows (n : Nat) (env : PV.Env) (hl : 5 < env.length) (A : Cells) : ∀ (rs acc : List Row), acc.length + rs.length ≤ big →
    compL (turnC (.nm 5) (PV.wipe env [5]) (fun e c => tstAll (callN code (n + 2)) [] e c) (fun e c => ev (callN code (n + 2)) lwE e c) (List.length A)) (rs.map rD) (A ++ [⟨true, .lst (acc.map rD)⟩]) = .ok () (A ++ [⟨true, .lst ((acc ++ rs.map lw).map rD)⟩])
  | [], acc, hs => by simp [compL]
  | r :: rs, acc, hs => by
    rw [List.length_cons] at hs
    have hlo := law_low_ok n (r.1 % 1000) (1 + r.2 % 60) (A ++ [⟨true, .lst (acc.map rD)⟩]) (by omega) (p64 (by omega))
    rw [lo_P] at hlo
    have hl2 : 5 < (PV.wipe env [5]).length := by simpa [PV.wipe] using hl
    have hg : ∀ v, (List.set (PV.wipe env [5]) 5 v)[5]? = some v := fun v => List.getElem?_set_self hl2
    have hp := push_last (cs := A) (acc := acc.map rD) (x := rD (lw r)) rfl (by rw [List.length_map]; omega)
    have step : turnC (.nm 5) (PV.wipe env [5]) (fun e c => tstAll (callN code (n + 2)) [] e c) (fun e c => ev (callN code (n + 2)) lwE e c) (List.length A) (rD r) (A ++ [⟨true, .lst (acc.map rD)⟩]) = .ok () (A ++ [⟨true, .lst ((acc ++ [lw r]).map rD)⟩]) := by
      simp only [turnC, asg, hl2, if_true, tstAll, R.bind, ev, evs, hg, view, idxD, at', ixN, R.opt, binD]
      simp [R.bind, R.opt, idxD, at', ixN, binD, view, hlo]
      rw [show loP (r.1 % 1000) (1 + r.2 % 60) = lw r from rfl, hp]
    rw [List.map_cons, compL, step]
    simp only [R.bind]
    rw [low_rows n env hl A rs (acc ++ [lw r]) (by simp; omega)]
    simp
abbrev sumB : List S := [(.par [(.nm 13), (.nm 14)] [(.bin .add (.bin .mul (.var 13) (.idx (.var 5) (.cst (.int 1)))) (.bin .mul (.idx (.var 5) (.cst (.int 0))) (.var 14))), (.bin .mul (.var 14) (.idx (.var 5) (.cst (.int 1))))]), (.set (.tp [(.nm 13), (.nm 14)]) (.call 34 [(.var 13), (.var 14)]))]
section
variable (v0 v1 v2 v3 v4 v6 v7 v8 v9 v10 v11 v12 v15 v16 v17 : Option D)
abbrev env18 (v5 v13 v14 : Option D) : PV.Env := [v0, v1, v2, v3, v4, v5, v6, v7, v8, v9, v10, v11, v12, v13, v14, v15, v16, v17]
theorem sum_loop (n : Nat) (A : Cells) : ∀ (rs : List Row) (i : Nat) (a : Row) (v5 : Option D), (∀ r ∈ rs, Fr r.1 r.2) → small i a.2 → i + rs.length ≤ 40 →
    ∃ w5, forL (turnS (.nm 5) fun e c => exs (callN code (n + 2)) sumB e c) (rs.map rD) (env18 v0 v1 v2 v3 v4 v6 v7 v8 v9 v10 v11 v12 v15 v16 v17 v5 (some (.int a.1)) (some (.int a.2))) A =
      .next (env18 v0 v1 v2 v3 v4 v6 v7 v8 v9 v10 v11 v12 v15 v16 v17 w5 (some (.int (tot a rs).1)) (some (.int (tot a rs).2))) A
  | [], i, a, v5, hf, ha, hi => ⟨v5, rfl⟩
  | r :: rs, i, a, v5, hf, ha, hi => by
    rw [List.length_cons] at hi
    have hr := hf r (by simp)
    obtain ⟨h1, h2⟩ := small_step ha hr.pos hr.dn
    have hlo := law_low_ok n (a.1 * r.2 + r.1 * a.2) (a.2 * r.2) A (by omega) (small_nat (i := i + 1) (by omega) h1 h2)
    rw [lo_P] at hlo
    obtain ⟨w5, hw⟩ := sum_loop n A rs (i + 1) (stp a r) (some (rD r)) (fun x hx => hf x (by simp [hx])) (stp_small ha hr) (by omega)
    refine ⟨w5, ?_⟩
    rw [List.map_cons, forL]
    have m1 := mul_r (a := a.1) hr.s2
    have m2 := mul_l (b := a.2) hr.s1
    have m3 := mul_r (a := a.2) hr.s2
    have e3 : turnS (.nm 5) (fun e c => exs (callN code (n + 2)) sumB e c) (rD r) (env18 v0 v1 v2 v3 v4 v6 v7 v8 v9 v10 v11 v12 v15 v16 v17 v5 (some (.int a.1)) (some (.int a.2))) A = .next (env18 v0 v1 v2 v3 v4 v6 v7 v8 v9 v10 v11 v12 v15 v16 v17 (some (rD r)) (some (.int (stp a r).1)) (some (.int (stp a r).2))) A := by
      simp [turnS, exs, ex, ev, evs, evAnd, evOr, tst, tstAll, tstAny, view, R.bind, R.rs, R.opt, RS.seq, endS, endD, binD, cmpD, eqD, ltD, truD, biD, isiD, tyD, idxD, at', ixN, asg, asgs, fz, fzs, List.map, List.getElem?_cons_zero, List.getElem?_cons_succ, Option.map, List.set_cons_zero, List.set_cons_succ, List.length_cons, List.length_nil, m1, m2, m3, hlo, stp]
    rw [e3, loopB, hw]
    rfl
end
section
variable {n t b : Nat} {A : Cells}
theorem heard_frac (n : Nat) (x y : Int) (A : Cells) (hx : x.natAbs ≤ 10 ^ 12) (hy : y.natAbs ≤ 10 ^ 12) (h0 : y ≠ 0) : callN code (n + 10) 33 [.fn 15, .tup [.int x, .int y]] A = .ok (.lst [told, rD (loP x y)]) A := by
  have h := fraction_ok (n + 5) x y A hx hy h0
  rw [lo_P] at h
  exact heard_ok (n + 9) 15 _ _ A (calls2 (n + 8) 15 _ _ _ A h rfl) rfl
theorem heard_frac0 (n : Nat) (x : Int) (A : Cells) (hx : x.natAbs ≤ 10 ^ 12) : callN code (n + 10) 33 [.fn 15, .tup [.int x, .int 0]] A = .ok (.lst [cannot, .bl true]) A :=
  heard_cannot (n + 9) 15 _ A (calls2x (n + 8) 15 _ _ _ A (fraction_no (n + 5) x A hx))
theorem low_row (n : Nat) (x y : Int) (A : Cells) (h0 : y ≠ 0) (hb : y.natAbs < 2 ^ 4000) : callN code (n + 10) 34 [.int x, .int y] A = .ok (rD (loP x y)) A := by
  have h := law_low_ok (n + 8) x y A h0 hb
  rw [lo_P] at h
  exact h
theorem same_told' (n : Nat) (r : Row) (A : Cells) : callN code (n + 10) 29 [.lst [told, rD r], .lst [told, rD r]] A = .ok (.bl true) A := by
  refine same_seq (n + 9) _ _ [told, rD r] [told, rD r] A (.inr ⟨rfl, rfl⟩) rfl (by simp [big]) fun z hz => ?_
  obtain ⟨x, hx, rfl⟩ := zip_self _ z hz
  refine ⟨x, x, rfl, fun cs => ?_⟩
  simp at hx
  rcases hx with rfl | rfl
  · exact same_str (n + 8) _ cs (by decide +kernel)
  · exact same_fr (n + 7) _ _ cs
theorem same_list (n : Nat) (xs : List D) (A : Cells) (hb : xs.length ≤ 1000) (h : ∀ x ∈ xs, (∃ i, x = .int i) ∨ (∃ r, x = rD r) ∨ ∃ k, x = .bl k) : callN code (n + 10) 29 [.lst xs, .lst xs] A = .ok (.bl true) A := by
  refine same_seq (n + 9) _ _ xs xs A (.inr ⟨rfl, rfl⟩) rfl (by simp [big]; omega) fun z hz => ?_
  obtain ⟨x, hx, rfl⟩ := zip_self _ z hz
  refine ⟨x, x, rfl, fun cs => ?_⟩
  rcases h x hx with ⟨i, rfl⟩ | ⟨r, rfl⟩ | ⟨k, rfl⟩
  · exact same_int (n + 8) i cs
  · exact same_fr (n + 7) _ _ cs
  · exact same_bl (n + 8) k cs
/-- the first two statements -/
abbrev st2 : S := (.ite (.not (.call 29 [(.call 33 [(.gfn 15), (.tup [(.var 9), (.var 10)])]), (.ite (.cmp .ne (.var 10) (.cst (.int 0))) (.lst [(.cst (.str (Str.ofString "told"))), (.call 34 [(.var 9), (.var 10)])]) (.lst [(.cst (.str (Str.ofString "cannot"))), (.cst (.bl true))]))])) [(.ret (.cst (.bl false)))] [])
theorem st2_ok (n : Nat) (A : Cells) (x y : Int) (hx : x.natAbs ≤ 10 ^ 12) (hy : y.natAbs ≤ 10 ^ 12) (env : PV.Env) (h9 : env[9]? = some (some (.int x))) (h10 : env[10]? = some (some (.int y))) : ex (callN code (n + 10)) st2 env A = .next env A := by
  by_cases h0 : y = 0
  · subst h0
    have h1 := heard_frac0 n x A hx
    have h2 := same_cannot (n + 7) A
    simp [ex, exs, ev, evs, tst, R.bind, R.rs, R.opt, h9, h10, fzs, fz, h1, view, cmpD, eqInt, truD, h2]
  · have h1 := heard_frac n x y A hx hy h0
    have h2 := low_row n x y A h0 (p64 (Nat.lt_of_le_of_lt hy two64))
    have h3 := same_told' n (loP x y) A
    have h4 : (y == 0) = false := by simpa using h0
    simp [ex, exs, ev, evs, tst, R.bind, R.rs, R.opt, h9, h10, fzs, fz, h1, view, cmpD, eqInt, h4, truD, h2, h3]
end
abbrev st6 : S := (.set (.nm 2) (.lst [(.call 17 [(.var 11), (.bi .list [(.var 12)])]), (.call 18 [(.bi .list [(.var 11)]), (.var 12)]), (.call 19 [(.var 11), (.var 12)]), (.call 21 [(.var 11), (.var 12)]), (.call 21 [(.var 11), (.var 11)]), (.call 22 [(.var 11)]), (.call 23 [(.var 11)])]))
abbrev st7 : S := (.set (.nm 3) (.lst [(.call 34 [(.bin .add (.bin .mul (.var 9) (.var 16)) (.bin .mul (.var 15) (.var 10))), (.bin .mul (.var 10) (.var 16))]), (.call 34 [(.bin .sub (.bin .mul (.var 9) (.var 16)) (.bin .mul (.var 15) (.var 10))), (.bin .mul (.var 10) (.var 16))]), (.call 34 [(.bin .mul (.var 9) (.var 15)), (.bin .mul (.var 10) (.var 16))]), (.ite (.cmp .gt (.var 1) (.cst (.int 0))) (.cst (.int 1)) (.ite (.cmp .lt (.var 1) (.cst (.int 0))) (.neg (.cst (.int 1))) (.cst (.int 0)))), (.cst (.int 0)), (.bin .fdiv (.var 9) (.var 10)), (.neg (.bin .fdiv (.neg (.var 9)) (.var 10)))]))
abbrev st8 : S := (.ite (.or [(.not (.call 29 [(.var 2), (.var 3)])), (.not (.call 29 [(.call 33 [(.gfn 20), (.tup [(.var 11), (.var 12)])]), (.ite (.cmp .ne (.var 15) (.cst (.int 0))) (.lst [(.cst (.str (Str.ofString "told"))), (.call 34 [(.bin .mul (.var 9) (.var 16)), (.bin .mul (.var 10) (.var 15))])]) (.lst [(.cst (.str (Str.ofString "cannot"))), (.cst (.bl true))]))]))]) [(.ret (.cst (.bl false)))] [])
abbrev st9 : S := (.set (.nm 4) (.bi .tuple [(.comp (.call 36 [(.var 0)]) (.nm 17) [17] .rng [(.call 28 [(.var 0), (.lst [(.cst (.int 0)), (.cst (.int 3)), (.cst (.int 40))])])] [])]))
abbrev st10 : S := (.ite (.cmp .gt (.bi .len [(.var 4)]) (.cst (.int 3))) [(.set (.nm 4) (.bi .tuple [(.comp (.call 34 [(.bin .mod (.idx (.var 5) (.cst (.int 0))) (.cst (.int 1000))), (.bin .add (.cst (.int 1)) (.bin .mod (.idx (.var 5) (.cst (.int 1))) (.cst (.int 60))))]) (.nm 5) [5] .seq [(.var 4)] [])]))] [])
abbrev st12 : S := (.for (.nm 5) .seq [(.var 4)] [(.par [(.nm 13), (.nm 14)] [(.bin .add (.bin .mul (.var 13) (.idx (.var 5) (.cst (.int 1)))) (.bin .mul (.idx (.var 5) (.cst (.int 0))) (.var 14))), (.bin .mul (.var 14) (.idx (.var 5) (.cst (.int 1))))]), (.set (.tp [(.nm 13), (.nm 14)]) (.call 34 [(.var 13), (.var 14)]))])
abbrev st13 : S := (.ite (.not (.call 29 [(.call 24 [(.call 31 [(.var 0), (.var 4)])]), (.tup [(.var 13), (.var 14)])])) [(.ret (.cst (.bl false)))] [])
abbrev st14 : S := (.set (.nm 6) (.lst [(.tup [(.cst (.int 2)), (.cst (.int 4))]), (.tup [(.cst (.int 1)), (.cst (.int 0))]), (.tup [(.cst (.int 1)), (.neg (.cst (.int 1)))]), (.lst [(.cst (.int 1)), (.cst (.int 2))]), (.tup [(.cst (.int 1))]), (.cst .non), (.tup [(.cst (.bl true)), (.cst (.int 1))]), (.tup [(.cst (.int 1)), (.cst (.int 2)), (.cst (.int 3))]), (.tup [(.cst (.int 0)), (.cst (.int 2))]), (.tup [(.cst (.str (Str.ofString "1"))), (.cst (.int 2))])]))
abbrev st15 : S := (.set (.nm 7) (.lst [(.var 11), (.var 12), (.tup [(.cst (.int 0)), (.cst (.int 1))]), (.tup [(.neg (.cst (.int 7))), (.cst (.int 3))]), (.tup [(.cst (.int 5)), (.cst (.int 1))]), (.tup [(.bin .pow (.cst (.int 10)) (.cst (.int 30))), (.cst (.int 1))])]))
abbrev st16 : S := (.ite (.not (.call 29 [(.comp (.call 14 [(.var 5)]) (.nm 5) [5] .seq [(.bin .add (.var 6) (.var 7))] []), (.bin .add (.bin .mul (.lst [(.cst (.bl false))]) (.cst (.int 10))) (.bin .mul (.lst [(.cst (.bl true))]) (.cst (.int 6))))])) [(.ret (.cst (.bl false)))] [])
abbrev st17 : S := (.set (.nm 8) (.lst [(.call 33 [(.gfn 15), (.tup [(.bin .add (.bin .pow (.cst (.int 10)) (.cst (.int 12))) (.cst (.int 1))), (.cst (.int 1))])]), (.call 33 [(.gfn 15), (.tup [(.cst (.int 1)), (.cst .non)])]), (.call 33 [(.gfn 17), (.tup [(.tup [(.cst (.int 2)), (.cst (.int 4))]), (.tup [(.cst (.int 1)), (.cst (.int 1))])])]), (.call 33 [(.gfn 18), (.tup [(.tup [(.cst (.int 1)), (.cst (.int 1))]), (.tup [(.cst (.int 1)), (.bin .add (.bin .pow (.cst (.int 10)) (.cst (.int 12))) (.cst (.int 1)))])])]), (.call 33 [(.gfn 19), (.tup [(.cst .non), (.tup [(.cst (.int 1)), (.cst (.int 1))])])]), (.call 33 [(.gfn 20), (.tup [(.tup [(.cst (.int 1)), (.cst (.int 1))]), (.tup [(.cst (.int 0)), (.cst (.int 2))])])]), (.call 33 [(.gfn 22), (.tup [(.tup [(.cst (.int 1)), (.cst (.int 0))])])]), (.call 33 [(.gfn 24), (.tup [(.bin .mul (.tup [(.tup [(.cst (.int 1)), (.cst (.int 1))])]) (.cst (.int 41)))])]), (.call 33 [(.gfn 21), (.tup [(.tup [(.cst (.int 1)), (.cst (.int 1))]), (.tup [(.cst (.bl true)), (.cst (.int 1))])])]), (.call 33 [(.gfn 24), (.tup [(.tup [(.tup [(.cst (.int 2)), (.cst (.int 2))])])])])]))
abbrev st18 : S := (.ret (.cmp .eq (.var 8) (.bin .mul (.lst [(.lst [(.cst (.str (Str.ofString "unfit"))), (.cst (.bl true))])]) (.cst (.int 10)))))
theorem sg_ok {call : Nat → List D → Cells → R D} {A : Cells} {env : PV.Env} {g : Int} (e1 : env[1]? = some (some (.int g))) : ev call (.ite (.cmp .gt (.var 1) (.cst (.int 0))) (.cst (.int 1)) (.ite (.cmp .lt (.var 1) (.cst (.int 0))) (.neg (.cst (.int 1))) (.cst (.int 0)))) env A = .ok (.int (sgn g)) A := by
  simp only [ev, tst, R.bind, e1, view, cmpD, ltD, truD, R.opt]
  unfold sgn
  by_cases k1 : 0 < g
  · simp [k1]
  · by_cases k2 : g < 0
    · simp [R.bind, R.opt, truD, k1, k2]
    · simp [R.bind, R.opt, truD, k1, k2]
/-- what is told, what is due -/
def toldL (p q r s : Int) : List D := [rD (loP (p * s + r * q) (q * s)), rD (loP (p * s - r * q) (q * s)), rD (loP (p * r) (q * s)), .int (sgn (p * s - r * q)), .int 0, .int (p / q), .int (-(-p / q))]
section
variable {p q r s : Int} (h1 : Fr p q) (h2 : Fr r s)
include h1 h2
theorem st6_ok (n : Nat) (A : Cells) (env : PV.Env) (e11 : env[11]? = some (some (fr p q))) (e12 : env[12]? = some (some (fr r s))) (hl : 2 < env.length) : ex (callN code (n + 10)) st6 env A = .next (env.set 2 (some (.lst (toldL p q r s)))) A := by
  have a1 := fsum_ok h1 h2 (d := fr p q) (e := .lst [.int r, .int s]) (.inl rfl) (.inr rfl) (n + 5) A
  have a2 := fless_ok h1 h2 (d := .lst [.int p, .int q]) (e := fr r s) (.inr rfl) (.inl rfl) (n + 5) A
  have a3 := fprod_ok h1 h2 (d := fr p q) (e := fr r s) (.inl rfl) (.inl rfl) (n + 5) A
  have a4 := fcmp_ok h1 h2 (d := fr p q) (e := fr r s) (.inl rfl) (.inl rfl) (n + 5) A
  have a5 := fcmp_ok h1 h1 (d := fr p q) (e := fr p q) (.inl rfl) (.inl rfl) (n + 5) A
  have a6 := rdown_ok (n + 6) h1 A
  have a7 := rup_ok (n + 6) h1 A
  rw [lo_P] at a1 a2 a3
  have e0 : sgn (p * q - p * q) = 0 := by simp [sgn]
  rw [e0] at a5
  simp [ex, ev, evs, R.bind, R.rs, R.opt, e11, e12, a1, a2, a3, a4, a5, a6, a7, view, biD, fzs, fz, asg, hl, toldL]
theorem st7_ok (n : Nat) (A : Cells) (env : PV.Env) (e9 : env[9]? = some (some (.int p))) (e10 : env[10]? = some (some (.int q))) (e15 : env[15]? = some (some (.int r))) (e16 : env[16]? = some (some (.int s))) (e1 : env[1]? = some (some (.int (p * s - r * q)))) (hl : 3 < env.length) :
    ex (callN code (n + 10)) st7 env A = .next (env.set 3 (some (.lst (toldL p q r s)))) A := by
  have hqs := h1.ne h2
  have hb := nat128 h1.s2 h2.s2
  have hq := h1.pos
  have hq0 : 0 < q := by omega
  have a1 := low_row n (p * s + r * q) (q * s) A hqs hb
  have a2 := low_row n (p * s - r * q) (q * s) A hqs hb
  have a3 := low_row n (p * r) (q * s) A hqs hb
  have m1 := mul_r (a := p) h2.s2
  have m2 := mul_l (b := q) h2.s1
  have m3 := mul_r (a := q) h2.s2
  have m4 := mul_r (a := p) h2.s1
  have dq := divOk_of (p64 h1.s2)
  have x1 : ev (callN code (n + 10)) (.call 34 [(.bin .add (.bin .mul (.var 9) (.var 16)) (.bin .mul (.var 15) (.var 10))), (.bin .mul (.var 10) (.var 16))]) env A = .ok (rD (loP (p * s + r * q) (q * s))) A := by
    simp [ev, evs, R.bind, R.opt, e9, e10, e15, e16, view, binD, m1, m2, m3, a1]
  have x2 : ev (callN code (n + 10)) (.call 34 [(.bin .sub (.bin .mul (.var 9) (.var 16)) (.bin .mul (.var 15) (.var 10))), (.bin .mul (.var 10) (.var 16))]) env A = .ok (rD (loP (p * s - r * q) (q * s))) A := by
    simp [ev, evs, R.bind, R.opt, e9, e10, e15, e16, view, binD, m1, m2, m3, a2]
  have x3 : ev (callN code (n + 10)) (.call 34 [(.bin .mul (.var 9) (.var 15)), (.bin .mul (.var 10) (.var 16))]) env A = .ok (rD (loP (p * r) (q * s))) A := by
    simp [ev, evs, R.bind, R.opt, e9, e10, e15, e16, view, binD, m3, m4, a3]
  have x4 := sg_ok (call := callN code (n + 10)) (A := A) e1
  have x5 : ev (callN code (n + 10)) (.cst (.int 0)) env A = .ok (.int 0) A := by rw [ev]
  have x6 : ev (callN code (n + 10)) (.bin .fdiv (.var 9) (.var 10)) env A = .ok (.int (p / q)) A := by
    simp [ev, R.bind, R.opt, e9, e10, view, binD, hq0, dq]
  have x7 : ev (callN code (n + 10)) (.neg (.bin .fdiv (.neg (.var 9)) (.var 10))) env A = .ok (.int (-(-p / q))) A := by
    simp [ev, R.bind, R.opt, e9, e10, view, binD, hq0, dq]
  rw [ex, ev]
  simp only [evs, x1, x2, x3, x4, x5, x6, x7, R.bind, R.rs]
  simp [fzs, fz, asg, hl, toldL]
theorem st8_ok (n : Nat) (A : Cells) (env : PV.Env) (e9 : env[9]? = some (some (.int p))) (e10 : env[10]? = some (some (.int q))) (e15 : env[15]? = some (some (.int r))) (e16 : env[16]? = some (some (.int s))) (e11 : env[11]? = some (some (fr p q))) (e12 : env[12]? = some (some (fr r s)))
    (e2 : env[2]? = some (some (.lst (toldL p q r s)))) (e3 : env[3]? = some (some (.lst (toldL p q r s)))) : ex (callN code (n + 10)) st8 env A = .next env A := by
  have a0 := same_list n (toldL p q r s) A (by simp [toldL]) (fun x hx => by
    simp only [toldL, List.mem_cons, List.not_mem_nil, or_false] at hx
    rcases hx with rfl | rfl | rfl | rfl | rfl | rfl | rfl
    · exact .inr (.inl ⟨_, rfl⟩)
    · exact .inr (.inl ⟨_, rfl⟩)
    · exact .inr (.inl ⟨_, rfl⟩)
    · exact .inl ⟨_, rfl⟩
    · exact .inl ⟨_, rfl⟩
    · exact .inl ⟨_, rfl⟩
    · exact .inl ⟨_, rfl⟩)
  have m1 := mul_r (a := p) h2.s2
  have m2 := mul_r (a := q) h2.s1
  by_cases hr : r = 0
  · have a1 := heard_cannot (n + 9) 20 (.tup [fr p q, fr r s]) A (calls2x (n + 8) 20 _ _ _ A (fquo_no h1 h2 (.inl rfl) (.inl rfl) (n + 3) A hr))
    have a2 := same_cannot (n + 7) A
    subst hr
    simp [ex, exs, ev, evs, tst, tstAny, R.bind, R.rs, R.opt, e2, e3, a0, e11, e12, e15, fzs, fz, a1, view, cmpD, eqInt, truD, a2]
  · have hq := fquo_ok h1 h2 (d := fr p q) (e := fr r s) (.inl rfl) (.inl rfl) (n + 3) A hr
    rw [lo_P] at hq
    have a1 := heard_ok (n + 9) 20 (.tup [fr p q, fr r s]) _ A (calls2 (n + 8) 20 _ _ _ A hq rfl) rfl
    have a2 := low_row n (p * s) (q * r) A (Int.mul_ne_zero (by have := h1.pos; omega) hr) (nat128 h1.s2 h2.s1)
    have a3 := same_told' n (loP (p * s) (q * r)) A
    have h4 : (r == 0) = false := by simpa using hr
    simp [ex, exs, ev, evs, tst, tstAny, R.bind, R.rs, R.opt, e2, e3, a0, e9, e10, e11, e12, e15, e16, fzs, fz, a1, view, cmpD, eqInt, h4, truD, binD, m1, m2, a2, a3]
end
theorem rngs_len : ∀ (k : Nat) (lo c : Int), (rngs lo c k).length = k
  | 0, _, _ => rfl
  | k + 1, lo, c => by simp [rngs, rngs_len k]
theorem st9_ok (n t b : Nat) (A : Cells) (env : PV.Env) (h : Tin t b A) (hb : b + 300 ≤ 10 ^ 5) (he : env[0]? = some (some (.own t))) (hl : 17 < env.length) :
    ∃ (rs : List Row) (c' : Cell), rs.length ≤ 40 ∧ (∀ r ∈ rs, Fr r.1 r.2) ∧ ex (callN code (n + 10)) st9 env A = .next (env.set 4 (some (.tup (rs.map rD)))) (A.set t c' ++ [⟨true, .lst (rs.map rD)⟩]) ∧ Tin t (b + 281) (A.set t c') := by
  obtain ⟨d, c1, hd, e1, t1⟩ := of_ok (n + 8) [.int 0, .int 3, .int 40] A h (by omega) (by simp) (by simp) (fun d hd => by
    simp only [List.mem_cons, List.not_mem_nil, or_false] at hd
    rcases hd with rfl | rfl | rfl <;> rfl)
  obtain ⟨k, rfl, hk, hk2⟩ : ∃ k : Nat, d = .int k ∧ k ≤ 40 ∧ rngOk k = true := by
    simp only [List.mem_cons, List.not_mem_nil, or_false] at hd
    rcases hd with rfl | rfl | rfl
    · exact ⟨0, rfl, by omega, by decide⟩
    · exact ⟨3, rfl, by omega, by decide⟩
    · exact ⟨40, rfl, by omega, by decide⟩
  obtain ⟨rs, c2, r1, r2, r3, r4⟩ := gen_rows (n + 6) t env he hl (rngs 0 1 k) [] (A.set t c1) (b + 1) t1 (by rw [rngs_len]; omega) (by rw [rngs_len]; simp [big]; omega) (fun r hr => by cases hr)
  rw [rngs_len] at r1 r4
  rw [set_twice] at r3 r4
  refine ⟨rs, c2, by simp at r1; omega, r2, ?_, r4.mono (by omega)⟩
  have hc : ev (callN code (n + 10)) (.comp (.call 36 [(.var 0)]) (.nm 17) [17] .rng [(.call 28 [(.var 0), (.lst [(.cst (.int 0)), (.cst (.int 3)), (.cst (.int 40))])])] []) env A = .ok (.own (List.length (A.set t c1))) (A.set t c2 ++ [⟨true, .lst (rs.map rD)⟩]) := by
    refine comp_frozen (ds := [.int k]) (xs := rngs 0 1 k) (cs1 := A.set t c1) ?_ rfl rfl ?_ r3
    · simp [ev, evs, R.bind, he, fzs, fz, e1]
    · simp [itemsOf, hk2]
  rw [ex, ev, evs, hc]
  have hv : view (A.set t c2 ++ [⟨true, .lst (rs.map rD)⟩]) (.own (List.length (A.set t c1))) = .lst (rs.map rD) := by
    rw [len_set, ← len_set (t := t) (c := c2)]
    exact view_last
  simp only [R.bind, evs, List.map, hv, biD, R.opt, R.rs, asg]
  rw [if_pos (by omega)]
theorem st10_ok (n : Nat) (A : Cells) (env : PV.Env) (rs : List Row) (hr : rs.length ≤ 40) (hf : ∀ r ∈ rs, Fr r.1 r.2) (e4 : env[4]? = some (some (.tup (rs.map rD)))) (hl : 17 < env.length) :
    ∃ (rs' : List Row) (gs : Cells), rs'.length ≤ 40 ∧ (∀ r ∈ rs', Fr r.1 r.2) ∧ ex (callN code (n + 10)) st10 env A = .next (env.set 4 (some (.tup (rs'.map rD)))) (A ++ gs) ∧ (gs = [] ∨ ∃ g, gs = [g]) := by
  by_cases h3 : 3 < rs.length
  · refine ⟨rs.map lw, [⟨true, .lst ((rs.map lw).map rD)⟩], by simpa using hr, fun r h => ?_, ?_, .inr ⟨_, rfl⟩⟩
    · obtain ⟨x, _, rfl⟩ := List.mem_map.mp h
      exact lw_fr x
    · have hc : ev (callN code (n + 10)) (.comp lwE (.nm 5) [5] .seq [(.var 4)] []) env A = .ok (.own (List.length A)) (A ++ [⟨true, .lst ((rs.map lw).map rD)⟩]) := by
        have := low_rows (n + 8) env (by omega) A rs [] (by simp [big]; omega)
        refine comp_frozen (ds := [.tup (rs.map rD)]) (xs := rs.map rD) (cs1 := A) ?_ rfl rfl rfl (by simpa using this)
        simp [ev, evs, R.bind, e4]
      have h3' : (3 : Int) < (rs.length : Int) := by omega
      have ht : tst (callN code (n + 10)) (.cmp .gt (.bi .len [(.var 4)]) (.cst (.int 3))) env A = .ok true A := by
        simp [tst, ev, evs, R.bind, R.opt, e4, view, biD, cmpD, ltD, h3', truD]
      rw [ex, ht]
      simp only [R.rs, if_true]
      rw [xn (env' := env.set 4 (some (.tup ((rs.map lw).map rD)))) (c := A ++ [⟨true, .lst ((rs.map lw).map rD)⟩]) (by
        rw [ex, ev, evs, hc]
        simp only [R.bind, evs, List.map, view_last, biD, R.opt, R.rs, asg]
        rw [if_pos (by omega)])]
      rfl
  · have h3' : ¬ (3 : Int) < (rs.length : Int) := by omega
    refine ⟨rs, [], hr, hf, ?_, .inl rfl⟩
    have hid : env.set 4 (some (.tup (rs.map rD))) = env := by
      refine List.ext_getElem? fun i => ?_
      rw [List.getElem?_set]
      split
      · next h => subst h; rw [if_pos (by omega), e4]
      · rfl
    rw [hid, List.append_nil]
    simp [ex, exs, tst, ev, evs, R.bind, R.opt, R.rs, e4, view, biD, cmpD, ltD, h3', truD]
theorem st13_ok (n t b : Nat) (A : Cells) (env : PV.Env) (rs : List Row) (hr : rs.length ≤ 40) (hf : ∀ r ∈ rs, Fr r.1 r.2) (h : Tin t b A) (hb : b + 100 ≤ 10 ^ 5) (e0 : env[0]? = some (some (.own t))) (e4 : env[4]? = some (some (.tup (rs.map rD)))) (e13 : env[13]? = some (some (.int (tot (0, 1) rs).1))) (e14 : env[14]? = some (some (.int (tot (0, 1) rs).2))) :
    ∃ c', ex (callN code (n + 10)) st13 env A = .next env (A.set t c') ∧ Tin t (b + 41) (A.set t c') := by
  obtain ⟨d, c', m1, m2, m3, m4⟩ := mixed_rows (n + 6) t b rs A h (by omega) (by omega)
  have a1 := ftotal_ok (n + 5) d (A.set t c') rs hf hr (m4 (n + 6) _)
  have a2 := same_fr (n + 8) (tot (0, 1) rs).1 (tot (0, 1) rs).2 (A.set t c')
  refine ⟨c', ?_, m2.mono (by omega)⟩
  simp [ex, exs, tst, ev, evs, R.bind, R.opt, R.rs, e0, e4, e13, e14, m1, a1, fzs, fz, a2, view, truD]
def thingsL : List D := [fr 2 4, fr 1 0, fr 1 (-1), .lst [.int 1, .int 2], .tup [.int 1], .non, .tup [.bl true, .int 1], .tup [.int 1, .int 2, .int 3], fr 0 2, .tup [.str (Str.ofString "1"), .int 2]]
def goodsL (p q r s : Int) : List D := [fr p q, fr r s, fr 0 1, fr (-7) 3, fr 5 1, fr (10 ^ 30) 1]
theorem st14_ok (n : Nat) (A : Cells) (env : PV.Env) (hl : 17 < env.length) : ex (callN code (n + 10)) st14 env A = .next (env.set 6 (some (.lst thingsL))) A := by
  have : 6 < env.length := by omega
  simp [ex, ev, evs, R.bind, R.rs, fzs, fz, asg, this, thingsL]
theorem st15_ok (n : Nat) (A : Cells) (env : PV.Env) (p q r s : Int) (hl : 17 < env.length) (e11 : env[11]? = some (some (fr p q))) (e12 : env[12]? = some (some (fr r s))) : ex (callN code (n + 10)) st15 env A = .next (env.set 7 (some (.lst (goodsL p q r s)))) A := by
  have : 7 < env.length := by omega
  simp [ex, ev, evs, R.bind, R.rs, R.opt, view, binD, e11, e12, fzs, fz, asg, this, goodsL]
def boolsL : List D := [.bl false, .bl false, .bl false, .bl false, .bl false, .bl false, .bl false, .bl false, .bl false, .bl false, .bl true, .bl true, .bl true, .bl true, .bl true, .bl true]
theorem okd_small (d : D) (h : pl d = true) (hi : ∀ xs, d = .tup xs → (xs.all pl) = true) (hs : ∀ p q, d = .tup [.int p, .int q] → q.natAbs < 2 ^ 4000) : Okd d :=
  ⟨h, fun xs e x hx => List.all_eq_true.mp (hi xs e) x hx, hs⟩
theorem okd_all (p q r s : Int) (h1 : Fr p q) (h2 : Fr r s) : ∀ d ∈ thingsL ++ goodsL p q r s, Okd d := by
  intro d hd
  simp only [thingsL, goodsL, List.cons_append, List.nil_append, List.mem_cons, List.not_mem_nil, or_false] at hd
  rcases hd with rfl | rfl | rfl | rfl | rfl | rfl | rfl | rfl | rfl | rfl | rfl | rfl | rfl | rfl | rfl | rfl
  case inr.inr.inr.inr.inr.inr.inr.inr.inr.inr.inl => exact h1.okd
  case inr.inr.inr.inr.inr.inr.inr.inr.inr.inr.inr.inl => exact h2.okd
  all_goals exact okd_small _ rfl (fun xs e => by cases e <;> rfl) (fun p q e => by cases e <;> decide)
theorem frB_all (p q r s : Int) (h1 : Fr p q) (h2 : Fr r s) : (thingsL ++ goodsL p q r s).map (fun d => D.bl (frB d)) = boolsL := by
  have b1 := h1.b
  have b2 := h2.b
  have k1 : frB (fr 2 4) = false := by decide
  have k2 : frB (fr 1 0) = false := by decide
  have k3 : frB (fr 1 (-1)) = false := by decide
  have k4 : frB (fr 0 2) = false := by decide
  have k5 : frB (fr 0 1) = true := by decide
  have k6 : frB (fr (-7) 3) = true := by decide
  have k7 : frB (fr 5 1) = true := by decide
  have k8 : frB (fr (10 ^ 30) 1) = true := by decide
  simp only [thingsL, goodsL, List.cons_append, List.nil_append, List.map, b1, b2, k1, k2, k3, k4, k5, k6, k7, k8]
  rfl
theorem tst_call {call : Nat → List D → Cells → R D} {k : Nat} {es : List E} {env : PV.Env} {cs : Cells} : tst call (.call k es) env cs = (ev call (.call k es) env cs).bind fun x c => R.opt (truD (view c x)) c := by simp only [tst]
theorem st16_ok (n : Nat) (A : Cells) (env : PV.Env) (p q r s : Int) (h1 : Fr p q) (h2 : Fr r s) (hl : 17 < env.length) (e6 : env[6]? = some (some (.lst thingsL))) (e7 : env[7]? = some (some (.lst (goodsL p q r s)))) :
    ex (callN code (n + 10)) st16 env A = .next env (A ++ [⟨true, .lst boolsL⟩]) := by
  have hadd : ev (callN code (n + 10)) (.bin .add (.var 6) (.var 7)) env A = .ok (.lst (thingsL ++ goodsL p q r s)) A := by
    have : thingsL.length + (goodsL p q r s).length ≤ big := by simp [thingsL, goodsL, big]
    simp [ev, R.bind, R.opt, e6, e7, view, binD, this]
  have hc : ev (callN code (n + 10)) (.comp (.call 14 [(.var 5)]) (.nm 5) [5] .seq [(.bin .add (.var 6) (.var 7))] []) env A = .ok (.own (List.length A)) (A ++ [⟨true, .lst boolsL⟩]) := by
    have hw := compL_pure (f := turnC (.nm 5) (PV.wipe env [5]) (fun e c => tstAll (callN code (n + 10)) [] e c) (fun e c => ev (callN code (n + 10)) (.call 14 [(.var 5)]) e c) (List.length A)) (g := fun d => D.bl (frB d)) (cs := A) (thingsL ++ goodsL p q r s) [] (fun d hd acc ha => by
      have hi := isf_ok (n + 7) d (A ++ [⟨true, .lst acc⟩]) (okd_all p q r s h1 h2 d hd)
      have hl2 : 5 < (PV.wipe env [5]).length := by simp [PV.wipe]; omega
      have hg : ∀ v, (List.set (PV.wipe env [5]) 5 v)[5]? = some v := fun v => List.getElem?_set_self hl2
      simp only [turnC, asg, hl2, if_true, tstAll, R.bind, ev, evs, hg, hi]
      exact push_last rfl ha) (by simp [thingsL, goodsL, big])
    rw [frB_all p q r s h1 h2, List.nil_append] at hw
    exact comp_frozen (ds := [.lst (thingsL ++ goodsL p q r s)]) (xs := thingsL ++ goodsL p q r s) (cs1 := A) (by simp only [evs, hadd, R.bind]) rfl rfl rfl hw
  have hdue : ev (callN code (n + 10)) (.bin .add (.bin .mul (.lst [(.cst (.bl false))]) (.cst (.int 10))) (.bin .mul (.lst [(.cst (.bl true))]) (.cst (.int 6)))) env (A ++ [⟨true, .lst boolsL⟩]) = .ok (.lst boolsL) (A ++ [⟨true, .lst boolsL⟩]) := by
    simp [ev, evs, R.bind, R.opt, fzs, fz, view, binD, big, boolsL, List.replicate]
  have hs := same_own (n + 9) A boolsL (by simp [boolsL]) (fun x hx cs => by
    simp only [boolsL, List.mem_cons, List.not_mem_nil, or_false] at hx
    obtain ⟨k, rfl⟩ : ∃ k, x = .bl k := by
      rcases hx with rfl | rfl | rfl | rfl | rfl | rfl | rfl | rfl | rfl | rfl | rfl | rfl | rfl | rfl | rfl | rfl <;> exact ⟨_, rfl⟩
    exact same_bl (n + 8) k cs)
  have ht : tst (callN code (n + 10)) (.not (.call 29 [(.comp (.call 14 [(.var 5)]) (.nm 5) [5] .seq [(.bin .add (.var 6) (.var 7))] []), (.bin .add (.bin .mul (.lst [(.cst (.bl false))]) (.cst (.int 10))) (.bin .mul (.lst [(.cst (.bl true))]) (.cst (.int 6))))])) env A = .ok false (A ++ [⟨true, .lst boolsL⟩]) := by
    rw [tst, tst_call, ev, evs, hc]
    simp only [R.bind]
    rw [evs, hdue]
    simp only [R.bind, evs, hs, view, truD, R.opt]
    rfl
  rw [ex, ht]
  simp only [R.rs, Bool.false_eq_true, if_false, exs]
theorem ev_call {call : Nat → List D → Cells → R D} {k : Nat} {e : E} {es : List E} {env : PV.Env} {cs : Cells} {d : D} {c : Cells} (h : ev call e env cs = .ok d c) : ev call (.call k (e :: es)) env cs = (evs call es env c).bind fun ds c2 => call k (d :: ds) c2 := by
  rw [ev, evs, h]
  simp only [R.bind]
  cases evs call es env c <;> rfl
def bad1 : D := .lst [unfit, .bl true]
theorem st17_ok (n : Nat) (A : Cells) (env : PV.Env) (hl : 17 < env.length) : ex (callN code (n + 10)) st17 env A = .next (env.set 8 (some (.lst (List.replicate 10 bad1)))) A := by
  obtain ⟨b1, b2, b3, b4, b5, b6, b7, b8, b9, b10⟩ := bads_ok (n + 3) A
  have e12 : (10 : Int) ^ 12 + 1 = 1000000000001 := by decide
  rw [e12] at b1 b4
  have hl8 : 8 < env.length := by omega
  have x1 : ev (callN code (n + 10)) (.call 33 [(.gfn 15), (.tup [(.bin .add (.bin .pow (.cst (.int 10)) (.cst (.int 12))) (.cst (.int 1))), (.cst (.int 1))])]) env A = .ok bad1 A := by
    simp [ev, evs, R.bind, R.opt, fzs, fz, view, binD, b1, bad1]
  have x2 : ev (callN code (n + 10)) (.call 33 [(.gfn 15), (.tup [(.cst (.int 1)), (.cst .non)])]) env A = .ok bad1 A := by
    simp [ev, evs, R.bind, R.opt, fzs, fz, view, binD, b2, bad1]
  have x3 : ev (callN code (n + 10)) (.call 33 [(.gfn 17), (.tup [(.tup [(.cst (.int 2)), (.cst (.int 4))]), (.tup [(.cst (.int 1)), (.cst (.int 1))])])]) env A = .ok bad1 A := by
    simp [ev, evs, R.bind, R.opt, fzs, fz, view, binD, b3, bad1]
  have x4 : ev (callN code (n + 10)) (.call 33 [(.gfn 18), (.tup [(.tup [(.cst (.int 1)), (.cst (.int 1))]), (.tup [(.cst (.int 1)), (.bin .add (.bin .pow (.cst (.int 10)) (.cst (.int 12))) (.cst (.int 1)))])])]) env A = .ok bad1 A := by
    simp [ev, evs, R.bind, R.opt, fzs, fz, view, binD, b4, bad1]
  have x5 : ev (callN code (n + 10)) (.call 33 [(.gfn 19), (.tup [(.cst .non), (.tup [(.cst (.int 1)), (.cst (.int 1))])])]) env A = .ok bad1 A := by
    simp [ev, evs, R.bind, R.opt, fzs, fz, view, binD, b5, bad1]
  have x6 : ev (callN code (n + 10)) (.call 33 [(.gfn 20), (.tup [(.tup [(.cst (.int 1)), (.cst (.int 1))]), (.tup [(.cst (.int 0)), (.cst (.int 2))])])]) env A = .ok bad1 A := by
    simp [ev, evs, R.bind, R.opt, fzs, fz, view, binD, b6, bad1]
  have x7 : ev (callN code (n + 10)) (.call 33 [(.gfn 22), (.tup [(.tup [(.cst (.int 1)), (.cst (.int 0))])])]) env A = .ok bad1 A := by
    simp [ev, evs, R.bind, R.opt, fzs, fz, view, binD, b7, bad1]
  have t8 : ev (callN code (n + 10)) (.bin .mul (.tup [(.tup [(.cst (.int 1)), (.cst (.int 1))])]) (.cst (.int 41))) env A = .ok (.tup (List.replicate 41 (fr 1 1))) A := by
    simp only [ev, evs, R.bind, fzs, fz, view, binD, R.opt]
    rfl
  have x8 : ev (callN code (n + 10)) (.call 33 [(.gfn 24), (.tup [(.bin .mul (.tup [(.tup [(.cst (.int 1)), (.cst (.int 1))])]) (.cst (.int 41)))])]) env A = .ok bad1 A := by
    have t9 : ev (callN code (n + 10)) (.tup [(.bin .mul (.tup [(.tup [(.cst (.int 1)), (.cst (.int 1))])]) (.cst (.int 41)))]) env A = .ok (.tup [.tup (List.replicate 41 (fr 1 1))]) A := by
      rw [ev, evs, t8]
      simp only [evs, R.bind, fzs, fz]
    rw [ev_call (d := .fn 24) (c := A) (by rw [ev]), evs, t9]
    simp only [evs, R.bind]
    exact b8
  have x9 : ev (callN code (n + 10)) (.call 33 [(.gfn 21), (.tup [(.tup [(.cst (.int 1)), (.cst (.int 1))]), (.tup [(.cst (.bl true)), (.cst (.int 1))])])]) env A = .ok bad1 A := by
    simp [ev, evs, R.bind, R.opt, fzs, fz, view, binD, b9, bad1]
  have x10 : ev (callN code (n + 10)) (.call 33 [(.gfn 24), (.tup [(.tup [(.tup [(.cst (.int 2)), (.cst (.int 2))])])])]) env A = .ok bad1 A := by
    simp [ev, evs, R.bind, R.opt, fzs, fz, view, binD, b10, bad1]
  rw [ex, ev]
  simp only [evs, x1, x2, x3, x4, x5, x6, x7, x8, x9, x10, R.bind, R.rs]
  simp only [fzs, fz, asg, hl8, if_true, bad1]
  rfl
theorem st18_ok (n : Nat) (A : Cells) (env : PV.Env) (e8 : env[8]? = some (some (.lst (List.replicate 10 bad1)))) : ex (callN code (n + 10)) st18 env A = .ret (.bl true) A := by
  have he : eqD (.lst (List.replicate 10 bad1)) (.lst (List.replicate 10 [bad1]).flatten) = some true := by decide +kernel
  have hd : ev (callN code (n + 10)) (.bin .mul (.lst [(.lst [(.cst (.str (Str.ofString "unfit"))), (.cst (.bl true))])]) (.cst (.int 10))) env A = .ok (.lst (List.replicate 10 [bad1]).flatten) A := by
    simp [ev, evs, R.bind, R.opt, fzs, fz, view, binD, bad1]
  rw [ex, ev, ev, e8]
  simp only [R.bind]
  rw [hd]
  simp only [R.bind, view, cmpD, he, R.rs]
end K04
end

section
set_option Elab.async false
set_option linter.all false
set_option maxRecDepth 100000
set_option maxHeartbeats 8000000
set_option autoImplicit false
set_option exponentiation.threshold 20000
/-! The law of k04. -/
namespace K04
open PV PySem
theorem law_right_ok (n t b : Nat) (cs : Cells) (h : Tin t b cs) (hb : b + 500 ≤ 10 ^ 5) : ∃ c', callN code (n + 11) 37 [.own t] cs = .ok (.bl true) (cs.set t c') ∧ Tin t (b + 400) (cs.set t c') := by
  have hlt := h.lt
  have S0 := Stt.new h
  -- the first numbers
  obtain ⟨x, c1, hx, e1, t1⟩ := number_ok (n + 7) cs h (by omega)
  obtain ⟨y, c2, hy, e2, t2⟩ := number_ok (n + 7) _ t1 (by omega)
  rw [set_twice] at e2 t2
  have S2 := S0.set hlt t2
  obtain ⟨r1, c3, f1, e3, t3⟩ := lfraction_ok (n + 6) _ t2 (by omega)
  rw [set_twice] at e3 t3
  obtain ⟨r2, c4, f2, e4, t4⟩ := lfraction_ok (n + 6) _ t3 (by omega)
  rw [set_twice] at e4 t4
  obtain ⟨p, q⟩ := r1
  obtain ⟨r, s⟩ := r2
  have S4 := S0.set hlt t4
  obtain ⟨rs, c5, l5, f5, e5, t5⟩ := st9_ok n t _ (cs.set t c4) [some (.own t), some (.int (p * s - r * q)), some (.lst (toldL p q r s)), some (.lst (toldL p q r s)), none, none, none, none, none, some (.int p), some (.int q), some (fr p q), some (fr r s), none, none, some (.int r), some (.int s), none] t4 (by omega) rfl (by simp)
  rw [set_twice] at e5 t5
  have S5 := (S0.set hlt t5).app (g := ⟨true, .lst (rs.map rD)⟩)
  obtain ⟨rs', gs, l6, f6, e6, hgs⟩ := st10_ok n (cs.set t c5 ++ [⟨true, .lst (rs.map rD)⟩]) [some (.own t), some (.int (p * s - r * q)), some (.lst (toldL p q r s)), some (.lst (toldL p q r s)), some (.tup (rs.map rD)), none, none, none, none, some (.int p), some (.int q), some (fr p q), some (fr r s), none, none, some (.int r), some (.int s), none] rs l5 f5 rfl (by simp)
  have S6 : Stt cs t (b + 4 + 4 + 7 + 7 + 281) (cs.set t c5 ++ [⟨true, .lst (rs.map rD)⟩] ++ gs) := by
    rcases hgs with rfl | ⟨g, rfl⟩
    · rw [List.append_nil]; exact S5
    · exact S5.app
  obtain ⟨w5, e7⟩ := sum_loop (some (.own t)) (some (.int (p * s - r * q))) (some (.lst (toldL p q r s))) (some (.lst (toldL p q r s))) (some (.tup (rs'.map rD))) none none none (some (.int p)) (some (.int q)) (some (fr p q)) (some (fr r s)) (some (.int r)) (some (.int s)) none (n + 8) (cs.set t c5 ++ [⟨true, .lst (rs.map rD)⟩] ++ gs) rs' 0 (0, 1) none f6 ⟨by decide, by decide⟩ (by omega)
  obtain ⟨A, hA⟩ : ∃ A, A = cs.set t c5 ++ [⟨true, .lst (rs.map rD)⟩] ++ gs := ⟨_, rfl⟩
  rw [← hA] at S6 e6 e7
  obtain ⟨c8, e8, t8⟩ := st13_ok n t _ A (env18 (some (.own t)) (some (.int (p * s - r * q))) (some (.lst (toldL p q r s))) (some (.lst (toldL p q r s))) (some (.tup (rs'.map rD))) none none none (some (.int p)) (some (.int q)) (some (fr p q)) (some (fr r s)) (some (.int r)) (some (.int s)) none w5 (some (.int (tot (0, 1) rs').1)) (some (.int (tot (0, 1) rs').2))) rs' l6 f6 S6.1 (by omega) rfl rfl rfl rfl
  have S8 := S6.set hlt t8
  have S9 := S8.app (g := ⟨true, .lst boolsL⟩)
  obtain ⟨cE, h1, h2⟩ := S9.end hlt
  refine ⟨cE, ?_, h2.mono (by omega)⟩
  have m1 := mul_r (a := p) f2.s2
  have m2 := mul_l (b := q) f2.s1
  rw [cl [some (.own t), none, none, none, none, none, none, none, none, none, none, none, none, none, none, none, none, none] rfl rfl rfl]
  rw [xn (env' := [some (.own t), none, none, none, none, none, none, none, none, some (.int x), some (.int y), none, none, none, none, none, none, none]) (c := cs.set t c2) (by simp only [ex, ev, evs, R.bind, R.rs, List.getElem?_cons_zero, e1, e2]; rfl),
    xn (st2_ok n (cs.set t c2) x y hx hy _ rfl rfl),
    xn (env' := [some (.own t), none, none, none, none, none, none, none, none, some (.int x), some (.int y), some (fr p q), some (fr r s), none, none, none, none, none]) (c := cs.set t c4) (by simp only [ex, ev, evs, R.bind, R.rs, List.getElem?_cons_zero, e3, e4]; rfl),
    xn (env' := [some (.own t), none, none, none, none, none, none, none, none, some (.int p), some (.int q), some (fr p q), some (fr r s), none, none, some (.int r), some (.int s), none]) (c := cs.set t c4) (by simp only [ex, ev, evs, R.bind, R.rs, List.getElem?_cons_zero, List.getElem?_cons_succ]; rfl),
    xn (env' := [some (.own t), some (.int (p * s - r * q)), none, none, none, none, none, none, none, some (.int p), some (.int q), some (fr p q), some (fr r s), none, none, some (.int r), some (.int s), none]) (c := cs.set t c4) (by simp [ex, ev, R.bind, R.rs, R.opt, view, binD, m1, m2, asg]),
    xn (st6_ok f1 f2 n (cs.set t c4) _ rfl rfl (by simp)),
    xn (st7_ok f1 f2 n (cs.set t c4) _ rfl rfl rfl rfl rfl (by simp)),
    xn (st8_ok f1 f2 n (cs.set t c4) _ rfl rfl rfl rfl rfl rfl rfl rfl)]
  refine (congrArg (endS false (List.length cs)) ((xn (s := st9) e5).trans ?_)).trans (b := endS false (List.length cs) (.ret (.bl true) (A.set t c8 ++ [⟨true, .lst boolsL⟩]))) ?_
  · rw [← hA] at *
    refine (xn (s := st10) e6).trans ?_
    rw [xn (env' := env18 (some (.own t)) (some (.int (p * s - r * q))) (some (.lst (toldL p q r s))) (some (.lst (toldL p q r s))) (some (.tup (rs'.map rD))) none none none (some (.int p)) (some (.int q)) (some (fr p q)) (some (fr r s)) (some (.int r)) (some (.int s)) none none (some (.int 0)) (some (.int 1))) (c := A) (by simp [ex, ev, evs, R.bind, R.rs, asg, asgs])]
    rw [xn (env' := env18 (some (.own t)) (some (.int (p * s - r * q))) (some (.lst (toldL p q r s))) (some (.lst (toldL p q r s))) (some (.tup (rs'.map rD))) none none none (some (.int p)) (some (.int q)) (some (fr p q)) (some (fr r s)) (some (.int r)) (some (.int s)) none w5 (some (.int (tot (0, 1) rs').1)) (some (.int (tot (0, 1) rs').2))) (c := A) (by
      rw [ex]
      simp only [evs, ev, R.bind, R.rs, List.getElem?_cons_zero, List.getElem?_cons_succ]
      simp only [walkS, kOk, if_true, List.any_cons, List.any_nil, isOwn, Bool.or_false, Bool.false_eq_true, if_false, itemsOf, seqOf]
      exact e7)]
    refine (xn (s := st13) e8).trans ?_
    rw [xn (st14_ok n (A.set t c8) _ (by simp)), xn (st15_ok n (A.set t c8) _ p q r s (by simp) rfl rfl), xn (st16_ok n (A.set t c8) _ p q r s f1 f2 (by simp) rfl rfl), xn (st17_ok n _ _ (by simp)), xr (st18_ok n _ _ rfl)]
  · simp only [endS, endD, h1]
/-! five turns -/
abbrev lapF (call : Nat → List D → Cells → R D) (env : PV.Env) (m : Nat) : D → Cells → R Unit := turnC (.nm 4) (PV.wipe env [4]) (fun e c => tstAll call [] e c) (fun e c => ev call (.call 37 [(.var 3)]) e c) m
theorem laps (n t : Nat) (env : PV.Env) (he : env[3]? = some (some (.own t))) (hl : 4 < env.length) : ∀ (xs : List D) (k : Nat) (B : Cells) (b : Nat), Tin t b B → b + 400 * xs.length + 500 ≤ 10 ^ 5 → k + xs.length ≤ big →
    ∃ c', compL (lapF (callN code (n + 11)) env (List.length B)) xs (B ++ [⟨true, .lst (List.replicate k (.bl true))⟩]) = .ok () (B.set t c' ++ [⟨true, .lst (List.replicate (k + xs.length) (.bl true))⟩]) ∧ Tin t (b + 400 * xs.length) (B.set t c')
  | [], k, B, b, h, hb, hs => by
    obtain ⟨c, hc⟩ := h.same
    exact ⟨c, by rw [compL, hc]; rfl, by rw [hc]; exact h⟩
  | x :: xs, k, B, b, h, hb, hs => by
    rw [List.length_cons] at hb hs
    have hlt := h.lt
    obtain ⟨c1, e1, t1⟩ := law_right_ok n t b (B ++ [⟨true, .lst (List.replicate k (.bl true))⟩]) h.app (by omega)
    rw [set_app hlt] at e1 t1
    have t1' := t1.app_inv (by rw [len_set]; exact hlt)
    obtain ⟨c2, q1, q2⟩ := laps n t env he hl xs (k + 1) (B.set t c1) (b + 400) t1' (by omega) (by omega)
    refine ⟨c2, ?_, ?_⟩
    · have hl2 : 4 < (PV.wipe env [4]).length := by simpa [PV.wipe] using hl
      have hg : ∀ v, (List.set (PV.wipe env [4]) 4 v)[3]? = some (some (.own t)) := fun v => by
        rw [List.getElem?_set_ne (by omega)]
        simp only [PV.wipe]
        rw [List.getElem?_set_ne (by omega)]
        exact he
      have hp := push_last (cs := B.set t c1) (acc := List.replicate k (.bl true)) (x := .bl true) rfl (by rw [List.length_replicate]; omega)
      rw [len_set] at hp
      have hrep : List.replicate k (D.bl true) ++ [.bl true] = List.replicate (k + 1) (.bl true) := by rw [List.replicate_succ']
      rw [hrep] at hp
      have step : lapF (callN code (n + 11)) env (List.length B) x (B ++ [⟨true, .lst (List.replicate k (.bl true))⟩]) = .ok () (B.set t c1 ++ [⟨true, .lst (List.replicate (k + 1) (.bl true))⟩]) := by
        simp only [lapF, turnC, asg, hl2, if_true, tstAll, R.bind, ev, evs, hg, e1, hp]
      rw [compL, step]
      simp only [R.bind]
      rw [len_set] at q1
      rw [q1, set_twice, List.length_cons, show k + 1 + xs.length = k + (xs.length + 1) by omega]
    · rw [set_twice] at q2
      rw [List.length_cons, show b + 400 * (xs.length + 1) = b + 400 + 400 * xs.length by omega]
      exact q2
/-! the box -/
theorem box_ok (n : Nat) (zs : List Int) (k : Nat) (A : Cells) (hk : k < zs.length) (hl : zs.length ≤ 2) : ∃ c, callN code (n + 1) 25 [.lst (zs.map .int), .int k] A = .ok (.own (List.length A)) (A ++ [c]) ∧ Tin (List.length A) 0 (A ++ [c]) := by
  have hz : (zs.map D.int)[k]? = some (.int zs[k]) := by simp [hk]
  obtain ⟨z, hzz⟩ : ∃ z, z = zs[k] := ⟨_, rfl⟩
  rw [← hzz] at hz
  have hat : at' (zs.map D.int) (k : Int) = some (.int z) := by
    unfold at' ixN
    rw [List.length_map, if_pos (by omega), if_pos (by omega)]
    exact hz
  obtain ⟨bb, hbb⟩ : ∃ bb : Bool, bb = decide (10 ^ 18 ≤ (z.natAbs : Int)) := ⟨_, rfl⟩
  have hy1 : 0 ≤ z % 2305843009213693951 := Int.emod_nonneg _ (by decide)
  have hy2 : z % 2305843009213693951 < 2305843009213693951 := Int.emod_lt_of_pos _ (by decide)
  have mb : mulOk (z.natAbs : Int) (b2n bb) = true := mul_r (by cases bb <;> decide)
  have mk : mulOk 39373 (k : Int) = true := mul_l (by decide)
  refine ⟨cel ((z.natAbs : Int) * b2n bb) (z % 2305843009213693951 + 39373 * k + 26347704) 0, ?_, _, _, _, last_get, ?_, by omega, by omega, by omega, by omega⟩
  · have hlt : (k : Int) < ((zs.map D.int).length : Int) := by rw [List.length_map]; omega
    have x1 : ev (callN code n) (.ite (.cmp .lt (.var 1) (.bi .len [(.var 0)])) (.idx (.var 0) (.var 1)) (.cst (.int 0))) [some (.lst (zs.map .int)), some (.int k), none] A = .ok (.int z) A := by
      simp only [ev, tst, evs, R.bind, R.opt, List.getElem?_cons_zero, List.getElem?_cons_succ, view, List.map_cons, List.map_nil, biD, cmpD, ltD, hlt, decide_true, truD, if_true, idxD, hat]
    have k18 : (10 : Int) ^ (18 : Int).toNat = 10 ^ 18 := by decide
    have kc : (0 : Int) ≤ 18 ∧ (18 : Int) ≤ 1000 ∧ (10 : Int).natAbs < 2 ^ 64 := by decide
    have x2 : ev (callN code n) (.bin .mul (.bi .abs [(.var 2)]) (.bi .int [(.cmp .ge (.bi .abs [(.var 2)]) (.bin .pow (.cst (.int 10)) (.cst (.int 18))))])) [some (.lst (zs.map .int)), some (.int k), some (.int z)] A = .ok (.int ((z.natAbs : Int) * b2n bb)) A := by
      simp only [ev, evs, R.bind, R.opt, List.getElem?_cons_zero, List.getElem?_cons_succ, view, List.map_cons, List.map_nil, biD, absI, binD, kc, and_self, if_true, k18, cmpD, ← hbb, mb]
    have x3 : ev (callN code n) (.bin .add (.bin .add (.bin .mod (.bi .int [(.var 2)]) (.cst (.int 2305843009213693951))) (.bin .mul (.cst (.int 39373)) (.var 1))) (.cst (.int 26347704))) [some (.lst (zs.map .int)), some (.int k), some (.int z)] A = .ok (.int (z % 2305843009213693951 + 39373 * k + 26347704)) A := by
      simp only [ev, evs, R.bind, R.opt, List.getElem?_cons_zero, List.getElem?_cons_succ, view, List.map_cons, List.map_nil, biD, binD, mk, if_true, show (0 : Int) < 2305843009213693951 by decide]
    rw [cl [some (.lst (zs.map .int)), some (.int k), none] rfl rfl rfl, xn (env' := [some (.lst (zs.map .int)), some (.int k), some (.int z)]) (c := A) (by rw [ex, x1]; rfl)]
    rw [xr (d := .own (List.length A)) (c := A ++ [cel ((z.natAbs : Int) * b2n bb) (z % 2305843009213693951 + 39373 * k + 26347704) 0]) (by
      have x4 : ev (callN code n) (.cst (.int 0)) [some (.lst (zs.map .int)), some (.int k), some (.int z)] A = .ok (.int 0) A := by rw [ev]
      rw [ex, ev]
      simp only [isFresh, if_true]
      rw [ev]
      simp only [evs, x2, x3, x4, R.bind, fzs, fz, R.rs])]
    simp only [endS, endD, Nat.lt_irrefl, if_false, last_get, Bool.true_and, if_true]
    simp
  · cases bb
    · simp [b2n]
    · simp [b2n]
/-! the cells -/
abbrev cellB : List S := [(.set (.nm 5) (.bin .mod (.bi .int [(.var 3)]) (.var 1))), (.sub (.var 2) (.var 5) (.bin .add (.idx (.var 2) (.var 5)) (.bin .mul (.var 4) (.bin .add (.var 3) (.cst (.int 2))))))]
theorem cells_loop (n : Nat) (v0 : Option D) (A : Cells) : ∀ (bs : List Int) (k : Nat) (u w : Int) (v3 v4 v5 : Option D), k + bs.length ≤ 1000 →
    ∃ u' w' v3' v4' v5', forL (turnS (.tp [(.nm 3), (.nm 4)]) fun e c => exs (callN code n) cellB e c) (enumD k (bs.map D.int)) [v0, some (.int 2), some (.own (List.length A)), v3, v4, v5] (A ++ [⟨true, .lst [.int u, .int w]⟩]) =
      .next [v0, some (.int 2), some (.own (List.length A)), v3', v4', v5'] (A ++ [⟨true, .lst [.int u', .int w']⟩])
  | [], k, u, w, v3, v4, v5, h => ⟨u, w, v3, v4, v5, rfl⟩
  | z :: bs, k, u, w, v3, v4, v5, h => by
    rw [List.length_cons] at h
    have hm : mulOk z ((k : Int) + 2) = true := mul_r (by omega)
    have hk : (k : Int) % 2 = 0 ∨ (k : Int) % 2 = 1 := by omega
    have hg : (A ++ [(⟨true, .lst [.int u, .int w]⟩ : Cell)])[List.length A]? = some ⟨true, .lst [.int u, .int w]⟩ := last_get
    rcases hk with hk | hk
    · obtain ⟨u', w', a, b, c, hr⟩ := cells_loop n v0 A bs (k + 1) (u + z * (k + 2)) w (some (.int k)) (some (.int z)) (some (.int 0)) (by omega)
      refine ⟨u', w', a, b, c, ?_⟩
      rw [List.map_cons, enumD, forL]
      have e3 : turnS (.tp [(.nm 3), (.nm 4)]) (fun e c => exs (callN code n) cellB e c) (.tup [.int k, .int z]) [v0, some (.int 2), some (.own (List.length A)), v3, v4, v5] (A ++ [⟨true, .lst [.int u, .int w]⟩]) = .next [v0, some (.int 2), some (.own (List.length A)), some (.int k), some (.int z), some (.int 0)] (A ++ [⟨true, .lst [.int (u + z * (k + 2)), .int w]⟩]) := by
        simp [turnS, exs, ex, ev, evs, evAnd, evOr, tst, tstAll, tstAny, view, R.bind, R.rs, R.opt, RS.seq, endS, endD, binD, cmpD, eqD, ltD, truD, biD, isiD, tyD, idxD, at', ixN, asg, asgs, fz, fzs, List.map, List.getElem?_cons_zero, List.getElem?_cons_succ, Option.map, List.set_cons_zero, List.set_cons_succ, List.length_cons, List.length_nil, hk, hm, setD, setCell]
      rw [e3, loopB, ← hr]
      rw [show ((k + 1 : Nat) : Int) = (k : Int) + 1 by omega]
    · obtain ⟨u', w', a, b, c, hr⟩ := cells_loop n v0 A bs (k + 1) u (w + z * (k + 2)) (some (.int k)) (some (.int z)) (some (.int 1)) (by omega)
      refine ⟨u', w', a, b, c, ?_⟩
      rw [List.map_cons, enumD, forL]
      have e3 : turnS (.tp [(.nm 3), (.nm 4)]) (fun e c => exs (callN code n) cellB e c) (.tup [.int k, .int z]) [v0, some (.int 2), some (.own (List.length A)), v3, v4, v5] (A ++ [⟨true, .lst [.int u, .int w]⟩]) = .next [v0, some (.int 2), some (.own (List.length A)), some (.int k), some (.int z), some (.int 1)] (A ++ [⟨true, .lst [.int u, .int (w + z * (k + 2))]⟩]) := by
        simp [turnS, exs, ex, ev, evs, evAnd, evOr, tst, tstAll, tstAny, view, R.bind, R.rs, R.opt, RS.seq, endS, endD, binD, cmpD, eqD, ltD, truD, biD, isiD, tyD, idxD, at', ixN, asg, asgs, fz, fzs, List.map, List.getElem?_cons_zero, List.getElem?_cons_succ, Option.map, List.set_cons_zero, List.set_cons_succ, List.length_cons, List.length_nil, hk, hm, setD, setCell]
      rw [e3, loopB, ← hr]
      rw [show ((k + 1 : Nat) : Int) = (k : Int) + 1 by omega]
end K04
end

section
set_option Elab.async false
set_option linter.all false
set_option maxRecDepth 100000
set_option maxHeartbeats 8000000
set_option autoImplicit false
set_option exponentiation.threshold 20000
/-! The law of k04 is true. -/
namespace K04
open PV PySem
abbrev forC : S := (.for (.tp [(.nm 3), (.nm 4)]) .enum [(.slc (.var 0) true true (.var 1) (.cst (.int 63)))] cellB)
theorem forC_ok (n : Nat) (xs bs : List D) (A : Cells) (c : Cell) (hc : cut xs (some 2) (some 63) = bs) (env' : PV.Env) (A' : Cells)
    (h : forL (turnS (.tp [(.nm 3), (.nm 4)]) fun e c => exs (callN code n) cellB e c) (enumD 0 bs) [some (.scr xs), some (.int 2), some (.own (List.length A)), none, none, none] (A ++ [c]) = .next env' A') :
    ex (callN code n) forC [some (.scr xs), some (.int 2), some (.own (List.length A)), none, none, none] (A ++ [c]) = .next env' A' := by
  have he : evs (callN code n) [(.slc (.var 0) true true (.var 1) (.cst (.int 63)))] [some (.scr xs), some (.int 2), some (.own (List.length A)), none, none, none] (A ++ [c]) = .ok [.lst bs] (A ++ [c]) := by
    simp only [evs, ev, R.bind, List.getElem?_cons_zero, List.getElem?_cons_succ, if_true, partD, R.opt, view, cutD, hc]
  rw [ex, he]
  simp only [R.rs]
  have hk : kOk .enum [D.lst bs] = true := rfl
  have ha : [D.lst bs].any isOwn = false := rfl
  have hi : itemsOf .enum [D.lst bs] = some (enumD 0 bs) := rfl
  unfold walkS
  rw [if_pos hk, ha, if_neg Bool.false_ne_true, hi]
  exact h
theorem cells_ok (n : Nat) (is : List Int) (hl : is.length ≤ 63) (A : Cells) : ∃ zs : List Int, 1 ≤ zs.length ∧ zs.length ≤ 2 ∧ callN code (n + 1) 27 [.scr (is.map .int), .int 2] A = .ok (.lst (zs.map .int)) A := by
  have fin : ∀ (env' : PV.Env) (zs : List Int), env'[2]? = some (some (.own (List.length A))) → exs (callN code n) [(.ret (.var 2))] env' (A ++ [⟨true, .lst (zs.map .int)⟩]) = .ret (.own (List.length A)) (A ++ [⟨true, .lst (zs.map .int)⟩]) ∧ endS false (List.length A) (.ret (.own (List.length A)) (A ++ [⟨true, .lst (zs.map .int)⟩])) = .ok (.lst (zs.map .int)) A := fun env' zs he => by
    refine ⟨xr (by rw [ex, ev, he]; rfl), ?_⟩
    simp only [endS, endD, Nat.lt_irrefl, if_false, last_get, Bool.false_and, Bool.false_eq_true, take_len1]
  match is, hl with
  | [], _ =>
    obtain ⟨f1, f2⟩ := fin [some (.scr []), some (.int 2), some (.own (List.length A)), none, none, none] [0] rfl
    refine ⟨[0], by simp, by simp, ?_⟩
    rw [cl [some (.scr []), some (.int 2), none, none, none, none] rfl rfl rfl,
      xn (env' := [some (.scr []), some (.int 2), some (.own (List.length A)), none, none, none]) (c := A ++ [⟨true, .lst [.int 0]⟩]) (by simp [ex, ev, evs, evOr, isFresh, areFresh, R.bind, R.rs, R.opt, partD, view, cutD, cut, sIx, biD, truD, fzs, fz, asg]),
      xn (forC_ok n [] [] A _ rfl _ _ rfl)]
    exact (congrArg _ f1).trans f2
  | [a], _ =>
    obtain ⟨f1, f2⟩ := fin [some (.scr [.int a]), some (.int 2), some (.own (List.length A)), none, none, none] [a] rfl
    refine ⟨[a], by simp, by simp, ?_⟩
    rw [show ([a].map D.int) = [.int a] from rfl, cl [some (.scr [.int a]), some (.int 2), none, none, none, none] rfl rfl rfl,
      xn (env' := [some (.scr [.int a]), some (.int 2), some (.own (List.length A)), none, none, none]) (c := A ++ [⟨true, .lst [.int a]⟩]) (by simp [ex, ev, evs, evOr, isFresh, areFresh, R.bind, R.rs, R.opt, partD, view, cutD, cut, sIx, biD, truD, fzs, fz, asg]),
      xn (forC_ok n [.int a] [] A _ (by simp [cut, sIx]) _ _ rfl)]
    exact (congrArg _ f1).trans f2
  | a :: b :: rest, hl =>
    rw [List.length_cons, List.length_cons] at hl
    obtain ⟨u', w', v3, v4, v5, hr⟩ := cells_loop n (some (.scr ((a :: b :: rest).map D.int))) A rest 0 a b none none none (by omega)
    obtain ⟨f1, f2⟩ := fin [some (.scr ((a :: b :: rest).map D.int)), some (.int 2), some (.own (List.length A)), v3, v4, v5] [u', w'] rfl
    refine ⟨[u', w'], by simp, by simp, ?_⟩
    rw [cl [some (.scr ((a :: b :: rest).map D.int)), some (.int 2), none, none, none, none] rfl rfl rfl,
      xn (env' := [some (.scr ((a :: b :: rest).map D.int)), some (.int 2), some (.own (List.length A)), none, none, none]) (c := A ++ [⟨true, .lst [.int a, .int b]⟩]) (by simp [ex, ev, evs, evOr, isFresh, areFresh, R.bind, R.rs, R.opt, partD, view, cutD, cut, sIx, biD, truD, fzs, fz, asg]),
      xn (forC_ok n ((a :: b :: rest).map D.int) (rest.map D.int) A _ (by
        have h2 : min 2 (rest.length + 1 + 1) = 2 := by omega
        have h3 : min 63 (rest.length + 1 + 1) = rest.length + 2 := by omega
        simp [cut, sIx, h2, h3]
        exact List.take_of_length_le (by simp)) _ _ hr)]
    exact (congrArg _ f1).trans f2
abbrev lawB : List S := [(.set (.nm 3) (.call 25 [(.var 1), (.var 2)])), (.ite (.not (.bi .all [(.comp (.call 37 [(.var 3)]) (.nm 4) [4] .rng [(.cst (.int 5))] [])])) [(.ret (.cst (.bl false)))] [])]
theorem law_turn (n : Nat) (v0 : Option D) (zs : List Int) (hz : zs.length ≤ 2) (k : Nat) (hk : k < zs.length) (v2 v3 : Option D) (A : Cells) : ∃ w3 A', turnS (.nm 2) (fun e c => exs (callN code (n + 11)) lawB e c) (.int k) [v0, some (.lst (zs.map .int)), v2, v3, none] A = .next [v0, some (.lst (zs.map .int)), some (.int k), w3, none] A' := by
  obtain ⟨c, e1, t1⟩ := box_ok (n + 10) zs k A hk hz
  obtain ⟨c2, e2, t2⟩ := laps n (List.length A) [v0, some (.lst (zs.map .int)), some (.int k), some (.own (List.length A)), none] rfl (by simp) (rngs 0 1 5) 0 (A ++ [c]) 0 t1 (by rw [rngs_len]; decide) (by rw [rngs_len]; decide)
  rw [rngs_len, Nat.zero_add] at e2
  have hc : ev (callN code (n + 11)) (.comp (.call 37 [(.var 3)]) (.nm 4) [4] .rng [(.cst (.int 5))] []) [v0, some (.lst (zs.map .int)), some (.int k), some (.own (List.length A)), none] (A ++ [c]) = .ok (.own (List.length (A ++ [c]))) ((A ++ [c]).set (List.length A) c2 ++ [⟨true, .lst (List.replicate 5 (.bl true))⟩]) :=
    comp_frozen (ds := [.int 5]) (xs := rngs 0 1 5) (cs1 := A ++ [c]) (by simp only [evs, ev, R.bind]) rfl rfl rfl e2
  refine ⟨some (.own (List.length A)), (A ++ [c]).set (List.length A) c2 ++ [⟨true, .lst (List.replicate 5 (.bl true))⟩], ?_⟩
  have h0 : turnS (.nm 2) (fun e c => exs (callN code (n + 11)) lawB e c) (.int k) [v0, some (.lst (zs.map .int)), v2, v3, none] A = exs (callN code (n + 11)) lawB [v0, some (.lst (zs.map .int)), some (.int k), v3, none] A := by
    simp [turnS, asg]
  rw [h0, xn (env' := [v0, some (.lst (zs.map .int)), some (.int k), some (.own (List.length A)), none]) (c := A ++ [c]) (by simp only [ex, ev, evs, R.bind, R.rs, List.getElem?_cons_zero, List.getElem?_cons_succ, e1]; rfl)]
  have hv : view ((A ++ [c]).set (List.length A) c2 ++ [⟨true, .lst (List.replicate 5 (.bl true))⟩]) (.own (List.length (A ++ [c]))) = .lst (List.replicate 5 (.bl true)) := by
    have := view_last (cs := (A ++ [c]).set (List.length A) c2) (c := ⟨true, .lst (List.replicate 5 (.bl true))⟩)
    rw [len_set] at this
    exact this
  have ht : tst (callN code (n + 11)) (.not (.bi .all [(.comp (.call 37 [(.var 3)]) (.nm 4) [4] .rng [(.cst (.int 5))] [])])) [v0, some (.lst (zs.map .int)), some (.int k), some (.own (List.length A)), none] (A ++ [c]) = .ok false ((A ++ [c]).set (List.length A) c2 ++ [⟨true, .lst (List.replicate 5 (.bl true))⟩]) := by
    have hb : ev (callN code (n + 11)) (.bi .all [(.comp (.call 37 [(.var 3)]) (.nm 4) [4] .rng [(.cst (.int 5))] [])]) [v0, some (.lst (zs.map .int)), some (.int k), some (.own (List.length A)), none] (A ++ [c]) = .ok (.bl true) ((A ++ [c]).set (List.length A) c2 ++ [⟨true, .lst (List.replicate 5 (.bl true))⟩]) := by
      rw [ev, evs, hc]
      simp only [R.bind, evs, List.map_cons, List.map_nil, hv, biD, all_true, R.opt]
    have hq : tst (callN code (n + 11)) (.bi .all [(.comp (.call 37 [(.var 3)]) (.nm 4) [4] .rng [(.cst (.int 5))] [])]) [v0, some (.lst (zs.map .int)), some (.int k), some (.own (List.length A)), none] (A ++ [c]) = .ok true ((A ++ [c]).set (List.length A) c2 ++ [⟨true, .lst (List.replicate 5 (.bl true))⟩]) := by
      have : ∀ (call : Nat → List D → Cells → R D) (b : PV.Bi) (es : List E) (env : PV.Env) (cs : Cells), tst call (.bi b es) env cs = (ev call (.bi b es) env cs).bind fun x c => R.opt (truD (view c x)) c := fun _ _ _ _ _ => by simp only [tst]
      rw [this, hb]
      rfl
    rw [tst, hq]
    rfl
  rw [xn (env' := [v0, some (.lst (zs.map .int)), some (.int k), some (.own (List.length A)), none]) (c := (A ++ [c]).set (List.length A) c2 ++ [⟨true, .lst (List.replicate 5 (.bl true))⟩]) (by rw [ex, ht]; rfl)]
  rfl
theorem law_loop (n : Nat) (v0 : Option D) (zs : List Int) (hz : zs.length ≤ 2) : ∀ (m k : Nat) (v2 v3 : Option D) (A : Cells), k + m = zs.length → ∃ w2 w3 A', forL (turnS (.nm 2) fun e c => exs (callN code (n + 11)) lawB e c) (rngs k 1 m) [v0, some (.lst (zs.map .int)), v2, v3, none] A = .next [v0, some (.lst (zs.map .int)), w2, w3, none] A'
  | 0, k, v2, v3, A, h => ⟨v2, v3, A, rfl⟩
  | m + 1, k, v2, v3, A, h => by
    obtain ⟨w3, A1, e1⟩ := law_turn n v0 zs hz k (by omega) v2 v3 A
    obtain ⟨u2, u3, A2, e2⟩ := law_loop n v0 zs hz m (k + 1) (some (.int k)) w3 A1 (by omega)
    refine ⟨u2, u3, A2, ?_⟩
    rw [rngs, forL, e1, loopB]
    rw [show (k : Int) + 1 = ((k + 1 : Nat) : Int) by omega]
    exact e2
theorem law_ok (n : Nat) (is : List Int) (hl : is.length ≤ 63) : ∃ c, callN code (n + 12) 38 [.scr (is.map D.int)] [] = .ok (.bl true) c := by
  obtain ⟨zs, z1, z2, e1⟩ := cells_ok (n + 10) is hl []
  obtain ⟨w2, w3, A', e2⟩ := law_loop n (some (.scr (is.map .int))) zs z2 zs.length 0 none none [] (by omega)
  refine ⟨[], ?_⟩
  have hi : itemsOf .rng [.int (zs.length : Int)] = some (rngs 0 1 zs.length) := by
    have : rngOk (zs.length : Int) = true := by unfold rngOk; simp; omega
    simp [itemsOf, this]
  have he : evs (callN code (n + 11)) [(.bi .len [(.var 1)])] [some (.scr (is.map .int)), some (.lst (zs.map .int)), none, none, none] [] = .ok [.int (zs.length : Int)] [] := by
    simp [evs, ev, R.bind, R.opt, view, biD]
  rw [cl [some (.scr (is.map .int)), none, none, none, none] rfl rfl rfl,
    xn (env' := [some (.scr (is.map .int)), some (.lst (zs.map .int)), none, none, none]) (c := []) (by simp only [ex, ev, evs, R.bind, R.rs, List.getElem?_cons_zero, e1]; rfl),
    xn (env' := [some (.scr (is.map .int)), some (.lst (zs.map .int)), w2, w3, none]) (c := A') (by
      rw [ex, he]
      simp only [R.rs]
      unfold walkS
      rw [if_pos (show kOk .rng [D.int (zs.length : Int)] = true from rfl), show [D.int (zs.length : Int)].any isOwn = false from rfl, if_neg Bool.false_ne_true, hi]
      exact e2),
    xr (d := .bl true) (c := A') (by rw [ex, ev]; rfl)]
  simp [endS, endD]
theorem law_true (is : List Int) (h : is.length ≤ 63) : ∃ c, callN code 60 38 [.scr (is.map D.int)] [] = .ok (.bl true) c := law_ok 48 is h
end K04
end

section
set_option Elab.async false
set_option linter.all false
set_option maxRecDepth 100000
set_option maxHeartbeats 0
namespace K04
open PV
end K04
open PySem PySem.W PySem.Calls PyProof.Rows
theorem PySem.Challenge.cw_partedpairs_k04_whole_fractions_by_own_s_holds : PySem.Challenge.rw_partedpairs_k04_whole_fractions_by_own_s.Holds := by
  w_on; o_law
  refine HandSHeadRun.head_any (r := K04.Rw) (q := view K04.Rw.prog [47]) (H := PV.hookP 4 K04.mc K04.ts) (ob := K04.ob) (M := 6000) (loose := K04.loose) (d := HandSHeadRun.topDef K04.Rw.prog 47) (kwd := []) K04.ob_eq
    (by kernel_rfl) (fun s => by kernel_rfl) K04.run (by kernel_rfl) (by kernel_rfl) (by kernel_rfl) (by rfl) (by first | assumption | decide +kernel) (by decide +kernel) ⟨rfl, rfl, rfl, rfl, rfl, by decide +kernel⟩ ?hw ?hc
  case hw => w_witness2
  case hc =>
    refine L2.walk_ofE (l := PySem.Challenge.rw_partedpairs_k04_whole_fractions_by_own_s) (n := 63) (k := 60) (x := "script") (CX := L2.CX0) rfl (by decide) (by kernel_rfl) ⟨rfl, by decide, by decide⟩ ?F (fun _ _ _ _ z => z)
    intro w mg fa h Y M hm
    obtain ⟨K, KX, c⟩ := Y
    have hm' : mg ("law" : PySem.Str) = some (.ref fa) := by
      have e : (HandSHeadRun.topDef K04.Rw.prog 47).name = ("law" : PySem.Str) := by kernel_rfl
      rw [← e]
      exact hm
    obtain ⟨fd, sp, hb, hs, hF⟩ := PV.facts_of (P := (PySem.Challenge.rw_partedpairs_k04_whole_fractions_by_own_s).prog) (w := w) (n := 60) (k := 38) (m := 63) (t := K04.t_law) (x := "script") KX M hm' c K04.names_ok (by decide +kernel) K04.code_ok K04.binds_ok rfl rfl rfl K04.law_true
    exact ⟨K, fd, sp, KX, hb, hs, hF⟩
end
