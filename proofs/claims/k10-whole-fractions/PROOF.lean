import PyProof.Rows.All
import Wide.All
import OpenK.AllK
import Wide.FinOn
import HandS.ForMost
import HandS.ForExc
import HandS.CallSlots
import HandS.TupAny
import HandS.TupMul
import HandS.Wide
import KE.DataEq
import KE.DataCmp
import HandS.Iter
import HandS.Comp
import HandS.Walk
import HandS.Zip
import KE.GoesEnum
import KE.GoesMore
import HandS.Style
import HandS.More
import HandS.RaiseMore
import HandS.TupLen
import HandS.WordsDict
import KE.DataMinMax
import KE.SortData
import PyProof.Rows.RowBridgeK
import HandS.Conv
import HandS.IsInst
import HandS.ExcInit
import KE.KExcLine
import KE.KSuper
import HandS.ExcField
import HandS.TryMany
import PyProof.ReprRoads
import PyProof.CallFns
import HandS.Ends
import HandS.Words
import PySem.Challenge.RW_stallshift_k10_whole_fractions
set_option autoImplicit false
set_option linter.all false
set_option Elab.async false
set_option maxRecDepth 100000
section
/-! EvA: data, an IR of the Python subset, its evaluator (no model here). -/
namespace Ev

/-- a value as data -/
inductive D where
  | non
  | bl (b : Bool)
  | int (i : Int)
  | str (cs : List Nat)
  | tup (xs : List D)
  | lst (xs : List D)
  | dic (ks vs : List D)
  | obj (c : Nat) (ns : List Nat) (vs : List D)
  | fn (f : Nat)
  | ref (i : Nat)
  | scr (xs : List Int)
  deriving Inhabited

abbrev Mem := List D

inductive SV where
  | un
  | val (d : D)
  | own (d : D)
  | ro (d : D)
  | exc (c : Nat) (ns : List Nat) (vs : List D)
  deriving Inhabited

structure Sta where
  sl : List SV
  hp : Mem

structure RV where
  d : D
  fr : Bool

inductive Res (α : Type) where
  | ok (a : α) (s : Sta)
  | exc (c : Nat) (ns : List Nat) (vs : List D) (s : Sta)
  | bad

def Res.bind {α β : Type} (r : Res α) (f : α → Sta → Res β) : Res β :=
  match r with
  | .ok a s => f a s
  | .exc c ns vs s => .exc c ns vs s
  | .bad => .bad

/-- a call's end -/
inductive CRes where
  | ok (d : D) (fr : Bool) (h : Mem)
  | exc (c : Nat) (ns : List Nat) (vs : List D) (h : Mem)
  | bad

inductive Out where
  | next (s : Sta)
  | ret (d : D) (fr : Bool) (s : Sta)
  | exc (c : Nat) (ns : List Nat) (vs : List D) (s : Sta)
  | bad

/-! ### data -/
mutual
/-- nothing but numbers, truth values, None, texts, tuples, lists; at most so deep -/
def D.pl : Nat → D → Bool
  | _, .non => true
  | _, .bl _ => true
  | _, .int _ => true
  | _, .str _ => true
  | n + 1, .tup xs => plL n xs
  | n + 1, .lst xs => plL n xs
  | _, _ => false
def plL : Nat → List D → Bool
  | _, [] => true
  | n, x :: xs => D.pl n x && plL n xs
end
abbrev D.plain (d : D) : Bool := D.pl 60 d
abbrev plainL (xs : List D) : Bool := plL 59 xs

mutual
/-- a == b of plain data -/
def D.eqv : D → D → Bool
  | .non, .non => true
  | .bl a, .bl b => a == b
  | .bl a, .int j => (if a then (1 : Int) else 0) == j
  | .int i, .bl b => i == (if b then (1 : Int) else 0)
  | .int i, .int j => i == j
  | .str a, .str b => a == b
  | .tup a, .tup b => eqvL a b
  | .lst a, .lst b => eqvL a b
  | _, _ => false
def eqvL : List D → List D → Bool
  | [], [] => true
  | x :: xs, y :: ys => D.eqv x y && eqvL xs ys
  | _, _ => false
end

mutual
/-- the two can be ordered -/
def D.alike : D → D → Bool
  | .non, .non => true
  | .bl _, .bl _ => true
  | .int _, .int _ => true
  | .str _, .str _ => true
  | .tup a, .tup b => alikeL a b
  | .lst a, .lst b => alikeL a b
  | _, _ => false
def alikeL : List D → List D → Bool
  | x :: xs, y :: ys => D.alike x y && alikeL xs ys
  | [], _ => true
  | _ :: _, [] => true
end

def ltS : List Nat → List Nat → Bool
  | [], [] => false
  | [], _ :: _ => true
  | _ :: _, [] => false
  | x :: xs, y :: ys => if x = y then ltS xs ys else decide (x < y)

mutual
/-- a < b of alike data -/
def D.ltv : D → D → Bool
  | .bl a, .bl b => !a && b
  | .int i, .int j => decide (i < j)
  | .str a, .str b => ltS a b
  | .tup a, .tup b => ltvL a b
  | .lst a, .lst b => ltvL a b
  | _, _ => false
def ltvL : List D → List D → Bool
  | [], [] => false
  | [], _ :: _ => true
  | _ :: _, [] => false
  | x :: xs, y :: ys => if D.eqv x y then ltvL xs ys else D.ltv x y
end

def allAlike (xs : List D) : Bool := xs.all fun x => xs.all fun y => D.alike x y
def isNon : D → Bool
  | .non => true
  | _ => false
/-- what may be sorted -/
def isNil : D → Bool
  | .tup [] => true
  | _ => false
def sortable (xs : List D) : Bool := allAlike xs && plainL xs && !(xs.any isNon) && !(xs.any isNil)
def sortD (xs : List D) : List D := xs.mergeSort fun a b => !D.ltv b a
def minD : D → List D → D
  | m, [] => m
  | m, x :: xs => minD (if D.ltv x m then x else m) xs
def maxD : D → List D → D
  | m, [] => m
  | m, x :: xs => maxD (if D.ltv m x then x else m) xs

/-- the most that a list, a tuple, a text may hold -/
def lim : Nat := 16777216

/-- an index, from the end if negative -/
def ixOf (n : Nat) (i : Int) : Option Nat :=
  if 0 ≤ i then (if i < n then some i.toNat else none)
  else if 0 ≤ i + n then some (i + n).toNat else none
/-- a slice's bound -/
def bnd (n : Nat) (i : Int) : Nat := if i < 0 then (i + n).toNat else min i.toNat n
def cutL {α : Type} (xs : List α) (lo hi : Option Int) : List α :=
  let a := match lo with | none => 0 | some i => bnd xs.length i
  let b := match hi with | none => xs.length | some i => bnd xs.length i
  (xs.drop a).take (b - a)

/-- what stands where a value points to -/
def deref (h : Mem) : D → D
  | .ref i => (h[i]?).getD .non
  | d => d

/-! a dict's keys: what is carried by value, or tuples of such; no truth values -/
mutual
def D.kd : Nat → D → Bool
  | _, .non => true
  | _, .int _ => true
  | _, .str _ => true
  | n + 1, .tup xs => kdL n xs
  | _, _ => false
def kdL : Nat → List D → Bool
  | _, [] => true
  | n, x :: xs => D.kd n x && kdL n xs
end
def D.keyed (d : D) : Bool := match d with
  | .int _ => true
  | .str _ => true
  | _ => false
def keyedL (xs : List D) : Bool := xs.all D.keyed
def dfind (ks vs : List D) (k : D) : Option D :=
  match ks, vs with
  | x :: ks, v :: vs => if D.eqv x k then some v else dfind ks vs k
  | _, _ => none
def drep (ks vs : List D) (k v : D) : List D :=
  match ks, vs with
  | x :: ks, w :: vs => (if D.eqv x k then v else w) :: drep ks vs k v
  | _, _ => []
def dput (ks vs : List D) (k v : D) : List D × List D :=
  if (dfind ks vs k).isSome then (ks, drep ks vs k v) else (ks ++ [k], vs ++ [v])

def fget (ns : List Nat) (vs : List D) (f : Nat) : Option D :=
  match ns, vs with
  | n :: ns, v :: vs => if n = f then some v else fget ns vs f
  | _, _ => none
def fput (ns : List Nat) (vs : List D) (f : Nat) (v : D) : List Nat × List D :=
  match ns, vs with
  | n :: ns', w :: vs' => if n = f then (n :: ns', v :: vs') else let r := fput ns' vs' f v; (n :: r.1, w :: r.2)
  | _, _ => ([f], [v])

/-! ### the IR -/
inductive BOp where | add | sub | mul | fdiv | mod | pow
  deriving DecidableEq
inductive COp where | eq | ne | lt | le | gt | ge | isin | notin | isn | isnt
  deriving DecidableEq
/-- kinds that isinstance asks -/
inductive Kd where | int | bool | str | list | tuple | dict | cls (c : Nat) | bexc (c : Nat)
  deriving DecidableEq
/-- built-in functions and methods that change nothing -/
inductive Bf where
  | len | tuple | list | sorted | sum | sumL | min | max | min2 | max2 | abs | all | any | dict | int | str | repr
  | lenset | sortset | listvalues | listitems | join | split | lower | upper | index | count | get
  deriving DecidableEq

mutual
inductive E where
  | nm (i : Nat)
  | cst (d : D)
  | glob (g : Nat)
  | bin (op : BOp) (a b : E)
  | neg (a : E)
  | not (a : E)
  | and (a b : E)
  | or (a b : E)
  | ife (c a b : E)
  | cmp (op : COp) (a b : E)
  | cmp2 (op op' : COp) (a b c : E)
  | tup (es : List E)
  | lst (r : Bool) (es : List E)
  | dic (r : Bool) (ks vs : List E)
  | call (f : Nat) (es : List E)
  | callv (i : Nat) (es : List E)
  | meth (c f : Nat) (o : E) (es : List E)
  | make (r : Bool) (c : Nat) (es : List E)
  | blt (b : Bf) (es : List E)
  | fld (o : E) (f : Nat)
  | sub (a i : E)
  | slc (a : E) (lo hi : Option E)
  | rev (a : E)
  | lc (r : Bool) (elt : E) (t : Tg) (it : It) (c : Option E)
  | isi (a : E) (ks : List Kd)
  | fstr (es : List E)
  | popR (o : E)
  | lrg1 (a : E)
  | lrg2 (a b : E)
  | dpopR (o k x : E)
inductive Tg where
  | nm (i : Nat)
  | tup (ts : List Tg)
inductive It where
  | of (e : E)
  | enum (it : It)
  | zip (a b : It)
  | range1 (a : E)
  | range2 (a b : E)
  | items (e : E)
  | vals (e : E)
end

inductive S where
  | asg (t : Tg) (e : E)
  /-- names = expressions, one by one -/
  | asgP (is : List Nat) (es : List E)
  | setF (o : E) (f : Nat) (e : E)
  | setFs (o : E) (fs : List Nat) (e : E)
  | setI (o i e : E)
  | augN (op : BOp) (i : Nat) (e : E)
  | augF (op : BOp) (o : E) (f : Nat) (e : E)
  | augI (op : BOp) (o i e : E)
  | app (o e : E)
  | ext (o e : E)
  | ins (o i e : E)
  | upd (o e : E)
  | expr (e : E)
  | iff (c : E) (a b : List S)
  | wh (c : E) (b : List S)
  | for_ (t : Tg) (it : It) (b : List S)
  | ret (e : Option E)
  | raise (c : Nat) (es : List E)
  | reraise
  | try_ (b : List S) (hs : List (Nat × Option Nat)) (bs : List (List S))
  | pass
  | kill (is : List Nat)

structure Fn where
  np : Nat
  ns : Nat
  body : List S

structure Prog where
  fns : List Fn
  /-- for a class: its __init__ -/
  inits : List Nat
  /-- .. its fields -/
  flds : List (List Nat)
  globs : List D
  /-- exception classes: the fields by the arguments; the classes that it is (itself, and above) -/
  excs : List (List Nat × List Nat)
  /-- repr of data -/
  rp : D → Option (List Nat)

/-! ### operators -/
def binop : BOp → D → D → Option RV
  | .add, .int i, .int j => some ⟨.int (i + j), false⟩
  | .add, .str a, .str b => if a.length + b.length ≤ lim then some ⟨.str (a ++ b), false⟩ else none
  | .add, .tup a, .tup b => if a.length + b.length ≤ lim then some ⟨.tup (a ++ b), false⟩ else none
  | .add, .lst a, .lst b => if a.length + b.length ≤ lim then some ⟨.lst (a ++ b), true⟩ else none
  | .sub, .int i, .int j => some ⟨.int (i - j), false⟩
  | .mul, .int i, .int j => if i.natAbs < 18446744073709551616 ∨ j.natAbs < 18446744073709551616 then some ⟨.int (i * j), false⟩ else none
  | .mul, .tup a, .int n => if 2 ≤ n ∧ n ≤ 1000 ∧ 0 < a.length ∧ a.length ≤ 1000 then some ⟨.tup (List.replicate n.toNat a).flatten, false⟩ else none
  | .mul, .lst a, .int n => if 0 ≤ n ∧ n ≤ 1000 ∧ a.length ≤ 1000 then some ⟨.lst (List.replicate n.toNat a).flatten, true⟩ else none
  | .fdiv, .int i, .int j => if 0 < j ∧ j < 1073741824 then some ⟨.int (i / j), false⟩ else none
  | .mod, .int i, .int j => if 0 < j then some ⟨.int (i % j), false⟩ else none
  | .pow, .int i, .int j => if 0 ≤ j ∧ j ≤ 1000 ∧ i.natAbs < 18446744073709551616 then some ⟨.int (i ^ j.toNat), false⟩ else none
  | _, _, _ => none

def isinD (a : D) : D → Option Bool
  | .lst xs => if D.plain a && plainL xs then some (xs.any fun x => D.eqv x a) else none
  | .tup xs => if D.plain a && plainL xs then some (xs.any fun x => D.eqv x a) else none
  | .dic ks vs => if D.keyed a then some (dfind ks vs a).isSome else none
  | .str cs => match a with
    | .str [c] => some (cs.contains c)
    | _ => none
  | _ => none

def cmpop : COp → D → D → Option Bool
  | .eq, a, b => if D.plain a && D.plain b then some (D.eqv a b) else none
  | .ne, a, b => if D.plain a && D.plain b then some (!D.eqv a b) else none
  | .lt, a, b => if D.alike a b && D.plain a && D.plain b && !isNon a && !isNon b then some (D.ltv a b) else none
  | .gt, a, b => if D.alike a b && D.plain a && D.plain b && !isNon a && !isNon b then some (D.ltv b a) else none
  | .le, a, b => if D.alike a b && D.plain a && D.plain b && !isNon a && !isNon b then some (!D.ltv b a) else none
  | .ge, a, b => if D.alike a b && D.plain a && D.plain b && !isNon a && !isNon b then some (!D.ltv a b) else none
  | .isin, a, b => isinD a b
  | .notin, a, b => (isinD a b).map (!·)
  | .isn, a, .non => some (isNon a)
  | .isnt, a, .non => some (!isNon a)
  | .isn, _, _ => none
  | .isnt, _, _ => none

def isKd (d : D) : Kd → Bool
  | .int => match d with | .int _ => true | .bl _ => true | _ => false
  | .bool => match d with | .bl _ => true | _ => false
  | .str => match d with | .str _ => true | _ => false
  | .list => match d with | .lst _ => true | _ => false
  | .tuple => match d with | .tup _ => true | _ => false
  | .dict => match d with | .dic _ _ => true | _ => false
  | .cls c => match d with | .obj c' _ _ => c' == c | _ => false
  | .bexc _ => false

/-! ### built-in functions -/
def chars (cs : List Nat) : List D := cs.map fun c => .str [c]
def items? : D → Option (List D)
  | .lst xs => some xs
  | .tup xs => some xs
  | .str cs => some (chars cs)
  | .dic ks _ => some ks
  | _ => none
def seq? : D → Option (List D)
  | .lst xs => some xs
  | .tup xs => some xs
  | .str cs => some (chars cs)
  | _ => none
/-- a list, a tuple -/
def seqs? : D → Option (List D)
  | .lst xs => some xs
  | .tup xs => some xs
  | _ => none
def ints? : List D → Option (List Int)
  | [] => some []
  | .int i :: xs => (ints? xs).map (i :: ·)
  | _ :: _ => none
def bls? : List D → Option (List Bool)
  | [] => some []
  | .bl i :: xs => (bls? xs).map (i :: ·)
  | _ :: _ => none
def strs? : List D → Option (List (List Nat))
  | [] => some []
  | .str i :: xs => (strs? xs).map (i :: ·)
  | _ :: _ => none
def digits (n : Nat) : List Nat := (Nat.toDigits 10 n).map Char.toNat
def decimal (i : Int) : List Nat := if i < 0 then 45 :: digits i.natAbs else digits i.natAbs
def rangeD (a b : Int) : List D := (List.range (b - a).toNat).map fun (k : Nat) => D.int (a + (k : Int))
def small (i : Int) : Bool := decide (-1073741824 < i ∧ i < 1073741824)
def smaller (a b : Int) : Bool := decide (-1073741824 < a ∧ a < 1073741824 ∧ -1073741824 < b ∧ b < 1073741824 ∧ b - a ≤ 16777216)
def pv (d : D) : Option RV := some ⟨d, false⟩
def nv (d : D) : Option RV := some ⟨d, true⟩
def pairs? : List D → Option (List D × List D)
  | [] => some ([], [])
  | .tup [k, v] :: r => (pairs? r).map fun p => (k :: p.1, v :: p.2)
  | _ :: _ => none
def dputs (d : List D × List D) : List D → List D → List D × List D
  | k :: ks, v :: vs => dputs (dput d.1 d.2 k v) ks vs
  | _, _ => d
def firsts (xs : List D) : List D → List D
  | [] => xs
  | y :: ys => if xs.any (fun x => D.eqv x y) then firsts xs ys else firsts (xs ++ [y]) ys
def joinS (sep : List Nat) : List (List Nat) → List Nat
  | [] => []
  | [x] => x
  | x :: y :: r => x ++ sep ++ joinS sep (y :: r)
def splitS (c : Nat) : List Nat → List (List Nat)
  | [] => [[]]
  | x :: xs => if x = c then [] :: splitS c xs else match splitS c xs with
    | [] => [[x]]
    | y :: ys => (x :: y) :: ys
def lenD : D → Option Nat
  | .lst xs => some xs.length
  | .tup xs => some xs.length
  | .str cs => some cs.length
  | .dic ks _ => some ks.length
  | .scr xs => some xs.length
  | _ => none
def uniqable (xs : List D) : Bool := keyedL xs

def runB (rp : D → Option (List Nat)) (b : Bf) (ds : List D) : Option RV :=
  match b, ds with
  | .len, [d] => (lenD d).map fun n => ⟨.int n, false⟩
  | .tuple, [d] => (seqs? d).map fun xs => ⟨.tup xs, false⟩
  | .list, [d] => (seqs? d).map fun xs => ⟨.lst xs, true⟩
  | .sorted, [.lst xs] => if sortable xs && decide (xs.length ≤ lim) then nv (.lst (sortD xs)) else none
  | .sum, [.lst xs] => (ints? xs).map fun is => ⟨.int is.sum, false⟩
  | .min, [d] => (seqs? d).bind fun xs => match xs with
    | x :: r => if sortable xs then pv (minD x r) else none
    | [] => none
  | .max, [d] => (seqs? d).bind fun xs => match xs with
    | x :: r => if sortable xs then pv (maxD x r) else none
    | [] => none
  | .min2, [.int i, .int j] => pv (.int (if j < i then j else i))
  | .max2, [.int i, .int j] => pv (.int (if j > i then j else i))
  | .abs, [.int i] => pv (.int (if i < 0 then -i else i))
  | .all, [.lst xs] => (bls? xs).map fun bs => ⟨.bl (bs.all id), false⟩
  | .any, [.lst xs] => (bls? xs).map fun bs => ⟨.bl (bs.any id), false⟩
  | .int, [.int i] => pv (.int i)
  | .int, [.bl b] => pv (.int (if b then 1 else 0))
  | .str, [.int i] => if i.natAbs < 10000000000 then pv (.str (decimal i)) else none
  | .str, [.str cs] => pv (.str cs)
  | .repr, [d] => if D.plain d then (rp d).map fun cs => ⟨.str cs, false⟩ else none
  | .index, [.lst xs, x] => if plainL xs && D.plain x then (xs.findIdx? fun y => D.eqv y x).map fun k => ⟨.int k, false⟩ else none
  | .index, [.tup xs, x] => if plainL xs && D.plain x then (xs.findIdx? fun y => D.eqv y x).map fun k => ⟨.int k, false⟩ else none
  | .index, [.str cs, .str [c]] => (cs.findIdx? (· == c)).map fun k => ⟨.int k, false⟩
  | .join, [.str sep, .lst xs] => (strs? xs).bind fun ss => if (joinS sep ss).length ≤ lim then pv (.str (joinS sep ss)) else none
  | .dict, [.lst xs] => (pairs? xs).bind fun p => if keyedL p.1 then nv (let r := dputs ([], []) p.1 p.2; .dic r.1 r.2) else none
  | .dict, [.dic ks vs] => nv (.dic ks vs)
  | .listvalues, [.dic _ vs] => nv (.lst vs)
  | .lenset, [d] => (items? d).bind fun xs => if uniqable xs then pv (.int (firsts [] xs).length) else none
  | .sortset, [d] => (items? d).bind fun xs => if uniqable xs && sortable xs then nv (.lst (sortD (firsts [] xs))) else none
  | _, _ => none

/-! ### slots -/
def look (sl : List SV) (i : Nat) : SV := (sl[i]?).getD .un
def put (sl : List SV) (i : Nat) (v : SV) : List SV := sl.set i v
def svOf (v : RV) : SV := if v.fr then .own v.d else .val v.d
def hide : SV → SV
  | .own d => .ro d
  | .exc _ _ _ => .un
  | v => v
def nmE (esc : Bool) (i : Nat) (s : Sta) : Res RV :=
  match look s.sl i with
  | .val d => .ok ⟨d, false⟩ s
  | .own d => if esc then .ok ⟨d, false⟩ { s with sl := put s.sl i (.val d) } else .ok ⟨d, false⟩ s
  | .ro d => if esc then .bad else .ok ⟨d, false⟩ s
  | _ => .bad

mutual
def asgT : Tg → D → List SV → Option (List SV)
  | .nm i, d, sl => some (put sl i (.val d))
  | .tup ts, .tup ds, sl => asgTs ts ds sl
  | .tup _, _, _ => none
def asgTs : List Tg → List D → List SV → Option (List SV)
  | [], [], sl => some sl
  | t :: ts, d :: ds, sl => (asgT t d sl).bind fun sl => asgTs ts ds sl
  | _, _, _ => none
end
mutual
def slotsT : Tg → List Nat
  | .nm i => [i]
  | .tup ts => slotsTs ts
def slotsTs : List Tg → List Nat
  | [] => []
  | t :: ts => slotsT t ++ slotsTs ts
end
def wipeS (sl : List SV) : List Nat → List SV
  | [] => sl
  | i :: is => wipeS (put sl i .un) is

def ofO {α : Type} (o : Option α) (s : Sta) : Res α := match o with | some a => .ok a s | none => .bad
def newV (r : Bool) (d : D) (s : Sta) : Res RV := if r then .ok ⟨.ref s.hp.length, false⟩ { s with hp := s.hp ++ [d] } else .ok ⟨d, true⟩ s
def hasF (P : Prog) (c f : Nat) : Bool := ((P.flds[c]?).getD []).contains f
def ofC (c : CRes) (s : Sta) : Res RV := match c with
  | .ok d fr h => .ok ⟨d, fr⟩ { s with hp := h }
  | .exc c ns vs h => .exc c ns vs { s with hp := h }
  | .bad => .bad
def asVal (c : CRes) : CRes := match c with
  | .ok d _ h => .ok d false h
  | .exc c ns vs h => .exc c ns vs h
  | .bad => .bad
def truth (v : RV) (s : Sta) : Res Bool := match v.d with | .bl b => .ok b s | _ => .bad

def kdOk (P : Prog) : D → Bool
  | .fn _ => false
  | .ref _ => false
  | .scr _ => false
  | .obj c _ _ => decide (c < P.flds.length)
  | _ => true
def isiD (P : Prog) (d : D) (ks : List Kd) : Option Bool := if kdOk P d then some (ks.any (isKd d)) else none
def fldD (P : Prog) (f : Nat) (x : RV) (s : Sta) : Res RV := match deref s.hp x.d with
  | .obj c ns vs => if hasF P c f then ofO ((fget ns vs f).map fun d => ⟨d, false⟩) s else .bad
  | _ => .bad
/-- a comprehension's turns -/
def lcL (f : D → Mem → Res (Option D)) : List D → Mem → Option (List D × Mem)
  | [], h => some ([], h)
  | x :: xs, h => match f x h with
    | .ok o s => match lcL f xs s.hp with
      | some (r, h') => some (match o with | some d => d :: r | none => r, h')
      | none => none
    | _ => none

/-- while -/
inductive Stp (α β : Type) where
  | again (a : α)
  | stop (b : β)
def iter {α β : Type} (f : α → Stp α β) : Nat → α → Option β
  | 0, _ => none
  | n + 1, a => match f a with
    | .again a' => iter f n a'
    | .stop b => some b
open Classical in
noncomputable def loop {α β : Type} (f : α → Stp α β) (dflt : β) (a : α) : β :=
  if h : ∃ n b, iter f n a = some b then Classical.choose (Classical.choose_spec h) else dflt
theorem iter_mono {α β : Type} {f : α → Stp α β} : ∀ {n m : Nat} {a : α} {b : β}, iter f n a = some b → n ≤ m → iter f m a = some b
  | 0, _, _, _, h, _ => nomatch h
  | n + 1, 0, _, _, _, hm => absurd hm (Nat.not_succ_le_zero _)
  | n + 1, m + 1, a, b, h, hm => by
    simp only [iter] at h ⊢
    cases e : f a with
    | again a' => rw [e] at h; exact iter_mono (n := n) (m := m) h (Nat.le_of_succ_le_succ hm)
    | stop b' => rw [e] at h; exact h
theorem iter_unique {α β : Type} {f : α → Stp α β} {n m : Nat} {a : α} {b c : β} (h : iter f n a = some b) (h' : iter f m a = some c) : b = c := by
  have h1 := iter_mono h (Nat.le_max_left n m)
  have h2 := iter_mono h' (Nat.le_max_right n m)
  rw [h1] at h2
  exact Option.some.inj h2
theorem loop_iter {α β : Type} {f : α → Stp α β} {dflt : β} {n : Nat} {a : α} {b : β} (h : iter f n a = some b) : loop f dflt a = b := by
  have hx : ∃ n b, iter f n a = some b := ⟨n, b, h⟩
  unfold loop
  rw [dif_pos hx]
  exact iter_unique (Classical.choose_spec (Classical.choose_spec hx)) h
theorem loop_stop {α β : Type} {f : α → Stp α β} {dflt : β} {a : α} {b : β} (h : f a = .stop b) : loop f dflt a = b :=
  loop_iter (n := 1) (by simp [iter, h])
theorem loop_again {α β : Type} {f : α → Stp α β} {dflt : β} {a a' : α} (h : f a = .again a') : loop f dflt a = loop f dflt a' := by
  by_cases hx : ∃ n b, iter f n a' = some b
  · obtain ⟨n, b, e⟩ := hx
    rw [loop_iter e, loop_iter (n := n + 1) (b := b) (by simp only [iter, h]; exact e)]
  · have hy : ¬ ∃ n b, iter f n a = some b := fun ⟨n, b, e⟩ => by
      cases n with
      | zero => exact nomatch e
      | succ n =>
        simp only [iter, h] at e
        exact hx ⟨n, b, e⟩
    unfold loop
    rw [dif_neg hx, dif_neg hy]
theorem loop_some {α β : Type} {f : α → Stp α β} {dflt : β} {a : α} (h : loop f dflt a ≠ dflt) : ∃ n, iter f n a = some (loop f dflt a) := by
  by_cases hx : ∃ n b, iter f n a = some b
  · obtain ⟨n, b, e⟩ := hx
    exact ⟨n, by rw [loop_iter e]; exact e⟩
  · exact absurd (by unfold loop; rw [dif_neg hx]) h

/-! ### the evaluator -/
section
variable (P : Prog) (call : Nat → List D → Mem → CRes) (mk : Nat → List D → Mem → CRes)

mutual
def evalE (esc : Bool) : E → Sta → Res RV
  | .nm i, s => nmE esc i s
  | .cst d, s => .ok ⟨d, false⟩ s
  | .glob g, s => match P.globs[g]? with
    | some d => .ok ⟨d, false⟩ s
    | none => .bad
  | .bin op a b, s => (evalE false a s).bind fun x s => (evalE false b s).bind fun y s => ofO (binop op (deref s.hp x.d) (deref s.hp y.d)) s
  | .neg a, s => (evalE false a s).bind fun x s => match x.d with
    | .int i => .ok ⟨.int (-i), false⟩ s
    | _ => .bad
  | .not a, s => (evalE false a s).bind fun x s => (truth x s).bind fun b s => .ok ⟨.bl (!b), false⟩ s
  | .and a b, s => (evalE false a s).bind fun x s => (truth x s).bind fun k s => if k then (evalE false b s).bind fun y s => (truth y s).bind fun k s => .ok ⟨.bl k, false⟩ s else .ok ⟨.bl false, false⟩ s
  | .or a b, s => (evalE false a s).bind fun x s => (truth x s).bind fun k s => if k then .ok ⟨.bl true, false⟩ s else (evalE false b s).bind fun y s => (truth y s).bind fun k s => .ok ⟨.bl k, false⟩ s
  | .ife c a b, s => (evalE false c s).bind fun x s => (truth x s).bind fun k s => if k then evalE esc a s else evalE esc b s
  | .cmp op a b, s => (evalE false a s).bind fun x s => (evalE false b s).bind fun y s => (ofO (cmpop op (deref s.hp x.d) (deref s.hp y.d)) s).bind fun k s => .ok ⟨.bl k, false⟩ s
  | .cmp2 op op' a b c, s => (evalE false a s).bind fun x s => (evalE false b s).bind fun y s => (ofO (cmpop op x.d y.d) s).bind fun k s =>
      if k then (evalE false c s).bind fun z s => (ofO (cmpop op' y.d z.d) s).bind fun k s => .ok ⟨.bl k, false⟩ s else .ok ⟨.bl false, false⟩ s
  | .tup es, s => (evalEs es s).bind fun ds s => .ok ⟨.tup ds, false⟩ s
  | .lst r es, s => (evalEs es s).bind fun ds s => newV r (.lst ds) s
  | .dic r ks vs, s => (evalEs ks s).bind fun kd s => (evalEs vs s).bind fun vd s =>
      if keyedL kd && kd.length == vd.length && decide (kd.length ≤ 1) then newV r (.dic kd vd) s else .bad
  | .call f es, s => (evalEs es s).bind fun ds s => ofC (call f ds s.hp) s
  | .callv i es, s => match look s.sl i with
    | .val (.fn f) => (evalEs es s).bind fun ds s => ofC (call f ds s.hp) s
    | _ => .bad
  | .meth c f o es, s => (evalE true o s).bind fun x s => match deref s.hp x.d with
    | .obj c' _ _ => if c' = c then (evalEs es s).bind fun ds s => ofC (call f (x.d :: ds) s.hp) s else .bad
    | _ => .bad
  | .make r c es, s => (evalEs es s).bind fun ds s =>
      if r then match P.inits[c]? with
        | some f => match call f (.ref s.hp.length :: ds) (s.hp ++ [.obj c [] []]) with
          | .ok .non _ h => .ok ⟨.ref s.hp.length, false⟩ { s with hp := h }
          | .exc c ns vs h => .exc c ns vs { s with hp := h }
          | _ => .bad
        | none => .bad
      else ofC (asVal (mk c ds s.hp)) s
  | .blt b es, s => (evalBs es s).bind fun ds s => ofO (runB P.rp b (ds.map (deref s.hp))) s
  | .fld o f, s => match o with
    | .nm i => match look s.sl i with
      | .exc c ns vs => if c < P.excs.length then ofO ((fget ns vs f).map fun d => ⟨d, false⟩) s else .bad
      | _ => (nmE false i s).bind (fldD P f)
    | o => (evalE false o s).bind (fldD P f)
  | .sub a i, s => (evalE false a s).bind fun x s => (evalE false i s).bind fun y s => match deref s.hp x.d, y.d with
    | .lst xs, .int i => ofO (((ixOf xs.length i).bind fun k => xs[k]?).map fun d => ⟨d, false⟩) s
    | .tup xs, .int i => ofO (((ixOf xs.length i).bind fun k => xs[k]?).map fun d => ⟨d, false⟩) s
    | .str cs, .int i => ofO (((ixOf cs.length i).bind fun k => cs[k]?).map fun c => ⟨.str [c], false⟩) s
    | .scr xs, .int i => ofO (((ixOf xs.length i).bind fun k => xs[k]?).map fun n => ⟨.int n, false⟩) s
    | .dic ks vs, k => if D.keyed k then ofO ((dfind ks vs k).map fun d => ⟨d, false⟩) s else .bad
    | _, _ => .bad
  | .slc a lo hi, s => (evalE false a s).bind fun x s => (evalO lo s).bind fun l s => (evalO hi s).bind fun u s => match deref s.hp x.d with
    | .lst xs => .ok ⟨.lst (cutL xs l u), true⟩ s
    | .tup xs => .ok ⟨.tup (cutL xs l u), false⟩ s
    | .str cs => .ok ⟨.str (cutL cs l u), false⟩ s
    | _ => .bad
  | .rev a, s => (evalE false a s).bind fun x s => match deref s.hp x.d with
    | .lst xs => .ok ⟨.lst xs.reverse, true⟩ s
    | _ => .bad
  | .lrg1 a, s => (evalE false a s).bind fun x s => match x.d with
    | .int n => if smaller 0 n then .ok ⟨.lst (rangeD 0 n), true⟩ s else .bad
    | _ => .bad
  | .lrg2 a b, s => (evalE false a s).bind fun x s => (evalE false b s).bind fun y s => match x.d, y.d with
    | .int m, .int n => if smaller m n then .ok ⟨.lst (rangeD m n), true⟩ s else .bad
    | _, _ => .bad
  | .lc r elt t it c, s => (evalI false it s).bind fun xs s =>
      match lcL (fun x h => match asgT t x (wipeS (s.sl.map hide) (slotsT t)) with
          | some sl => (evalC c ⟨sl, h⟩).bind fun k s => if k then (evalE true elt s).bind fun y s => .ok (some y.d) s else .ok none s
          | none => .bad) xs s.hp with
      | some (ds, h) => if ds.length ≤ lim then newV r (.lst ds) ⟨s.sl, h⟩ else .bad
      | none => .bad
  | .isi a ks, s => match a with
    | .nm i => match look s.sl i with
      | .exc c _ _ => .ok ⟨.bl (ks.any fun k => match k with
          | .bexc c' => ((P.excs[c]?).map fun e => e.2.contains c').getD false
          | _ => false), false⟩ s
      | _ => (nmE false i s).bind fun x s => (ofO (isiD P (deref s.hp x.d) ks) s).bind fun k s => .ok ⟨.bl k, false⟩ s
    | a => (evalE false a s).bind fun x s => (ofO (isiD P (deref s.hp x.d) ks) s).bind fun k s => .ok ⟨.bl k, false⟩ s
  | .fstr es, s => (evalBs es s).bind fun ds s => ofO ((strs? (ds.map fun d => match d with | .int i => .str (decimal i) | d => d)).bind fun ss =>
      if ss.flatten.length ≤ lim && ds.all (fun d => match d with | .int i => decide (i.natAbs < 10000000000) | _ => true) then some ⟨.str ss.flatten, false⟩ else none) s
  | .popR o, s => (evalE false o s).bind fun x s => match x.d with
    | .ref i => match (s.hp[i]?).getD .non with
      | .lst xs => match xs.getLast? with
        | some d => .ok ⟨d, false⟩ { s with hp := s.hp.set i (.lst xs.dropLast) }
        | none => .bad
      | _ => .bad
    | _ => .bad
  | .dpopR _ _ _, _ => .bad
def evalEs : List E → Sta → Res (List D)
  | [], s => .ok [] s
  | e :: es, s => (evalE true e s).bind fun x s => (evalEs es s).bind fun xs s => .ok (x.d :: xs) s
def evalBs : List E → Sta → Res (List D)
  | [], s => .ok [] s
  | e :: es, s => (evalE false e s).bind fun x s => (evalBs es s).bind fun xs s => .ok (x.d :: xs) s
def evalO : Option E → Sta → Res (Option Int)
  | none, s => .ok none s
  | some e, s => (evalE false e s).bind fun x s => match x.d with
    | .int i => .ok (some i) s
    | _ => .bad
def evalC : Option E → Sta → Res Bool
  | none, s => .ok true s
  | some e, s => (evalE false e s).bind fun x s => truth x s
def evalI (esc : Bool) : It → Sta → Res (List D)
  | .of e, s => (evalE esc e s).bind fun x s => ofO (seq? x.d) s
  | .enum it, s => (evalI esc it s).bind fun xs s => .ok (xs.zipIdx.map fun p => .tup [.int p.2, p.1]) s
  | .zip a b, s => (evalI esc a s).bind fun xs s => (evalI esc b s).bind fun ys s => .ok ((xs.zip ys).map fun p => .tup [p.1, p.2]) s
  | .range1 a, s => (evalE false a s).bind fun x s => match x.d with
    | .int n => if small n then .ok (rangeD 0 n) s else .bad
    | _ => .bad
  | .range2 a b, s => (evalE false a s).bind fun x s => (evalE false b s).bind fun y s => match x.d, y.d with
    | .int m, .int n => if small m && small n then .ok (rangeD m n) s else .bad
    | _, _ => .bad
  | .items e, s => (evalE esc e s).bind fun x s => match x.d with
    | .dic ks vs => .ok ((ks.zip vs).map fun p => .tup [p.1, p.2]) s
    | _ => .bad
  | .vals e, s => (evalE esc e s).bind fun x s => match x.d with
    | .dic _ vs => .ok vs s
    | _ => .bad
end
end

def setFD (P : Prog) (x : D) (f : Nat) (v : D) : Option D := match x with
  | .obj c ns ws => if hasF P c f && decide (ns.length < 900) then some (.obj c (fput ns ws f v).1 (fput ns ws f v).2) else none
  | _ => none
def setFsD (P : Prog) (x : D) : List Nat → List D → Option D
  | [], [] => some x
  | f :: fs, v :: vs => (setFD P x f v).bind fun x => setFsD P x fs vs
  | _, _ => none
/-- x[i] = v -/
def putI (x i v : D) : Option D :=
  match x, i with
  | .lst xs, .int k => (ixOf xs.length k).map fun n => .lst (xs.set n v)
  | .dic ks vs, k => if D.keyed k ∧ ks.length < 1000000 then let r := dput ks vs k v; some (.dic r.1 r.2) else none
  | _, _ => none
def appD (x v : D) : Option D := match x with
  | .lst xs => if xs.length < lim then some (.lst (xs ++ [v])) else none
  | _ => none
def extD (x v : D) : Option D := match x with
  | .lst xs => match v with
    | .lst ys => if xs.length + ys.length ≤ lim then some (.lst (xs ++ ys)) else none
    | _ => none
  | _ => none
/-- ints alone -/
def aug2 (op : BOp) (x y : D) : Option D := match op, x, y with
  | .add, .int i, .int j => some (.int (i + j))
  | .sub, .int i, .int j => some (.int (i - j))
  | _, _, _ => none
def isL : D → Bool
  | .lst _ => true
  | _ => false
def putP : List Nat → List RV → List SV → List SV
  | i :: is, r :: rs, sl => putP is rs (put sl i (svOf r))
  | _, _, sl => sl
def insD (x i v : D) : Option D := match x, i with
  | .lst xs, .int k => if 0 ≤ k ∧ k ≤ xs.length ∧ xs.length < lim then some (.lst (xs.take k.toNat ++ v :: xs.drop k.toNat)) else none
  | _, _ => none
def updD (x v : D) : Option D := match x, v with
  | .dic ks vs, .dic ks' vs' => if ks.length + ks'.length < 1000000 then let r := dputs (ks, vs) ks' vs'; some (.dic r.1 r.2) else none
  | _, _ => none
/-- an object changed: an own one at a slot, or a shared one -/
def chg (o : E) (x : RV) (s : Sta) (f : D → Option D) : Out :=
  match x.d with
  | .ref i => match (f ((s.hp[i]?).getD .non)) with
    | some d => .next { s with hp := s.hp.set i d }
    | none => .bad
  | _ => match o with
    | .nm i => match look s.sl i with
      | .own d => match f d with
        | some d' => .next { s with sl := put s.sl i (.own d') }
        | none => .bad
      | _ => .bad
    | _ => .bad
def Res.out {α : Type} (r : Res α) (f : α → Sta → Out) : Out := match r with
  | .ok a s => f a s
  | .exc c ns vs s => .exc c ns vs s
  | .bad => .bad
def killS (sl : List SV) : List Nat → List SV
  | [] => sl
  | i :: is => killS (put sl i .un) is

def forL (t : Tg) (body : Sta → Out) : List D → Sta → Out
  | [], s => .next s
  | x :: xs, s => match asgT t x s.sl with
    | some sl => match body ⟨sl, s.hp⟩ with
      | .next s' => forL t body xs s'
      | o => o
    | none => .bad
def whS (c : Sta → Res RV) (body : Sta → Out) (s : Sta) : Stp Sta Out :=
  match (c s).bind truth with
  | .ok true s => match body s with
    | .next s => .again s
    | o => .stop o
  | .ok false s => .stop (.next s)
  | .exc c ns vs s => .stop (.exc c ns vs s)
  | .bad => .stop .bad

section
variable (P : Prog) (call : Nat → List D → Mem → CRes) (mk : Nat → List D → Mem → CRes)
def evalPs : List E → Sta → Res (List RV)
  | [], s => .ok [] s
  | e :: es, s => (evalE P call mk true e s).bind fun x s => (evalPs es s).bind fun xs s => .ok (x :: xs) s
end
/-- is the exception of class c one of class h? -/
def isX (P : Prog) (c h : Nat) : Option Bool := (P.excs[c]?).map fun e => e.2.contains h
def dropX : SV → SV
  | .exc _ _ _ => .un
  | v => v
/-- an except suite's end -/
def endX (i : Option Nat) : Out → Out
  | .next s => .next { s with sl := (match i with | some i => put s.sl i .un | none => s.sl).map dropX }
  | .ret d fr s => .ret d fr { s with sl := s.sl.map dropX }
  | _ => .bad
abbrev Cur := Option (Nat × List Nat × List D)
section
variable (P : Prog) (call : Nat → List D → Mem → CRes) (mk : Nat → List D → Mem → CRes)
mutual
noncomputable def evalS (cur : Cur) : S → Sta → Out
  | .asg t e, s => match t with
    | .nm i => (evalE P call mk true e s).out fun x s => .next { s with sl := put s.sl i (svOf x) }
    | t => (evalE P call mk true e s).out fun x s => match asgT t x.d s.sl with
      | some sl => .next { s with sl := sl }
      | none => .bad
  | .asgP is es, s => (evalPs P call mk es s).out fun rs s => .next { s with sl := putP is rs s.sl }
  | .setF o f e, s => (evalE P call mk true e s).out fun v s => (evalE P call mk false o s).out fun x s => chg o x s fun d => setFD P d f v.d
  | .setFs o fs e, s => (evalE P call mk true e s).out fun v s => (evalE P call mk false o s).out fun x s => match v.d with
    | .tup vs => chg o x s fun d => setFsD P d fs vs
    | _ => .bad
  | .setI o i e, s => (evalE P call mk true e s).out fun v s => (evalE P call mk false o s).out fun x s => (evalE P call mk true i s).out fun y s => chg o x s fun d => putI d y.d v.d
  | .augN op i e, s => match look s.sl i with
    | .val x => (evalE P call mk false e s).out fun y s => match aug2 op x y.d with
      | some v => .next { s with sl := put s.sl i (.val v) }
      | none => .bad
    | _ => .bad
  | .augF op o f e, s => (evalE P call mk false o s).out fun x s => match deref s.hp x.d with
    | .obj _ ns vs => match fget ns vs f with
      | some w => (evalE P call mk false e s).out fun y s => match binop op w y.d with
        | some v => chg o x s fun d => setFD P d f v.d
        | none => .bad
      | none => .bad
    | _ => .bad
  | .augI op o i e, s => (evalE P call mk false o s).out fun x s => (evalE P call mk false i s).out fun k s => match deref s.hp x.d, k.d with
    | .lst xs, .int j => match (ixOf xs.length j).bind fun n => xs[n]? with
      | some w => (evalE P call mk false e s).out fun y s => match binop op w y.d with
        | some v => chg o x s fun d => putI d (.int j) v.d
        | none => .bad
      | none => .bad
    | _, _ => .bad
  | .app o e, s => (evalE P call mk false o s).out fun x s => if isL (deref s.hp x.d) then (evalE P call mk true e s).out fun v s => chg o x s fun d => appD d v.d else .bad
  | .ext o e, s => (evalE P call mk false o s).out fun x s => if isL (deref s.hp x.d) then (evalE P call mk false e s).out fun v s => chg o x s fun d => extD d (deref s.hp v.d) else .bad
  | .ins o i e, s => (evalE P call mk false o s).out fun x s => if isL (deref s.hp x.d) then (evalE P call mk false i s).out fun k s => (evalE P call mk true e s).out fun v s => chg o x s fun d => insD d k.d v.d else .bad
  | .upd o e, s => (evalE P call mk false o s).out fun x s => (evalE P call mk false e s).out fun v s => chg o x s fun d => updD d v.d
  | .expr e, s => (evalE P call mk false e s).out fun _ s => .next s
  | .iff c a b, s => ((evalE P call mk false c s).bind truth).out fun k s => if k then evalSs cur a s else evalSs cur b s
  | .wh c b, s => loop (whS (evalE P call mk false c) (evalSs cur b)) .bad s
  | .for_ t it b, s => (evalI P call mk true it s).out fun xs s => forL t (evalSs cur b) xs s
  | .ret e, s => match e with
    | none => .ret .non false s
    | some (.nm i) => match look s.sl i with
      | .own d => .ret d true s
      | .val d => .ret d false s
      | _ => .bad
    | some e => (evalE P call mk true e s).out fun x s => .ret x.d x.fr s
  | .raise c es, s => (evalEs P call mk es s).out fun ds s => match P.excs[c]? with
    | some x => if x.1.length = ds.length then .exc c x.1 ds s else .bad
    | none => .bad
  | .reraise, s => match cur with
    | some (c, ns, vs) => .exc c ns vs s
    | none => .bad
  | .try_ b hs bs, s => match evalSs cur b s with
    | .exc c ns vs s => evalHs c ns vs hs bs s
    | o => o
  | .pass, s => .next s
  | .kill is, s => .next { s with sl := killS s.sl is }
noncomputable def evalSs (cur : Cur) : List S → Sta → Out
  | [], s => .next s
  | x :: xs, s => match evalS cur x s with
    | .next s => evalSs cur xs s
    | o => o
noncomputable def evalHs (c : Nat) (ns : List Nat) (vs : List D) : List (Nat × Option Nat) → List (List S) → Sta → Out
  | h :: hs, b :: bs, s => match isX P c h.1 with
    | some true => match h.2 with
      | some i => endX (some i) (evalSs (some (c, ns, vs)) b { s with sl := put s.sl i (.exc c ns vs) })
      | none => endX none (evalSs (some (c, ns, vs)) b s)
    | some false => evalHs c ns vs hs bs s
    | none => .bad
  | _, _, s => .exc c ns vs s
end
end

/-- a def's end -/
def fin (o : Out) : CRes := match o with
  | .next s => .ok .non false s.hp
  | .ret d fr s => .ok d fr s.hp
  | .exc c ns vs s => .exc c ns vs s.hp
  | .bad => .bad
/-- __init__'s end: the new object -/
def finI (o : Out) : CRes := match o with
  | .next s => match look s.sl 0 with
    | .own d => .ok d false s.hp
    | .val (.obj c ns vs) => .ok (.obj c ns vs) false s.hp
    | _ => .bad
  | .exc c ns vs s => match look s.sl 0 with
    | .own _ => .exc c ns vs s.hp
    | .val (.obj _ _ _) => .exc c ns vs s.hp
    | _ => .bad
  | _ => .bad
def slots0 (fn : Fn) (vs : List SV) : List SV := vs ++ List.replicate (fn.ns - vs.length) .un

/-- a def called, at most k deep; a new object by its __init__ -/
noncomputable def run (P : Prog) : Nat → (Nat → List D → Mem → CRes) × (Nat → List D → Mem → CRes)
  | 0 => (fun _ _ _ => .bad, fun _ _ _ => .bad)
  | k + 1 => (fun f args h => match P.fns[f]? with
      | some fn => if args.length = fn.np then fin (evalSs P (run P k).1 (run P k).2 none fn.body ⟨slots0 fn (args.map .val), h⟩) else .bad
      | none => .bad,
    fun c args h => match (P.inits[c]?).bind fun f => P.fns[f]? with
      | some fn => if args.length + 1 = fn.np then finI (evalSs P (run P k).1 (run P k).2 none fn.body ⟨slots0 fn (.own (.obj c [] []) :: args.map .val), h⟩) else .bad
      | none => .bad)
noncomputable abbrev callF (P : Prog) (k f : Nat) (args : List D) (h : Mem) : CRes := (run P k).1 f args h
noncomputable abbrev makeF (P : Prog) (k c : Nat) (args : List D) (h : Mem) : CRes := (run P k).2 c args h
end Ev
end

section
/-! EvB1: what stands for what: the relation between data and the hand layer's heap. -/
namespace Ev
open PySem PySem.Spec PyProof.Rows L2

/-- where the text's things stand -/
structure Tx where
  K : PySem.W.Frag
  ca : Nat → Addr
  fa : Nat → Addr
  xa : Nat → Addr
  fld : Nat → Str
  /-- how many names of fields there are -/
  nf : Nat

def sOf (cs : List Nat) : Str := ⟨cs.toArray⟩
def keyD : Key → D
  | .inl i => .int i
  | .inr x => .str x.cps.toList
def zipF (T : Tx) (ns : List Nat) (vs : List V) : List (Str × V) := (ns.map T.fld).zip vs

/-- at a stands a dict of the keys kv and the values vs -/
def DicO (W : L2.Hp) (a : Addr) (kv vs : List V) : Prop := ∃ kvs : List (Key × V), W a = some (.dK kvs) ∧ kvs.map (fun p => kV p.1) = kv ∧ kvs.map (·.2) = vs
section
variable (T : Tx) (W : L2.Hp) (io : List Addr)
mutual
/-- the value v stands for the datum d; all that it needs is among W, or of the text; what is shared is at io -/
def Rep : D → V → Prop
  | .non, v => v = .non
  | .bl b, v => v = .bl b
  | .int i, v => v = .int i
  | .str cs, v => v = .str (sOf cs) ∧ cs.length ≤ lim
  | .tup ds, v => ∃ a vs, v = .ref a ∧ SqT T.K W a vs ∧ RepL ds vs
  | .lst ds, v => ∃ a vs, v = .ref a ∧ W a = some (.lst vs) ∧ RepL ds vs
  | .dic ks ds, v => ∃ a kv vs, v = .ref a ∧ DicO W a kv vs ∧ RepL ks kv ∧ RepL ds vs
  | .obj c ns ds, v => ∃ a dx fvs, v = .ref a ∧ W a = some (.ins (T.ca c) dx (zipF T ns fvs)) ∧ ns.length = ds.length ∧ RepL ds fvs
  | .fn f, v => v = .ref (T.fa f)
  | .ref i, v => ∃ a, v = .ref a ∧ io[i]? = some a
  | .scr ns, v => ∃ a, v = .ref a ∧ SqL T.K W a (ns.map V.int)
def RepL : List D → List V → Prop
  | [], vs => vs = []
  | d :: ds, vs => ∃ v r, vs = v :: r ∧ Rep d v ∧ RepL ds r
end
/-- the object at a (in H) holds d -/
def At (H : L2.Hp) (a : Addr) : D → Prop
  | .lst ds => ∃ vs, H a = some (.lst vs) ∧ RepL T W io ds vs
  | .dic ks ds => ∃ kv vs, DicO H a kv vs ∧ RepL T W io ks kv ∧ RepL T W io ds vs
  | .obj c ns ds => ∃ dx fvs, H a = some (.ins (T.ca c) dx (zipF T ns fvs)) ∧ ns.length = ds.length ∧ RepL T W io ds fvs
  | _ => False
/-- v stands for d as H is now -/
def View (H : L2.Hp) (d : D) (v : V) : Prop := Rep T W io d v ∨ ∃ a, v = .ref a ∧ At T W io H a d
def Sees (H : L2.Hp) (d : D) (v : V) : Prop := Rep T W io d v ∨ ∃ a, v = .ref a ∧ a ∉ io ∧ At T W io H a d
end

theorem sameR {K : PySem.W.Frag} {W W' : L2.Hp} {a : Addr} {u : HO} (h : Same W W') (r : Rd W a u) : Rd W' a u := by
  rcases r with r | ⟨o, r⟩
  · exact .inl (h _ _ r)
  · exact .inr ⟨o, h _ _ r⟩
theorem sameL {K : PySem.W.Frag} {W W' : L2.Hp} {a : Addr} {xs : List V} (h : Same W W') (r : SqL K W a xs) : SqL K W' a xs := by
  rcases r with r | r
  · exact .inl (sameR (K := K) h r)
  · exact .inr r
theorem sameT {K : PySem.W.Frag} {W W' : L2.Hp} {a : Addr} {xs : List V} (h : Same W W') (r : SqT K W a xs) : SqT K W' a xs := by
  rcases r with r | r
  · exact .inl (sameR (K := K) h r)
  · exact .inr r
theorem sameR' {W : L2.Hp} : Same W W := fun _ _ h => h
theorem sameTr {W W' W'' : L2.Hp} (h : Same W W') (k : Same W' W'') : Same W W'' := fun a o e => k a o (h a o e)

/-- the shared ones: more may come -/
def Pre (io io' : List Addr) : Prop := ∀ (i : Nat) (a : Addr), io[i]? = some a → io'[i]? = some a
theorem Pre.rfl' {io : List Addr} : Pre io io := fun _ _ h => h
theorem Pre.tr {a b c : List Addr} (h : Pre a b) (k : Pre b c) : Pre a c := fun i x e => k i x (h i x e)
theorem Pre.app {a b : List Addr} : Pre a (a ++ b) := fun i x e => by
  have hi : i < a.length := (List.getElem?_eq_some_iff.mp e).1
  rw [List.getElem?_append_left hi]; exact e
theorem Pre.mem {a b : List Addr} (h : Pre a b) {x : Addr} (hx : x ∈ a) : x ∈ b := by
  obtain ⟨i, e⟩ := List.getElem?_of_mem hx
  exact List.mem_of_getElem? (h i x e)

theorem DicO.mono1 {W W' : L2.Hp} {a : Addr} {kv vs : List V} (h : DicO W a kv vs) (hw : ∀ o, W a = some o → W' a = some o) : DicO W' a kv vs := by
  obtain ⟨kvs, e, h1, h2⟩ := h
  exact ⟨kvs, hw _ e, h1, h2⟩
theorem DicO.mono {W W' : L2.Hp} {a : Addr} {kv vs : List V} (h : DicO W a kv vs) (hw : Same W W') : DicO W' a kv vs := h.mono1 (hw a)
theorem DicO.there {W : L2.Hp} {a : Addr} {kv vs : List V} (h : DicO W a kv vs) : W a ≠ none := by
  obtain ⟨kvs, e, h1, h2⟩ := h
  rw [e]; simp
section
variable {T : Tx} {W W' H H' : L2.Hp} {io io' : List Addr}
mutual
theorem Rep.mono (hw : Same W W') (hi : Pre io io') : ∀ {d : D} {v : V}, Rep T W io d v → Rep T W' io' d v
  | .non, v, h => by simpa only [Rep] using h
  | .bl _, v, h => by simpa only [Rep] using h
  | .int _, v, h => by simpa only [Rep] using h
  | .str _, v, h => by simpa only [Rep] using h
  | .tup ds, v, h => by
    simp only [Rep] at h ⊢
    obtain ⟨a, vs, e, s, r⟩ := h
    exact ⟨a, vs, e, sameT hw s, RepL.mono hw hi r⟩
  | .lst ds, v, h => by
    simp only [Rep] at h ⊢
    obtain ⟨a, vs, e, s, r⟩ := h
    exact ⟨a, vs, e, hw _ _ s, RepL.mono hw hi r⟩
  | .dic ks ds, v, h => by
    simp only [Rep] at h ⊢
    obtain ⟨a, kv, vs, e, s, k, r⟩ := h
    exact ⟨a, kv, vs, e, s.mono hw, RepL.mono hw hi k, RepL.mono hw hi r⟩
  | .obj c ns ds, v, h => by
    simp only [Rep] at h ⊢
    obtain ⟨a, dx, fvs, e, s, k, r⟩ := h
    exact ⟨a, dx, fvs, e, hw _ _ s, k, RepL.mono hw hi r⟩
  | .fn f, v, h => by simpa only [Rep] using h
  | .ref i, v, h => by
    simp only [Rep] at h ⊢
    obtain ⟨a, e, s⟩ := h
    exact ⟨a, e, hi _ _ s⟩
  | .scr ns, v, h => by
    simp only [Rep] at h ⊢
    obtain ⟨a, e, s⟩ := h
    exact ⟨a, e, sameL hw s⟩
theorem RepL.mono (hw : Same W W') (hi : Pre io io') : ∀ {ds : List D} {vs : List V}, RepL T W io ds vs → RepL T W' io' ds vs
  | [], vs, h => by simpa only [RepL] using h
  | d :: ds, vs, h => by
    simp only [RepL] at h ⊢
    obtain ⟨v, r, e, h1, h2⟩ := h
    exact ⟨v, r, e, Rep.mono hw hi h1, RepL.mono hw hi h2⟩
end
theorem RepL.nil : RepL T W io [] [] := by simp only [RepL]
theorem RepL.cons {d : D} {v : V} {ds : List D} {vs : List V} (h : Rep T W io d v) (r : RepL T W io ds vs) : RepL T W io (d :: ds) (v :: vs) := by
  simp only [RepL]; exact ⟨v, vs, rfl, h, r⟩
theorem RepL.length : ∀ {ds : List D} {vs : List V}, RepL T W io ds vs → ds.length = vs.length
  | [], vs, h => by simp only [RepL] at h; subst h; rfl
  | d :: ds, vs, h => by
    simp only [RepL] at h
    obtain ⟨v, r, e, _, h2⟩ := h
    subst e
    simp [RepL.length h2]
theorem RepL.get : ∀ {ds : List D} {vs : List V} {i : Nat} {d : D}, RepL T W io ds vs → ds[i]? = some d → ∃ v, vs[i]? = some v ∧ Rep T W io d v
  | [], _, _, _, _, e => by simp at e
  | d :: ds, vs, 0, x, h, e => by
    simp only [RepL] at h
    obtain ⟨v, r, rfl, h1, _⟩ := h
    simp at e; subst e
    exact ⟨v, rfl, h1⟩
  | d :: ds, vs, i + 1, x, h, e => by
    simp only [RepL] at h
    obtain ⟨v, r, rfl, _, h2⟩ := h
    obtain ⟨u, e1, e2⟩ := RepL.get (i := i) h2 (by simpa using e)
    exact ⟨u, by simpa using e1, e2⟩
theorem RepL.getV : ∀ {ds : List D} {vs : List V} {i : Nat} {v : V}, RepL T W io ds vs → vs[i]? = some v → ∃ d, ds[i]? = some d ∧ Rep T W io d v
  | [], vs, i, v, h, e => by simp only [RepL] at h; subst h; simp at e
  | d :: ds, vs, 0, x, h, e => by
    simp only [RepL] at h
    obtain ⟨v, r, rfl, h1, _⟩ := h
    simp at e; subst e
    exact ⟨d, rfl, h1⟩
  | d :: ds, vs, i + 1, x, h, e => by
    simp only [RepL] at h
    obtain ⟨v, r, rfl, _, h2⟩ := h
    obtain ⟨u, e1, e2⟩ := RepL.getV (i := i) h2 (by simpa using e)
    exact ⟨u, by simpa using e1, e2⟩
theorem RepL.append : ∀ {ds es : List D} {vs us : List V}, RepL T W io ds vs → RepL T W io es us → RepL T W io (ds ++ es) (vs ++ us)
  | [], _, vs, _, h, k => by simp only [RepL] at h; subst h; simpa using k
  | d :: ds, es, vs, us, h, k => by
    simp only [RepL] at h
    obtain ⟨v, r, rfl, h1, h2⟩ := h
    exact RepL.cons h1 (RepL.append h2 k)
theorem RepL.drop : ∀ {ds : List D} {vs : List V} (n : Nat), RepL T W io ds vs → RepL T W io (ds.drop n) (vs.drop n)
  | _, _, 0, h => h
  | [], vs, n + 1, h => by simp only [RepL] at h; subst h; exact RepL.nil
  | d :: ds, vs, n + 1, h => by
    simp only [RepL] at h
    obtain ⟨v, r, rfl, _, h2⟩ := h
    exact RepL.drop n h2
theorem RepL.take : ∀ {ds : List D} {vs : List V} (n : Nat), RepL T W io ds vs → RepL T W io (ds.take n) (vs.take n)
  | _, _, 0, h => RepL.nil
  | [], vs, n + 1, h => by simp only [RepL] at h; subst h; exact RepL.nil
  | d :: ds, vs, n + 1, h => by
    simp only [RepL] at h
    obtain ⟨v, r, rfl, h1, h2⟩ := h
    exact RepL.cons h1 (RepL.take n h2)
theorem RepL.set : ∀ {ds : List D} {vs : List V} (n : Nat) {d : D} {v : V}, RepL T W io ds vs → Rep T W io d v → RepL T W io (ds.set n d) (vs.set n v)
  | [], vs, n, _, _, h, _ => by simp only [RepL] at h; subst h; exact RepL.nil
  | d :: ds, vs, 0, _, _, h, k => by
    simp only [RepL] at h
    obtain ⟨v, r, rfl, h1, h2⟩ := h
    exact RepL.cons k h2
  | d :: ds, vs, n + 1, _, _, h, k => by
    simp only [RepL] at h
    obtain ⟨v, r, rfl, h1, h2⟩ := h
    exact RepL.cons h1 (RepL.set n h2 k)
theorem RepL.reverse : ∀ {ds : List D} {vs : List V}, RepL T W io ds vs → RepL T W io ds.reverse vs.reverse
  | [], vs, h => by simp only [RepL] at h; subst h; exact RepL.nil
  | d :: ds, vs, h => by
    simp only [RepL] at h
    obtain ⟨v, r, rfl, h1, h2⟩ := h
    rw [List.reverse_cons, List.reverse_cons]
    exact RepL.append (RepL.reverse h2) (RepL.cons h1 RepL.nil)

theorem At.mono {a : Addr} {d : D} (hw : Same W W') (hi : Pre io io') (hh : ∀ o, H a = some o → H' a = some o) (h : At T W io H a d) : At T W' io' H' a d := by
  cases d with
  | lst ds => obtain ⟨vs, e, r⟩ := h; exact ⟨vs, hh _ e, r.mono hw hi⟩
  | dic ks ds => obtain ⟨kv, vs, e, k, r⟩ := h; exact ⟨kv, vs, e.mono1 hh, k.mono hw hi, r.mono hw hi⟩
  | obj c ns ds => obtain ⟨dx, fvs, e, k, r⟩ := h; exact ⟨dx, fvs, hh _ e, k, r.mono hw hi⟩
  | _ => exact h.elim
theorem At.there {a : Addr} {d : D} (h : At T W io H a d) : H a ≠ none := by
  cases d with
  | lst ds => obtain ⟨vs, e, r⟩ := h; rw [e]; simp
  | dic ks ds => obtain ⟨kv, vs, e, k, r⟩ := h; exact e.there
  | obj c ns ds => obtain ⟨dx, fvs, e, k, r⟩ := h; rw [e]; simp
  | _ => exact h.elim
/-- what is at a is frozen -/
theorem At.rep {a : Addr} {d : D} (h : At T W io H a d) (hw : ∀ o, H a = some o → W a = some o) : Rep T W io d (.ref a) := by
  cases d with
  | lst ds => obtain ⟨vs, e, r⟩ := h; simp only [Rep]; exact ⟨a, vs, rfl, hw _ e, r⟩
  | dic ks ds => obtain ⟨kv, vs, e, k, r⟩ := h; simp only [Rep]; exact ⟨a, kv, vs, rfl, e.mono1 hw, k, r⟩
  | obj c ns ds => obtain ⟨dx, fvs, e, k, r⟩ := h; simp only [Rep]; exact ⟨a, dx, fvs, rfl, hw _ e, k, r⟩
  | _ => exact h.elim
theorem Sees.view {d : D} {v : V} (h : Sees T W io H d v) : View T W io H d v := h.imp id fun ⟨a, e, _, r⟩ => ⟨a, e, r⟩
theorem View.non {v : V} (h : View T W io H .non v) : v = .non := by
  rcases h with h | ⟨a, _, h⟩
  · simpa only [Rep] using h
  · exact h.elim
theorem View.bl {b : Bool} {v : V} (h : View T W io H (.bl b) v) : v = .bl b := by
  rcases h with h | ⟨a, _, h⟩
  · simpa only [Rep] using h
  · exact h.elim
theorem View.int {i : Int} {v : V} (h : View T W io H (.int i) v) : v = .int i := by
  rcases h with h | ⟨a, _, h⟩
  · simpa only [Rep] using h
  · exact h.elim
theorem View.str {cs : List Nat} {v : V} (h : View T W io H (.str cs) v) : v = .str (sOf cs) ∧ cs.length ≤ lim := by
  rcases h with h | ⟨a, _, h⟩
  · simpa only [Rep] using h
  · exact h.elim
theorem View.fn {f : Nat} {v : V} (h : View T W io H (.fn f) v) : v = .ref (T.fa f) := by
  rcases h with h | ⟨a, _, h⟩
  · simpa only [Rep] using h
  · exact h.elim
theorem View.tup {ds : List D} {v : V} (hs : Same W H) (h : View T W io H (.tup ds) v) : ∃ a vs, v = .ref a ∧ SqT T.K H a vs ∧ RepL T W io ds vs := by
  rcases h with h | ⟨a, _, h⟩
  · simp only [Rep] at h
    obtain ⟨a, vs, e, s, r⟩ := h
    exact ⟨a, vs, e, sameT hs s, r⟩
  · exact h.elim
theorem View.tupW {ds : List D} {v : V} (h : View T W io H (.tup ds) v) : ∃ a vs, v = .ref a ∧ SqT T.K W a vs ∧ RepL T W io ds vs := by
  rcases h with h | ⟨a, _, h⟩
  · simpa only [Rep] using h
  · exact h.elim
theorem View.lst {ds : List D} {v : V} (hs : Same W H) (h : View T W io H (.lst ds) v) : ∃ a vs, v = .ref a ∧ H a = some (.lst vs) ∧ RepL T W io ds vs := by
  rcases h with h | ⟨a, e, vs, s, r⟩
  · simp only [Rep] at h
    obtain ⟨a, vs, e, s, r⟩ := h
    exact ⟨a, vs, e, hs _ _ s, r⟩
  · exact ⟨a, vs, e, s, r⟩
theorem View.scr {ns : List Int} {v : V} (hs : Same W H) (h : View T W io H (.scr ns) v) : ∃ a, v = .ref a ∧ SqL T.K H a (ns.map V.int) := by
  rcases h with h | ⟨a, _, h⟩
  · simp only [Rep] at h
    obtain ⟨a, e, s⟩ := h
    exact ⟨a, e, sameL hs s⟩
  · exact h.elim
theorem View.dic {ks ds : List D} {v : V} (hs : Same W H) (h : View T W io H (.dic ks ds) v) :
    ∃ a kv vs, v = .ref a ∧ DicO H a kv vs ∧ RepL T W io ks kv ∧ RepL T W io ds vs := by
  rcases h with h | ⟨a, e, kv, vs, s, k, r⟩
  · simp only [Rep] at h
    obtain ⟨a, kv, vs, e, s, k, r⟩ := h
    exact ⟨a, kv, vs, e, s.mono hs, k, r⟩
  · exact ⟨a, kv, vs, e, s, k, r⟩
theorem View.obj {c : Nat} {ns : List Nat} {ds : List D} {v : V} (hs : Same W H) (h : View T W io H (.obj c ns ds) v) :
    ∃ a dx fvs, v = .ref a ∧ H a = some (.ins (T.ca c) dx (zipF T ns fvs)) ∧ ns.length = ds.length ∧ RepL T W io ds fvs := by
  rcases h with h | ⟨a, e, dx, fvs, s, k, r⟩
  · simp only [Rep] at h
    obtain ⟨a, dx, fvs, e, s, k, r⟩ := h
    exact ⟨a, dx, fvs, e, hs _ _ s, k, r⟩
  · exact ⟨a, dx, fvs, e, s, k, r⟩
end

/-! ### states -/
/-- the ghosts of a state: what is frozen, where the shared ones stand, what the slots own -/
structure Gh where
  W : L2.Hp
  io : List Addr
  oa : List Addr

/-- the entry of the def at hand: its heap, what was shared then -/
structure Ent where
  H0 : L2.Hp
  W0 : L2.Hp
  io0 : List Addr
  /-- exceptions in hand: where each stands, its own dict, its class -/
  xs : List (Addr × Addr × Nat)
  /-- slots that are only read may be -/
  ro : Bool
  /-- what slot 0 keeps -/
  me : Option V

/-- one slot -/
def SlotR (T : Tx) (xs : List (Addr × Addr × Nat)) (g : Gh) (H : L2.Hp) (v : Option (Option V)) : SV → Prop
  | .un => True
  | .val d => ∃ u, v = some (some u) ∧ Rep T g.W g.io d u
  | .own d => ∃ a, v = some (some (.ref a)) ∧ At T g.W g.io H a d ∧ a ∈ g.oa ∧ a ∉ g.io ∧ g.W a = none
  | .ro d => ∃ a, v = some (some (.ref a)) ∧ At T g.W g.io H a d ∧ a ∉ g.io ∧ a ∉ g.oa
  | .exc c ns ds => ∃ a dx fvs, v = some (some (.ref a)) ∧ (a, dx, c) ∈ xs ∧ H dx = some (.xd (zipF T ns fvs)) ∧ dx ∉ g.io ∧ ns.length = ds.length ∧ RepL T g.W g.io ds fvs

structure Rel (T : Tx) (en : Ent) (g : Gh) (s : Sta) (σ : L2.St) (H : L2.Hp) : Prop where
  sub : Same g.W H
  len : s.sl.length = σ.length
  slot : ∀ i, SlotR T en.xs g H σ[i]? (look s.sl i)
  dist : ∀ i j d e a, look s.sl i = .own d → look s.sl j = .own e → σ[i]? = some (some (.ref a)) → σ[j]? = some (some (.ref a)) → i = j
  mem : s.hp.length = g.io.length
  nd : g.io.Nodup
  heap : ∀ (i : Nat) (d : D), s.hp[i]? = some d → ∃ a, g.io[i]? = some a ∧ At T g.W g.io H a d ∧ g.W a = none ∧ a ∉ g.oa
  oaT : ∀ a ∈ g.oa, H a ≠ none
  base : ∀ a o, en.H0 a = some o → a ∉ en.io0 → H a = some o
  oaF : ∀ a ∈ g.oa, en.H0 a = none
  ioF : ∀ a ∈ g.io, a ∈ en.io0 ∨ en.H0 a = none
  tr : ∀ a, en.H0 a ≠ none → H a ≠ none
  ioP : ∀ a ∈ en.io0, a ∈ g.io
  wn : ∀ a, en.H0 a ≠ none → en.W0 a = none → g.W a = none
  roF : (en.ro = false → ∀ i d, look s.sl i ≠ .ro d) ∧ ∀ v, en.me = some v → σ[0]? = some (some v)

/-- what an expression may do: nothing to what the slots own -/
structure Step (g : Gh) (H : L2.Hp) (g' : Gh) (H' : L2.Hp) : Prop where
  W : Same g.W g'.W
  io : Pre g.io g'.io
  oa : g'.oa = g.oa
  kp : ∀ a o, H a = some o → a ∉ g.io → H' a = some o
  tr : ∀ a, H a ≠ none → H' a ≠ none
  ioF : ∀ a ∈ g'.io, a ∈ g.io ∨ H a = none
  wn : ∀ a, H a ≠ none → a ∉ g.oa → g.W a = none → g'.W a = none
theorem Step.rfl' {g : Gh} {H : L2.Hp} : Step g H g H := ⟨sameR', Pre.rfl', rfl, fun _ _ h _ => h, fun _ h => h, fun _ h => .inl h, fun _ _ _ h => h⟩
theorem Step.trans {g g1 g2 : Gh} {H H1 H2 : L2.Hp} (a : Step g H g1 H1) (b : Step g1 H1 g2 H2) : Step g H g2 H2 where
  W := sameTr a.W b.W
  io := Pre.tr a.io b.io
  oa := b.oa.trans a.oa
  kp := fun x o h n => b.kp x o (a.kp x o h n) fun m => by
    rcases a.ioF x m with z | z
    · exact n z
    · rw [z] at h; cases h
  tr := fun x h => b.tr x (a.tr x h)
  wn := fun x h n w => b.wn x (a.tr x h) (by rw [a.oa]; exact n) (a.wn x h n w)
  ioF := fun x h => by
    rcases b.ioF x h with m | z
    · exact a.ioF x m
    · refine .inr ?_
      cases e : H x with
      | none => rfl
      | some o => exact absurd z (a.tr x (by rw [e]; simp))
theorem Step.none {g g1 : Gh} {H H1 : L2.Hp} (a : Step g H g1 H1) {x : Addr} (h : H1 x = none) : H x = none := by
  cases e : H x with
  | none => rfl
  | some o => exact absurd h (a.tr x (by rw [e]; simp))

/-- the heap's part of it -/
structure HRel (T : Tx) (W : L2.Hp) (io : List Addr) (hp : Mem) (H : L2.Hp) : Prop where
  sub : Same W H
  mem : hp.length = io.length
  nd : io.Nodup
  heap : ∀ (i : Nat) (d : D), hp[i]? = some d → ∃ a, io[i]? = some a ∧ At T W io H a d ∧ W a = none
/-- what a call does; but: an object that it may change besides -/
structure CStep (W : L2.Hp) (io : List Addr) (H W' : L2.Hp) (io' : List Addr) (H' : L2.Hp) (but : Addr → Prop) : Prop where
  sW : Same W W'
  sI : Pre io io'
  kp : ∀ a o, H a = some o → a ∉ io → ¬ but a → H' a = some o
  tr : ∀ a, H a ≠ none → H' a ≠ none
  ioF : ∀ a ∈ io', a ∈ io ∨ H a = none
  wn : ∀ a, H a ≠ none → ¬ but a → W a = none → W' a = none
/-- what an expression gives; H: the heap ahead of it -/
def RetR (T : Tx) (g : Gh) (H H' : L2.Hp) (esc : Bool) (r : RV) (v : V) : Prop :=
  if r.fr = true then ∃ a, v = .ref a ∧ At T g.W g.io H' a r.d ∧ g.W a = none ∧ H a = none ∧ a ∉ g.io
  else if esc = true then Rep T g.W g.io r.d v else Sees T g.W g.io H' r.d v
def RetL (T : Tx) (g : Gh) (ds : List D) (vs : List V) : Prop := RepL T g.W g.io ds vs
/-- an exception's fields -/
def ExcR (T : Tx) (W : L2.Hp) (io : List Addr) (H : L2.Hp) (dx : Addr) (ns : List Nat) (ds : List D) : Prop :=
  ∃ fvs, H dx = some (.xd (zipF T ns fvs)) ∧ dx ∉ io ∧ ns.length = ds.length ∧ RepL T W io ds fvs

section
variable {T : Tx} {en : Ent} {g g1 : Gh} {H H1 H2 : L2.Hp} {r : RV} {v : V} {σ : L2.St} {Wx : WX} {esc : Bool}
theorem RetR.step {g2 : Gh} {esc : Bool} (a : Step g H g1 H1) (h : RetR T g2 H1 H2 esc r v) : RetR T g2 H H2 esc r v := by
  unfold RetR at h ⊢
  split at h
  · rename_i e
    rw [if_pos e]
    obtain ⟨a', e1, e2, e3, e4, e5⟩ := h
    exact ⟨a', e1, e2, e3, a.none e4, e5⟩
  · rename_i e
    rw [if_neg e]
    exact h

/-- what is to be had of an evaluation's end -/
def OKat {α : Type} (T : Tx) (en : Ent) (Wx : WX) (g : Gh) (H : L2.Hp) (σ : L2.St) (o : Res α) (Q : Gh → L2.Hp → α → Sta → Prop) : Prop :=
  match o with
  | .ok r s' => ∀ g' H', Rel T en g' s' σ H' → Step g H g' H' → Q g' H' r s'
  | .exc c ns ds s' => ∀ g' H' d, Rel T en g' s' σ H' → Step g H g' H' → ExcR T g'.W g'.io H' d ns ds → Wx (.ref (T.xa c)) (some d) σ H'
  | .bad => False
theorem OKat.mono {α : Type} {o : Res α} {Q Q' : Gh → L2.Hp → α → Sta → Prop} (h : OKat T en Wx g H σ o Q) (f : ∀ g' H' r s', Rel T en g' s' σ H' → Step g H g' H' → Q g' H' r s' → Q' g' H' r s') : OKat T en Wx g H σ o Q' := by
  cases o with
  | ok r s' => exact fun g' H' R S => f g' H' r s' R S (h g' H' R S)
  | exc c ns ds s' => exact h
  | bad => exact h
theorem OKat.step {α : Type} {o : Res α} {Q : Gh → L2.Hp → α → Sta → Prop} (a : Step g H g1 H1) (h : OKat T en Wx g H σ o Q) : OKat T en Wx g1 H1 σ o Q := by
  cases o with
  | ok r s' => exact fun g' H' R S => h g' H' R (a.trans S)
  | exc c ns ds s' => exact fun g' H' d R S e => h g' H' d R (a.trans S) e
  | bad => exact h
theorem OKat.bind {α β : Type} {o : Res α} {k : α → Sta → Res β} {Q : Gh → L2.Hp → β → Sta → Prop} (h : OKat T en Wx g H σ (o.bind k) Q) :
    OKat T en Wx g H σ o fun g' H' r s' => OKat T en Wx g' H' σ (k r s') Q := by
  cases o with
  | ok r s' => exact fun g' H' R S => OKat.step S h
  | exc c ns ds s' => exact h
  | bad => exact h
end

section
variable {T : Tx} {en : Ent} {g g1 : Gh} {H H1 H2 : L2.Hp} {σ : L2.St} {Wx : WX}
/-- the same, what is at hand frozen between -/
theorem OKat.bind' {α β : Type} {o : Res α} {k : α → Sta → Res β} {Q : Gh → L2.Hp → β → Sta → Prop} (h : OKat T en Wx g H σ (o.bind k) Q) :
    OKat T en Wx g H σ o fun g' H' r s' => ∀ g2, Step g H g2 H' → OKat T en Wx g2 H' σ (k r s') Q := by
  cases o with
  | ok r s' => exact fun g' H' R S g2 S2 => OKat.step S2 h
  | exc c ns ds s' => exact h
  | bad => exact h
end

/-- an expression's reading -/
def tD (T : Tx) (en : Ent) (Wx : WX) (esc : Bool) (ev : Sta → Res RV) : TE := fun σ H Q => ∃ g s, Rel T en g s σ H ∧
  OKat T en Wx g H σ (ev s) fun g' H' r s' => ∀ v, RetR T g' H H' esc r v → Q v H'
/-- of several -/
def tDL (T : Tx) (en : Ent) (Wx : WX) (ev : Sta → Res (List D)) : TA := fun σ H Q => ∃ g s, Rel T en g s σ H ∧
  OKat T en Wx g H σ (ev s) fun g' H' ds s' => ∀ vs, RepL T g'.W g'.io ds vs → Q vs H'
end Ev
end

section
/-! EvB2: operators by values. -/
namespace Ev
open PySem PySem.Spec PyProof.Rows L2

/-! ### data of the library -/
mutual
def toP : D → PyData
  | .non => .none
  | .bl b => .bool b
  | .int i => .int i
  | .str cs => .str (sOf cs)
  | .tup xs => .tuple (toPL xs)
  | .lst xs => .list (toPL xs)
  | .dic _ _ => .none
  | .obj _ _ _ => .none
  | .fn _ => .none
  | .ref _ => .none
  | .scr _ => .none
def toPL : List D → List PyData
  | [] => []
  | x :: xs => toP x :: toPL xs
end
theorem sOf_beq (a b : List Nat) : (sOf a == sOf b) = (a == b) := by
  rw [Bool.eq_iff_iff, beq_iff_eq, beq_iff_eq]
  constructor
  · intro e
    have := congrArg (fun x => x.cps.toList) e
    simpa [sOf] using this
  · rintro rfl; rfl
mutual
theorem eqv_toP : ∀ (n m : Nat) (a b : D), D.pl n a = true → D.pl m b = true → PyData.eqv (toP a) (toP b) = D.eqv a b
  | n, m, a, b, ha, hb => by
    cases a with
    | dic => cases n <;> exact nomatch ha
    | obj => cases n <;> exact nomatch ha
    | fn => cases n <;> exact nomatch ha
    | ref => cases n <;> exact nomatch ha
    | scr => cases n <;> exact nomatch ha
    | tup xs =>
      cases n with
      | zero => exact nomatch ha
      | succ n =>
        cases b with
        | dic => cases m <;> exact nomatch hb
        | obj => cases m <;> exact nomatch hb
        | fn => cases m <;> exact nomatch hb
        | ref => cases m <;> exact nomatch hb
        | scr => cases m <;> exact nomatch hb
        | tup ys =>
          cases m with
          | zero => exact nomatch hb
          | succ m =>
            simp only [D.pl] at ha hb
            simp only [toP, PyData.eqv, D.eqv]
            exact eqvL_toP n m xs ys ha hb
        | _ => simp only [toP, PyData.eqv, D.eqv]
    | lst xs =>
      cases n with
      | zero => exact nomatch ha
      | succ n =>
        cases b with
        | dic => cases m <;> exact nomatch hb
        | obj => cases m <;> exact nomatch hb
        | fn => cases m <;> exact nomatch hb
        | ref => cases m <;> exact nomatch hb
        | scr => cases m <;> exact nomatch hb
        | lst ys =>
          cases m with
          | zero => exact nomatch hb
          | succ m =>
            simp only [D.pl] at ha hb
            simp only [toP, PyData.eqv, D.eqv]
            exact eqvL_toP n m xs ys ha hb
        | _ => simp only [toP, PyData.eqv, D.eqv]
    | str x =>
      cases b with
      | dic => cases m <;> exact nomatch hb
      | obj => cases m <;> exact nomatch hb
      | fn => cases m <;> exact nomatch hb
      | ref => cases m <;> exact nomatch hb
      | scr => cases m <;> exact nomatch hb
      | str y => simp only [toP, PyData.eqv, D.eqv]; exact sOf_beq x y
      | _ => simp only [toP, PyData.eqv, D.eqv]
    | _ =>
      cases b with
      | dic => cases m <;> exact nomatch hb
      | obj => cases m <;> exact nomatch hb
      | fn => cases m <;> exact nomatch hb
      | ref => cases m <;> exact nomatch hb
      | scr => cases m <;> exact nomatch hb
      | _ => simp only [toP, PyData.eqv, D.eqv]
theorem eqvL_toP : ∀ (n m : Nat) (xs ys : List D), plL n xs = true → plL m ys = true → PyData.eqvAll (toPL xs) (toPL ys) = eqvL xs ys
  | n, m, [], [], _, _ => by simp only [toPL, PyData.eqvAll, eqvL]
  | n, m, [], _ :: _, _, _ => by simp only [toPL, PyData.eqvAll, eqvL]
  | n, m, _ :: _, [], _, _ => by simp only [toPL, PyData.eqvAll, eqvL]
  | n, m, x :: xs, y :: ys, ha, hb => by
    simp only [plL, Bool.and_eq_true] at ha hb
    simp only [toPL, PyData.eqvAll, eqvL]
    rw [eqv_toP n m x y ha.1 hb.1, eqvL_toP n m xs ys ha.2 hb.2]
end
mutual
theorem plain_toP : ∀ (n : Nat) (a : D), D.pl n a = true → (toP a).plain = true ∧ (toP a).depth ≤ n
  | n, a, h => by
    cases a with
    | dic => cases n <;> exact nomatch h
    | obj => cases n <;> exact nomatch h
    | fn => cases n <;> exact nomatch h
    | ref => cases n <;> exact nomatch h
    | scr => cases n <;> exact nomatch h
    | tup xs =>
      cases n with
      | zero => exact nomatch h
      | succ n =>
        simp only [D.pl] at h
        have := plainL_toP n xs h
        simp only [toP, PyData.plain, PyData.depth]
        exact ⟨this.1, by omega⟩
    | lst xs =>
      cases n with
      | zero => exact nomatch h
      | succ n =>
        simp only [D.pl] at h
        have := plainL_toP n xs h
        simp only [toP, PyData.plain, PyData.depth]
        exact ⟨this.1, by omega⟩
    | _ => simp [toP, PyData.plain, PyData.depth]
theorem plainL_toP : ∀ (n : Nat) (xs : List D), plL n xs = true → PyData.plainAll (toPL xs) = true ∧ PyData.depthAll (toPL xs) ≤ n
  | n, [], _ => by simp [toPL, PyData.plainAll, PyData.depthAll]
  | n, x :: xs, h => by
    simp only [plL, Bool.and_eq_true] at h
    have h1 := plain_toP n x h.1
    have h2 := plainL_toP n xs h.2
    simp only [toPL, PyData.plainAll, PyData.depthAll, Bool.and_eq_true]
    exact ⟨⟨h1.1, h2.1⟩, by omega⟩
end
mutual
theorem alike_toP : ∀ (a b : D), D.alike a b = true → PySem.W.alike (toP a) (toP b) = true
  | a, b, h => by
    cases a <;> cases b <;> first
      | (exfalso; cases h; done)
      | (simp only [toP, PySem.W.alike]; done)
      | (simp only [toP, PySem.W.alike]; simp only [D.alike] at h; exact alikeL_toP _ _ h)
theorem alikeL_toP : ∀ (xs ys : List D), alikeL xs ys = true → PySem.W.alikeAll (toPL xs) (toPL ys) = true
  | [], ys, _ => by cases ys <;> simp only [toPL, PySem.W.alikeAll]
  | x :: xs, [], h => by simp only [toPL, PySem.W.alikeAll]
  | x :: xs, y :: ys, h => by
    simp only [alikeL, Bool.and_eq_true] at h
    simp only [toPL, PySem.W.alikeAll, Bool.and_eq_true]
    exact ⟨alike_toP x y h.1, alikeL_toP xs ys h.2⟩
end
theorem ltS_eq : ∀ a b : List Nat, ltS a b = decide (a < b)
  | [], [] => by simp [ltS]
  | [], _ :: _ => by simp [ltS]
  | _ :: _, [] => by simp [ltS]
  | x :: xs, y :: ys => by
    simp only [ltS, List.cons_lt_cons_iff]
    rw [ltS_eq xs ys]
    by_cases e : x = y
    · subst e; simp
    · simp [e]
mutual
theorem ltv_toP : ∀ (n m : Nat) (a b : D), D.pl n a = true → D.pl m b = true → D.alike a b = true → PySem.W.dataLt (toP a) (toP b) = D.ltv a b
  | n, m, a, b, ha, hb, h => by
    cases a <;> cases b <;> first
      | (exfalso; cases h; done)
      | skip
    · simp only [toP, D.ltv]; decide +kernel
    · rename_i x y; simp only [toP, D.ltv]; rw [PySem.W.dataLt_bool]; cases x <;> cases y <;> decide
    · simp only [toP, D.ltv]; rw [PySem.W.dataLt_int]
    · simp only [toP, D.ltv]; rw [PySem.W.dataLt_str, ltS_eq, Bool.eq_iff_iff]; exact ⟨fun h => decide_eq_true (of_decide_eq_true h), fun h => decide_eq_true (of_decide_eq_true h)⟩
    · cases n with
      | zero => exact nomatch ha
      | succ n =>
        cases m with
        | zero => exact nomatch hb
        | succ m =>
          simp only [D.pl] at ha hb
          simp only [D.alike] at h
          simp only [toP, D.ltv]
          rw [PySem.W.dataLt_tuple]
          exact ltvL_toP n m _ _ ha hb h
    · cases n with
      | zero => exact nomatch ha
      | succ n =>
        cases m with
        | zero => exact nomatch hb
        | succ m =>
          simp only [D.pl] at ha hb
          simp only [D.alike] at h
          simp only [toP, D.ltv]
          rw [PySem.W.dataLt_list]
          exact ltvL_toP n m _ _ ha hb h
theorem ltvL_toP : ∀ (n m : Nat) (xs ys : List D), plL n xs = true → plL m ys = true → alikeL xs ys = true →
    PyProof.Rows.lexLt itemOrd (PySem.W.keyToksAll (toPL xs)) (PySem.W.keyToksAll (toPL ys)) = ltvL xs ys
  | n, m, [], [], _, _, _ => by simp only [toPL, ltvL]; decide +kernel
  | n, m, [], y :: ys, _, _, _ => by
    simp only [toPL, ltvL, PySem.W.keyToksAll]
    rw [PySem.W.lex_atom (by simp), PySem.W.lex_one]; decide +kernel
  | n, m, x :: xs, [], _, _, _ => by
    simp only [toPL, ltvL, PySem.W.keyToksAll]
    rw [PySem.W.lex_atom (by simp), PySem.W.lex_one]; decide +kernel
  | n, m, x :: xs, y :: ys, ha, hb, h => by
    simp only [plL, Bool.and_eq_true] at ha hb
    simp only [alikeL, Bool.and_eq_true] at h
    simp only [toPL, ltvL]
    cases e : D.eqv x y with
    | true =>
      rw [if_pos rfl, PySem.W.dataLt_all_yes (alike_toP x y h.1) (by rw [eqv_toP n m x y ha.1 hb.1]; exact e)]
      exact ltvL_toP n m xs ys ha.2 hb.2 h.2
    | false =>
      rw [if_neg (by simp), PySem.W.dataLt_all_no (alike_toP x y h.1) (by rw [eqv_toP n m x y ha.1 hb.1]; exact e)]
      exact ltv_toP n m x y ha.1 hb.1 h.1
end
theorem toPL_map : ∀ xs : List D, toPL xs = xs.map toP
  | [] => rfl
  | x :: xs => by simp only [toPL, List.map_cons, toPL_map xs]

section
variable {T : Tx} {W H : L2.Hp} {io : List Addr}
mutual
theorem dp_rep (hs : Same W H) : ∀ (n : Nat) (d : D) (v : V), D.pl n d = true → Rep T W io d v → Dp T.K H v (toP d)
  | n, d, v, hp, h => by
    cases d with
    | dic => cases n <;> exact nomatch hp
    | obj => cases n <;> exact nomatch hp
    | fn => cases n <;> exact nomatch hp
    | ref => cases n <;> exact nomatch hp
    | scr => cases n <;> exact nomatch hp
    | non => simp only [Rep] at h; subst h; exact .non
    | bl b => simp only [Rep] at h; subst h; exact .bl b
    | int i => simp only [Rep] at h; subst h; exact .int i
    | str cs => simp only [Rep] at h; obtain ⟨h, _⟩ := h; subst h; exact .str _
    | tup xs =>
      cases n with
      | zero => exact nomatch hp
      | succ n =>
        simp only [D.pl] at hp
        simp only [Rep] at h
        obtain ⟨a, vs, rfl, s, r⟩ := h
        exact .tup (sameT hs s) (dpL_rep hs n xs vs hp r)
    | lst xs =>
      cases n with
      | zero => exact nomatch hp
      | succ n =>
        simp only [D.pl] at hp
        simp only [Rep] at h
        obtain ⟨a, vs, rfl, s, r⟩ := h
        exact .lst (.inl (.inl (hs _ _ s))) (dpL_rep hs n xs vs hp r)
theorem dpL_rep (hs : Same W H) : ∀ (n : Nat) (ds : List D) (vs : List V), plL n ds = true → RepL T W io ds vs → DpAll T.K H vs (toPL ds)
  | n, [], vs, _, h => by simp only [RepL] at h; subst h; exact .nil
  | n, d :: ds, vs, hp, h => by
    simp only [plL, Bool.and_eq_true] at hp
    simp only [RepL] at h
    obtain ⟨v, r, rfl, h1, h2⟩ := h
    exact .cons (dp_rep hs n d v hp.1 h1) (dpL_rep hs n ds r hp.2 h2)
end
theorem dp_view (hs : Same W H) {n : Nat} {d : D} {v : V} (hp : D.pl n d = true) (h : View T W io H d v) : Dp T.K H v (toP d) := by
  rcases h with h | ⟨a, rfl, h⟩
  · exact dp_rep hs n d v hp h
  · cases d with
    | lst xs =>
      cases n with
      | zero => exact nomatch hp
      | succ n =>
        simp only [D.pl] at hp
        obtain ⟨vs, e, r⟩ := h
        exact .lst (.inl (.inl e)) (dpL_rep hs n xs vs hp r)
    | dic => cases n <;> exact nomatch hp
    | obj => cases n <;> exact nomatch hp
    | _ => exact h.elim

/-! ### what is new -/
/-- a value that an operation gives, and the heap behind it -/
inductive Nw (T : Tx) (W : L2.Hp) (io : List Addr) (H : L2.Hp) : RV → V → L2.Hp → Prop
  | same {d : D} {v : V} : Rep T W io d v → Nw T W io H ⟨d, false⟩ v H
  | tup {ds : List D} {vs : List V} {p : Addr} : H p = none → RepL T W io ds vs → Nw T W io H ⟨.tup ds, false⟩ (.ref p) (upd H p (.tup vs))
  | lst {ds : List D} {vs : List V} {p : Addr} : H p = none → RepL T W io ds vs → Nw T W io H ⟨.lst ds, true⟩ (.ref p) (upd H p (.lst vs))
  | dic {ks ds : List D} {kv vs : List V} {o : HO} {p : Addr} : H p = none → DicO (upd H p o) p kv vs → RepL T W io ks kv → RepL T W io ds vs → Nw T W io H ⟨.dic ks ds, true⟩ (.ref p) (upd H p o)

/-! ### the operators -/
def rB (T : Tx) (op : BOp) : R2 := fun x y H Q => ∃ W io a b rv, Same W H ∧ View T W io H a x ∧ View T W io H b y ∧ binop op a b = some rv ∧ ∀ v H', Nw T W io H rv v H' → Q v H'
def rC (T : Tx) (op : COp) : R2 := fun x y H Q => ∃ W io a b k, Same W H ∧ View T W io H a x ∧ View T W io H b y ∧ cmpop op a b = some k ∧ Q (.bl k) H
end

theorem lim_eq : lim = sizeLine := by rw [sizeLine_eq]; rfl
theorem sOf_length (cs : List Nat) : (sOf cs).length = cs.length := by simp [sOf, Str.length]
theorem sOf_append (a b : List Nat) : sOf a ++ sOf b = sOf (a ++ b) := by
  show Str.mk _ = _
  simp [sOf, Str.append]
end Ev
end

section
/-! EvB3: the operators' rules. -/
namespace Ev
open PySem PySem.Spec PyProof.Rows L2

theorem binop_add {a b : D} {rv : RV} (h : binop .add a b = some rv) :
    (∃ i j, a = .int i ∧ b = .int j ∧ rv = ⟨.int (i + j), false⟩) ∨ (∃ x y, a = .str x ∧ b = .str y ∧ x.length + y.length ≤ lim ∧ rv = ⟨.str (x ++ y), false⟩) ∨
    (∃ x y, a = .tup x ∧ b = .tup y ∧ x.length + y.length ≤ lim ∧ rv = ⟨.tup (x ++ y), false⟩) ∨ (∃ x y, a = .lst x ∧ b = .lst y ∧ x.length + y.length ≤ lim ∧ rv = ⟨.lst (x ++ y), true⟩) := by
  cases a <;> cases b <;> simp [binop] at h ⊢ <;> (try exact ⟨h.1, h.2.symm⟩) <;> (try exact h.symm)
theorem binop_sub {a b : D} {rv : RV} (h : binop .sub a b = some rv) : ∃ i j, a = .int i ∧ b = .int j ∧ rv = ⟨.int (i - j), false⟩ := by
  cases a <;> cases b <;> simp [binop] at h ⊢ <;> (try exact h.symm)
theorem binop_mul {a b : D} {rv : RV} (h : binop .mul a b = some rv) :
    (∃ i j, a = .int i ∧ b = .int j ∧ (i.natAbs < 18446744073709551616 ∨ j.natAbs < 18446744073709551616) ∧ rv = ⟨.int (i * j), false⟩) ∨
    (∃ x n, a = .tup x ∧ b = .int n ∧ (2 ≤ n ∧ n ≤ 1000 ∧ 0 < x.length ∧ x.length ≤ 1000) ∧ rv = ⟨.tup (List.replicate n.toNat x).flatten, false⟩) ∨
    (∃ x n, a = .lst x ∧ b = .int n ∧ (0 ≤ n ∧ n ≤ 1000 ∧ x.length ≤ 1000) ∧ rv = ⟨.lst (List.replicate n.toNat x).flatten, true⟩) := by
  cases b with
  | int n =>
    cases a with
    | int i =>
      simp only [binop, Option.ite_none_right_eq_some, Option.some.injEq] at h
      exact .inl ⟨i, n, rfl, rfl, h.1, h.2.symm⟩
    | tup x =>
      simp only [binop, Option.ite_none_right_eq_some, Option.some.injEq] at h
      exact .inr (.inl ⟨x, n, rfl, rfl, h.1, h.2.symm⟩)
    | lst x =>
      simp only [binop, Option.ite_none_right_eq_some, Option.some.injEq] at h
      exact .inr (.inr ⟨x, n, rfl, rfl, h.1, h.2.symm⟩)
    | _ => simp [binop] at h
  | _ => cases a <;> simp [binop] at h
theorem binop_fdiv {a b : D} {rv : RV} (h : binop .fdiv a b = some rv) : ∃ i j, a = .int i ∧ b = .int j ∧ (0 < j ∧ j < 1073741824) ∧ rv = ⟨.int (i / j), false⟩ := by
  cases a <;> cases b <;> simp [binop] at h ⊢ <;> (try exact ⟨h.1, h.2.symm⟩)
theorem binop_mod {a b : D} {rv : RV} (h : binop .mod a b = some rv) : ∃ i j, a = .int i ∧ b = .int j ∧ 0 < j ∧ rv = ⟨.int (i % j), false⟩ := by
  cases a <;> cases b <;> simp [binop] at h ⊢ <;> (try exact ⟨h.1, h.2.symm⟩)
theorem binop_pow {a b : D} {rv : RV} (h : binop .pow a b = some rv) : ∃ i j, a = .int i ∧ b = .int j ∧ (0 ≤ j ∧ j ≤ 1000 ∧ i.natAbs < 18446744073709551616) ∧ rv = ⟨.int (i ^ j.toNat), false⟩ := by
  cases a <;> cases b <;> simp [binop] at h ⊢ <;> (try exact ⟨h.1, h.2.symm⟩)

section
variable {T : Tx} {W H : L2.Hp} {io : List Addr}
theorem nwInt {i : Int} : Nw T W io H ⟨.int i, false⟩ (.int i) H := .same (by simp only [Rep])
theorem nwBl {i : Bool} : Nw T W io H ⟨.bl i, false⟩ (.bl i) H := .same (by simp only [Rep])
theorem nwStr {cs : List Nat} (h : cs.length ≤ lim) : Nw T W io H ⟨.str cs, false⟩ (.str (sOf cs)) H := .same (by simp only [Rep]; exact ⟨trivial, h⟩)
theorem nwNon : Nw T W io H ⟨.non, false⟩ .non H := .same (by simp only [Rep])
theorem RepL.rep {ds : List D} {vs : List V} (h : RepL T W io ds vs) : ∀ k : Nat, RepL T W io (List.replicate k ds).flatten (List.replicate k vs).flatten
  | 0 => RepL.nil
  | k + 1 => by
    rw [List.replicate_succ, List.replicate_succ, List.flatten_cons, List.flatten_cons]
    exact RepL.append h (RepL.rep h k)
end

def bopOf : BOp → Operator
  | .add => .Add
  | .sub => .Sub
  | .mul => .Mult
  | .fdiv => .FloorDiv
  | .mod => .Mod
  | .pow => .Pow
def copOf : COp → CmpOp
  | .eq => .Eq
  | .ne => .NotEq
  | .lt => .Lt
  | .le => .LtE
  | .gt => .Gt
  | .ge => .GtE
  | .isin => .In
  | .notin => .NotIn
  | .isn => .Is
  | .isnt => .IsNot

section
variable {X : Cx} {T : Tx}
theorem op_bin (hK : X.K = T.K) (op : BOp) : OpR X (binaryOp (bopOf op)) (rB T op) := by
  intro pins s σ H x y v u Q I rx ry h
  obtain ⟨W, io, a, b, rv, hs, va, vb, e, q⟩ := h
  cases op with
  | add =>
    rcases binop_add e with ⟨i, j, rfl, rfl, rfl⟩ | ⟨p, r, rfl, rfl, hz, rfl⟩ | ⟨p, r, rfl, rfl, hz, rfl⟩ | ⟨p, r, rfl, rfl, hz, rfl⟩
    · have e1 := va.int; have e2 := vb.int; subst e1 e2
      exact op_add pins s σ H _ _ v u Q I rx ry ⟨i, j, rfl, rfl, q _ _ nwInt⟩
    · obtain ⟨e1, _⟩ := va.str; obtain ⟨e2, _⟩ := vb.str; subst e1 e2
      refine op_add_str pins s σ H _ _ v u Q I rx ry ⟨_, _, rfl, rfl, by rw [sOf_length, sOf_length, ← lim_eq]; exact hz, ?_⟩
      rw [sOf_append]
      exact q _ _ (nwStr (by rw [List.length_append]; exact hz))
    · obtain ⟨c, vs, rfl, s1, r1⟩ := va.tup hs
      obtain ⟨d, us, rfl, s2, r2⟩ := vb.tup hs
      refine op_catA pins s σ H _ _ v u Q I rx ry ⟨c, d, vs, us, rfl, rfl, by rw [hK]; exact s1, by rw [hK]; exact s2, by rw [← r1.length, ← r2.length, ← lim_eq]; exact hz, fun z => ?_, fun _ z => ?_, fun _ _ p np => ?_⟩
      · subst z
        have z' : p = [] := List.length_eq_zero_iff.mp r1.length
        subst z'
        obtain ⟨d', us', e2, s2', r2'⟩ := vb.tupW
        cases e2
        exact q _ _ (.same (by simp only [Rep]; exact ⟨_, _, rfl, s2', r2'⟩))
      · subst z
        have z' : r = [] := List.length_eq_zero_iff.mp r2.length
        subst z'
        obtain ⟨d', us', e2, s2', r2'⟩ := va.tupW
        cases e2
        exact q _ _ (.same (by simp only [Rep, List.append_nil]; exact ⟨_, _, rfl, s2', r2'⟩))
      · exact q _ _ (.tup np (r1.append r2))
    · obtain ⟨c, vs, rfl, s1, r1⟩ := va.lst hs
      obtain ⟨d, us, rfl, s2, r2⟩ := vb.lst hs
      exact op_cat pins s σ H _ _ v u Q I rx ry ⟨c, d, vs, us, rfl, rfl, s1, s2, by rw [← r1.length, ← r2.length, ← lim_eq]; exact hz, fun p np => q _ _ (.lst np (r1.append r2))⟩
  | sub =>
    obtain ⟨i, j, rfl, rfl, rfl⟩ := binop_sub e
    have e1 := va.int; have e2 := vb.int; subst e1 e2
    exact op_sub pins s σ H _ _ v u Q I rx ry ⟨i, j, rfl, rfl, q _ _ nwInt⟩
  | mul =>
    rcases binop_mul e with ⟨i, j, rfl, rfl, hz, rfl⟩ | ⟨p, n, rfl, rfl, hz, rfl⟩ | ⟨p, n, rfl, rfl, hz, rfl⟩
    · have e1 := va.int; have e2 := vb.int; subst e1 e2
      refine op_mul pins s σ H _ _ v u Q I rx ry ⟨i, j, rfl, rfl, ?_, q _ _ nwInt⟩
      rcases hz with hz | hz
      · exact .inl (by omega)
      · exact .inr (by omega)
    · have e2 := vb.int; subst e2
      obtain ⟨c, vs, rfl, s1, r1⟩ := va.tup hs
      have hl := r1.length
      exact op_repT pins s σ H _ _ v u Q I rx ry ⟨c, n, vs, rfl, rfl, by rw [hK]; exact s1, (fun z => by have h0 := hz.2.2.1; rw [hl, z] at h0; exact absurd h0 (by decide)), hz.1, hz.2.1, by rw [← hl]; exact hz.2.2.2, fun p np => q _ _ (.tup np (r1.rep _))⟩
    · have e2 := vb.int; subst e2
      obtain ⟨c, vs, rfl, s1, r1⟩ := va.lst hs
      have hl := r1.length
      refine op_rep pins s σ H _ _ v u Q I rx ry ⟨c, n, vs, rfl, rfl, s1, by omega, by omega, ?_, fun p np => q _ _ (.lst np (r1.rep _))⟩
      have h1 : n.toNat ≤ 1000 := by omega
      have h2 : vs.length ≤ 1000 := by omega
      have h3 : vs.length * n.toNat ≤ 1000 * 1000 := Nat.mul_le_mul h2 h1
      rw [sizeLine_eq]
      omega
  | fdiv =>
    obtain ⟨i, j, rfl, rfl, hz, rfl⟩ := binop_fdiv e
    have e1 := va.int; have e2 := vb.int; subst e1 e2
    exact op_fdiv pins s σ H _ _ v u Q I rx ry ⟨i, j, rfl, rfl, hz, q _ _ nwInt⟩
  | mod =>
    obtain ⟨i, j, rfl, rfl, hz, rfl⟩ := binop_mod e
    have e1 := va.int; have e2 := vb.int; subst e1 e2
    exact op_mod pins s σ H _ _ v u Q I rx ry ⟨i, j, rfl, rfl, hz, q _ _ nwInt⟩
  | pow =>
    obtain ⟨i, j, rfl, rfl, hz, rfl⟩ := binop_pow e
    have e1 := va.int; have e2 := vb.int; subst e1 e2
    exact op_pow pins s σ H _ _ v u Q I rx ry ⟨i, j, rfl, rfl, ⟨hz.1, by omega, hz.2.2⟩, q _ _ nwInt⟩

/-! ### comparisons -/
theorem view_non {W H : L2.Hp} {io : List Addr} {d : D} {v : V} (h : View T W io H d v) : decide (v = .non) = isNon d := by
  cases d with
  | non => have e := h.non; subst e; rfl
  | bl => have e := h.bl; subst e; rfl
  | int => have e := h.int; subst e; rfl
  | str => have e := h.str.1; subst e; rfl
  | fn => have e := h.fn; subst e; rfl
  | _ =>
    rcases h with h | ⟨a, rfl, _⟩
    · simp only [Rep] at h
      obtain ⟨a, h⟩ := h
      first
        | (obtain ⟨_, rfl, _⟩ := h; rfl)
        | (obtain ⟨_, _, rfl, _⟩ := h; rfl)
        | (obtain ⟨rfl, _⟩ := h; rfl)
    · rfl
theorem isinD_inv {a b : D} {k : Bool} (h : isinD a b = some k) :
    (∃ xs, b = .lst xs ∧ D.plain a = true ∧ plainL xs = true ∧ k = xs.any fun x => D.eqv x a) ∨
    (∃ xs, b = .tup xs ∧ D.plain a = true ∧ plainL xs = true ∧ k = xs.any fun x => D.eqv x a) ∨
    (∃ ks vs, b = .dic ks vs ∧ D.keyed a = true ∧ k = (dfind ks vs a).isSome) ∨
    (∃ c cs, b = .str cs ∧ a = .str [c] ∧ k = cs.contains c) := by
  cases b with
  | lst xs =>
    simp only [isinD, Option.ite_none_right_eq_some, Bool.and_eq_true, Option.some.injEq] at h
    exact .inl ⟨xs, rfl, h.1.1, h.1.2, h.2.symm⟩
  | tup xs =>
    simp only [isinD, Option.ite_none_right_eq_some, Bool.and_eq_true, Option.some.injEq] at h
    exact .inr (.inl ⟨xs, rfl, h.1.1, h.1.2, h.2.symm⟩)
  | dic ks vs =>
    simp only [isinD, Option.ite_none_right_eq_some, Option.some.injEq] at h
    exact .inr (.inr (.inl ⟨ks, vs, rfl, h.1, h.2.symm⟩))
  | str cs =>
    cases a with
    | str as =>
      cases as with
      | nil => simp [isinD] at h
      | cons c r =>
        cases r with
        | nil =>
          simp only [isinD, Option.some.injEq] at h
          exact .inr (.inr (.inr ⟨c, cs, rfl, rfl, h.symm⟩))
        | cons _ _ => simp [isinD] at h
    | _ => simp [isinD] at h
  | _ => simp [isinD] at h
theorem any_toP {n m : Nat} {a : D} (ha : D.pl n a = true) : ∀ xs : List D, plL m xs = true → ((toPL xs).any fun y => PyData.eqv y (toP a)) = xs.any fun x => D.eqv x a
  | [], _ => by simp [toPL]
  | x :: xs, h => by
    simp only [plL, Bool.and_eq_true] at h
    simp only [toPL, List.any_cons]
    rw [eqv_toP m n x a h.1 ha, any_toP ha xs h.2]
/-- a key among keys -/
theorem rep_key {W : L2.Hp} {io : List Addr} {d : D} {k : Key} (h : Rep T W io d (kV k)) : d = keyD k := by
  cases k with
  | inl i =>
    cases d <;> simp only [Rep, kV] at h <;> first
      | (cases h; done)
      | (obtain ⟨_, h, _⟩ := h; cases h; done)
      | (obtain ⟨_, _, h, _⟩ := h; cases h; done)
      | (obtain ⟨_, _, _, h, _⟩ := h; cases h; done)
      | (obtain ⟨h, _⟩ := h; cases h; done)
      | (cases h; rfl)
  | inr x =>
    cases d <;> simp only [Rep, kV] at h <;> first
      | (cases h; done)
      | (obtain ⟨_, h, _⟩ := h; cases h; done)
      | (obtain ⟨_, _, h, _⟩ := h; cases h; done)
      | (obtain ⟨_, _, _, h, _⟩ := h; cases h; done)
      | (obtain ⟨h, _⟩ := h; cases h; simp [keyD, sOf]; done)
theorem dfind_key {W : L2.Hp} {io : List Addr} (k : Key) : ∀ {kvs : List (Key × V)} {ks ds : List D}, RepL T W io ks (kvs.map fun p => kV p.1) → RepL T W io ds (kvs.map (·.2)) →
    (∀ d, dfind ks ds (keyD k) = some d → ∃ v, valV kvs k = some v ∧ Rep T W io d v) ∧ (dfind ks ds (keyD k) = none → valV kvs k = none)
  | [], ks, ds, h1, h2 => by
    have l1 := h1.length
    have l2 := h2.length
    simp at l1 l2
    subst l1 l2
    exact ⟨fun d h => by simp [dfind] at h, fun _ => rfl⟩
  | p :: kvs, ks, ds, h1, h2 => by
    cases ks with
    | nil => simp [RepL] at h1
    | cons kd ks =>
      cases ds with
      | nil => simp [RepL] at h2
      | cons vd ds =>
        simp only [RepL, List.map_cons] at h1 h2
        obtain ⟨v1, r1, e1, h1, h1'⟩ := h1
        obtain ⟨v2, r2, e2, h2, h2'⟩ := h2
        cases e1; cases e2
        have ek := rep_key h1
        subst ek
        have ih := dfind_key k h1' h2'
        have hk : D.eqv (keyD p.1) (keyD k) = decide (p.1 = k) := by
          obtain ⟨q, w⟩ := p
          cases q with
          | inl i =>
            cases k with
            | inl j => simp only [keyD, D.eqv]; rw [key_ll]
            | inr y => simp [keyD, D.eqv]
          | inr x =>
            cases k with
            | inl j => simp [keyD, D.eqv]
            | inr y =>
              simp only [keyD, D.eqv]; rw [key_rr, Bool.eq_iff_iff, beq_iff_eq, decide_eq_true_eq]
              constructor
              · intro e; cases x; cases y; simp only [Str.mk.injEq]; exact Array.toList_inj.mp e
              · rintro rfl; rfl
        simp only [dfind, hk]
        by_cases e : p.1 = k
        · rw [valV_pos e]
          simp only [e, decide_true, if_true]
          exact ⟨fun d h => by cases h; exact ⟨_, rfl, h2⟩, fun h => nomatch h⟩
        · rw [valV_neg e]
          simp only [e, decide_false, Bool.false_eq_true, if_false]
          exact ih
/-- a look-up: what DGet says -/
theorem dicO_get {W H : L2.Hp} {io : List Addr} {a : Addr} {kv vs : List V} {ks ds : List D} {k : D} {x : V} (hs : Same W H) (h : DicO H a kv vs) (rk : RepL T W io ks kv) (rd : RepL T W io ds vs) (hk : D.keyed k = true) (vk : View T W io H k x) :
    ∃ o, DGet H a x o ∧ o.isSome = (dfind ks ds k).isSome ∧ ∀ d, dfind ks ds k = some d → ∃ v, o = some v ∧ Rep T W io d v := by
  obtain ⟨kvs, e, h1, h2⟩ := h
  subst h1 h2
  have main : ∀ q : Key, k = keyD q → x = kV q → ∃ o, DGet H a x o ∧ o.isSome = (dfind ks ds k).isSome ∧ ∀ d, dfind ks ds k = some d → ∃ v, o = some v ∧ Rep T W io d v := fun q e1 e2 => by
    subst e1 e2
    have f := dfind_key q rk rd
    refine ⟨_, DGet.k e, ?_, f.1⟩
    cases z : dfind ks ds (keyD q) with
    | none => rw [f.2 z]; rfl
    | some d => obtain ⟨v, hv, _⟩ := f.1 d z; rw [hv]; rfl
  cases k with
  | int i => have e := vk.int; exact main (.inl i) rfl e
  | str cs => obtain ⟨e, _⟩ := vk.str; exact main (.inr (sOf cs)) (by simp [keyD, sOf]) e
  | _ => exact nomatch hk
mutual
theorem alike_symm : ∀ (a b : D), D.alike a b = true → D.alike b a = true
  | a, b, h => by
    cases a <;> cases b <;> first
      | (exfalso; cases h; done)
      | rfl
      | (simp only [D.alike] at h ⊢; exact alikeL_symm _ _ h)
theorem alikeL_symm : ∀ (xs ys : List D), alikeL xs ys = true → alikeL ys xs = true
  | [], [], _ => rfl
  | [], _ :: _, _ => rfl
  | _ :: _, [], _ => rfl
  | x :: xs, y :: ys, h => by
    simp only [alikeL, Bool.and_eq_true] at h ⊢
    exact ⟨alike_symm x y h.1, alikeL_symm xs ys h.2⟩
end
theorem op_cmp (hK : X.K = T.K) (hu : X.A.units + 200 < cLine) (op : COp) : OpR X (compareOp (copOf op)) (rC T op) := by
  intro pins s σ H x y v u Q I rx ry h
  obtain ⟨W, io, a, b, k, hs, va, vb, e, q⟩ := h
  have fin : EP X pins σ Q (.bool k) s := ⟨.bl k, H, I, rfl, q⟩
  have lt : ∀ {a b : D}, View T W io H a x → View T W io H b y → (D.alike a b && D.plain a && D.plain b && !isNon a && !isNon b) = true →
      ∃ as bs, Reads s.heap v (toP a) as ∧ Reads s.heap u (toP b) bs ∧ PySem.W.alike (toP a) (toP b) = true ∧ toP a ≠ .none ∧ X.A.units + min (toP a).depth (toP b).depth < cLine ∧ PySem.W.dataLt (toP a) (toP b) = D.ltv a b := fun {a b} va vb h => by
    simp only [Bool.and_eq_true] at h
    obtain ⟨⟨⟨⟨h1, h2⟩, h3⟩, h4⟩, h5⟩ := h
    have d1 := dp_view hs h2 va
    have d2 := dp_view hs h3 vb
    rw [← hK] at d1 d2
    obtain ⟨as, r1⟩ := Dp.reads I _ x v d1 rx
    obtain ⟨bs, r2⟩ := Dp.reads I _ y u d2 ry
    have p1 := plain_toP _ a h2
    refine ⟨as, bs, r1, r2, alike_toP a b h1, ?_, ?_, ltv_toP _ _ a b h2 h3 h1⟩
    · cases a <;> first | (simp [isNon] at h4; done) | (simp [toP]; done) | skip
      all_goals (exact absurd h2 (by simp [D.plain, D.pl]))
    · have := Nat.min_le_left (toP a).depth (toP b).depth
      omega
  cases op with
  | eq =>
    simp only [cmpop, Option.ite_none_right_eq_some, Bool.and_eq_true, Option.some.injEq] at e
    obtain ⟨⟨h1, h2⟩, e⟩ := e
    have d1 := dp_view hs h1 va
    have d2 := dp_view hs h2 vb
    rw [← hK] at d1 d2
    obtain ⟨as, r1⟩ := Dp.reads I _ x v d1 rx
    obtain ⟨bs, r2⟩ := Dp.reads I _ y u d2 ry
    have p1 := plain_toP _ a h1
    have p2 := plain_toP _ b h2
    refine SeqAt.eq_plain r1 r2 p1.1 p2.1 (by have := Nat.min_le_left (toP a).depth (toP b).depth; omega) ?_
    rw [eqv_toP _ _ a b h1 h2, e]; exact fin
  | ne =>
    simp only [cmpop, Option.ite_none_right_eq_some, Bool.and_eq_true, Option.some.injEq] at e
    obtain ⟨⟨h1, h2⟩, e⟩ := e
    have d1 := dp_view hs h1 va
    have d2 := dp_view hs h2 vb
    rw [← hK] at d1 d2
    obtain ⟨as, r1⟩ := Dp.reads I _ x v d1 rx
    obtain ⟨bs, r2⟩ := Dp.reads I _ y u d2 ry
    have p1 := plain_toP _ a h1
    have p2 := plain_toP _ b h2
    refine SeqAt.ne_plain r1 r2 p1.1 p2.1 (by have := Nat.min_le_left (toP a).depth (toP b).depth; omega) ?_
    rw [eqv_toP _ _ a b h1 h2, e]; exact fin
  | lt =>
    simp only [cmpop, Option.ite_none_right_eq_some, Option.some.injEq] at e
    obtain ⟨h, e⟩ := e
    obtain ⟨as, bs, r1, r2, h1, h2, h3, h4⟩ := lt va vb h
    refine PySem.W.lt_data r1 r2 h1 h2 h3 ?_
    rw [h4, e]; exact fin
  | gt =>
    simp only [cmpop, Option.ite_none_right_eq_some, Option.some.injEq] at e
    obtain ⟨h, e⟩ := e
    obtain ⟨as, bs, r1, r2, h1, h2, h3, h4⟩ := lt va vb h
    refine PySem.W.gt_data r1 r2 h1 h2 h3 ?_
    simp only [Bool.and_eq_true] at h
    rw [ltv_toP _ _ b a h.1.1.2 h.1.1.1.2 (alike_symm a b h.1.1.1.1), e]; exact fin
  | le =>
    simp only [cmpop, Option.ite_none_right_eq_some, Option.some.injEq] at e
    obtain ⟨h, e⟩ := e
    obtain ⟨as, bs, r1, r2, h1, h2, h3, h4⟩ := lt va vb h
    refine PySem.W.le_data r1 r2 h1 h2 h3 ?_
    simp only [Bool.and_eq_true] at h
    rw [ltv_toP _ _ b a h.1.1.2 h.1.1.1.2 (alike_symm a b h.1.1.1.1), e]; exact fin
  | ge =>
    simp only [cmpop, Option.ite_none_right_eq_some, Option.some.injEq] at e
    obtain ⟨h, e⟩ := e
    obtain ⟨as, bs, r1, r2, h1, h2, h3, h4⟩ := lt va vb h
    refine PySem.W.ge_data r1 r2 h1 h2 h3 ?_
    rw [h4, e]; exact fin
  | isn =>
    cases b with
    | non =>
      simp only [cmpop, Option.some.injEq] at e
      have e2 := vb.non
      subst e2
      exact op_isN pins s σ H x _ v u Q I rx ry ⟨rfl, by rw [view_non va, e]; exact q⟩
    | _ => simp [cmpop] at e
  | isnt =>
    cases b with
    | non =>
      simp only [cmpop, Option.some.injEq] at e
      have e2 := vb.non
      subst e2
      exact op_notN pins s σ H x _ v u Q I rx ry ⟨rfl, by rw [view_non va, e]; exact q⟩
    | _ => simp [cmpop] at e
  | isin =>
    simp only [cmpop] at e
    rcases isinD_inv e with ⟨xs, rfl, h1, h2, e⟩ | ⟨xs, rfl, h1, h2, e⟩ | ⟨ks, vs, rfl, h1, e⟩ | ⟨c, cs, rfl, rfl, e5⟩
    · have d1 := dp_view hs h1 va
      have d2 := dp_view (n := 60) hs (by simp only [D.pl]; exact h2) vb
      rw [← hK] at d1 d2
      obtain ⟨as, r1⟩ := Dp.reads I _ x v d1 rx
      obtain ⟨bs, r2⟩ := Dp.reads I _ y u d2 ry
      have p1 := plain_toP _ a h1
      have p2 := plainL_toP _ xs h2
      simp only [toP] at r2
      refine SeqAt.in_list_data r2 r1 p2.1 p1.1 (by have := Nat.min_le_left (PyData.depthAll (toPL xs)) (toP a).depth; omega) ?_
      rw [any_toP h1 xs h2, ← e]; exact fin
    · have d1 := dp_view hs h1 va
      have d2 := dp_view (n := 60) hs (by simp only [D.pl]; exact h2) vb
      rw [← hK] at d1 d2
      obtain ⟨as, r1⟩ := Dp.reads I _ x v d1 rx
      obtain ⟨bs, r2⟩ := Dp.reads I _ y u d2 ry
      have p1 := plain_toP _ a h1
      have p2 := plainL_toP _ xs h2
      simp only [toP] at r2
      refine SeqAt.in_tuple_data r2 r1 p2.1 p1.1 (by have := Nat.min_le_left (PyData.depthAll (toPL xs)) (toP a).depth; omega) ?_
      rw [any_toP h1 xs h2, ← e]; exact fin
    · obtain ⟨c, kv, us, rfl, hd, rk, rd⟩ := vb.dic hs
      obtain ⟨o, g, hk, _⟩ := dicO_get hs hd rk rd h1 va
      cases ry
      refine d_in (by omega) I g rx fun s' I' => ?_
      rw [hk, ← e]
      exact ⟨.bl k, H, I', rfl, q⟩
    · obtain ⟨e1, _⟩ := va.str; obtain ⟨e2, _⟩ := vb.str; subst e1 e2
      refine op_in_sign pins s σ H _ _ v u Q I rx ry ⟨c, _, rfl, rfl, ?_⟩
      have : decide (c ∈ (sOf cs).cps.toList) = k := by rw [e5, Bool.eq_iff_iff, decide_eq_true_eq, List.contains_iff_mem]; simp [sOf]
      rw [this]; exact q
  | notin =>
    simp only [cmpop, Option.map_eq_some_iff] at e
    obtain ⟨k', e, ek⟩ := e
    rcases isinD_inv e with ⟨xs, rfl, h1, h2, e⟩ | ⟨xs, rfl, h1, h2, e⟩ | ⟨ks, vs, rfl, h1, e⟩ | ⟨c, cs, rfl, rfl, e5⟩
    · have d1 := dp_view hs h1 va
      have d2 := dp_view (n := 60) hs (by simp only [D.pl]; exact h2) vb
      rw [← hK] at d1 d2
      obtain ⟨as, r1⟩ := Dp.reads I _ x v d1 rx
      obtain ⟨bs, r2⟩ := Dp.reads I _ y u d2 ry
      have p1 := plain_toP _ a h1
      have p2 := plainL_toP _ xs h2
      simp only [toP] at r2
      refine SeqAt.notIn_list_data r2 r1 p2.1 p1.1 (by have := Nat.min_le_left (PyData.depthAll (toPL xs)) (toP a).depth; omega) ?_
      rw [any_toP h1 xs h2, ← e, ek]; exact fin
    · have d1 := dp_view hs h1 va
      have d2 := dp_view (n := 60) hs (by simp only [D.pl]; exact h2) vb
      rw [← hK] at d1 d2
      obtain ⟨as, r1⟩ := Dp.reads I _ x v d1 rx
      obtain ⟨bs, r2⟩ := Dp.reads I _ y u d2 ry
      have p1 := plain_toP _ a h1
      have p2 := plainL_toP _ xs h2
      simp only [toP] at r2
      refine SeqAt.notIn_tuple_data r2 r1 p2.1 p1.1 (by have := Nat.min_le_left (PyData.depthAll (toPL xs)) (toP a).depth; omega) ?_
      rw [any_toP h1 xs h2, ← e, ek]; exact fin
    · obtain ⟨c, kv, us, rfl, hd, rk, rd⟩ := vb.dic hs
      obtain ⟨o, g, hk, _⟩ := dicO_get hs hd rk rd h1 va
      cases ry
      refine d_notIn (by omega) I g rx fun s' I' => ?_
      rw [hk, ← e, ek]
      exact ⟨.bl k, H, I', rfl, q⟩
    · obtain ⟨e1, _⟩ := va.str; obtain ⟨e2, _⟩ := vb.str; subst e1 e2
      refine op_notIn_sign pins s σ H _ _ v u Q I rx ry ⟨c, _, rfl, rfl, ?_⟩
      have : (!decide (c ∈ (sOf cs).cps.toList)) = k := by rw [← ek, e5]; congr 1; rw [Bool.eq_iff_iff, decide_eq_true_eq, List.contains_iff_mem]; simp [sOf]
      rw [this]; exact q
end
end Ev
end

section
/-! EvB4: expressions. -/
namespace Ev
open PySem PySem.Spec PyProof.Rows L2

theorem look_put {sl : List SV} {i j : Nat} {v : SV} : look (put sl i v) j = if i = j ∧ i < sl.length then v else look sl j := by
  unfold look put
  by_cases h : i = j
  · subst h
    by_cases hi : i < sl.length
    · simp [hi]
    · simp [hi, List.getElem?_eq_none (Nat.le_of_not_lt hi)]
  · simp [h, List.getElem?_set_ne h]
theorem ro_put {sl : List SV} {i : Nat} {v : SV} (h : ∀ i d, look sl i ≠ .ro d) (hv : ∀ d, v ≠ .ro d) : ∀ j d, look (put sl i v) j ≠ .ro d := fun j d => by
  rw [look_put]
  split
  · exact hv d
  · exact h j d
theorem look_lt {sl : List SV} {i : Nat} (h : look sl i ≠ .un) : i < sl.length := by
  cases Nat.lt_or_ge i sl.length with
  | inl h => exact h
  | inr h' => exact absurd (by unfold look; rw [List.getElem?_eq_none h']; rfl) h
theorem put_length {sl : List SV} {i : Nat} {v : SV} : (put sl i v).length = sl.length := by simp [put]

section
variable {T : Tx} {en : Ent} {g g1 : Gh} {H H1 H2 : L2.Hp} {r : RV} {v : V} {σ : L2.St} {s : Sta} {Wx : WX} {esc : Bool}

theorem SlotR.mono {xs : List (Addr × Addr × Nat)} {v : Option (Option V)} {x : SV} {g' : Gh} {H' : L2.Hp} (h : SlotR T xs g H v x) (hw : Same g.W g'.W) (hi : Pre g.io g'.io)
    (ho : ∀ d a, x = .own d → v = some (some (.ref a)) → (∀ o, H a = some o → H' a = some o) ∧ a ∈ g'.oa ∧ a ∉ g'.io ∧ g'.W a = none)
    (hr : ∀ d a, x = .ro d → v = some (some (.ref a)) → (∀ o, H a = some o → H' a = some o) ∧ a ∉ g'.io ∧ a ∉ g'.oa)
    (hx : ∀ dx fs, H dx = some (.xd fs) → dx ∉ g.io → H' dx = some (.xd fs) ∧ dx ∉ g'.io) : SlotR T xs g' H' v x := by
  cases x with
  | un => trivial
  | val d => obtain ⟨u, e, h⟩ := h; exact ⟨u, e, h.mono hw hi⟩
  | own d =>
    obtain ⟨a, e, h, h1, h2, h3⟩ := h
    obtain ⟨k1, k2, k3, k4⟩ := ho d a rfl e
    exact ⟨a, e, h.mono hw hi k1, k2, k3, k4⟩
  | ro d =>
    obtain ⟨a, e, h, h1⟩ := h
    obtain ⟨k1, k2⟩ := hr d a rfl e
    exact ⟨a, e, h.mono hw hi k1, k2⟩
  | exc c ns vs =>
    obtain ⟨a, dx, fvs, e, m, h1, h2, h3, h4⟩ := h
    obtain ⟨k1, k2⟩ := hx dx _ h1 h2
    exact ⟨a, dx, fvs, e, m, k1, k2, h3, h4.mono hw hi⟩

theorem upd_W {W : L2.Hp} {a : Addr} {o : HO} (h : ∀ x, W a = some x → x = o) : Same W (upd W a o) := fun b x e => by
  by_cases hb : b = a
  · subst hb; rw [upd_same, h x e]
  · rw [upd_ne hb]; exact e

/-- what stands at a is never written again -/
theorem Rel.frz {a : Addr} {o : HO} (R : Rel T en g s σ H) (h : H a = some o) (h0 : en.H0 a = none) (hio : a ∉ g.io) (hown : ∀ j d, look s.sl j = .own d → σ[j]? ≠ some (some (.ref a))) :
    Rel T en { g with W := upd g.W a o } s σ H := by
  have hW : Same g.W (upd g.W a o) := upd_W fun x e => by
    have := R.sub a x e
    rw [h] at this; cases this; rfl
  have wn : ∀ b, b ≠ a → (upd g.W a o) b = g.W b := fun b hb => upd_ne hb
  refine ⟨fun b x e => ?_, R.len, fun i => ?_, R.dist, R.mem, R.nd, fun i d e => ?_, R.oaT, R.base, R.oaF, R.ioF, R.tr, R.ioP, fun b e1 e2 => ?_, R.roF⟩
  · by_cases hb : b = a
    · subst hb; dsimp only at e; rw [upd_same] at e; cases e; exact h
    · dsimp only at e; rw [upd_ne hb] at e; exact R.sub b x e
  · refine (R.slot i).mono hW Pre.rfl' (fun d b e1 e2 => ?_) (fun d b e1 e2 => ?_) ?_
    · have hs := R.slot i
      rw [e1] at hs
      obtain ⟨c, e, h1, h2, h3, h4⟩ := hs
      rw [e2] at e; cases e
      refine ⟨fun _ z => z, h2, h3, ?_⟩
      have : b ≠ a := fun z => hown i d e1 (z ▸ e2)
      show upd g.W a o b = none
      rw [upd_ne this]; exact h4
    · have hs := R.slot i
      rw [e1] at hs
      obtain ⟨c, e, h1, h2⟩ := hs
      rw [e2] at e; cases e
      exact ⟨fun _ z => z, h2⟩
    · exact fun dx fs e n => ⟨e, n⟩
  · obtain ⟨b, e1, e2, e3, e4⟩ := R.heap i d e
    refine ⟨b, e1, e2.mono hW Pre.rfl' fun _ z => z, ?_, e4⟩
    have : b ≠ a := fun z => hio (z ▸ List.mem_of_getElem? e1)
    show upd g.W a o b = none
    rw [upd_ne this]; exact e3
  · have : b ≠ a := fun z => e1 (z ▸ h0)
    show upd g.W a o b = none
    rw [upd_ne this]; exact R.wn b e1 e2
theorem frz_W {a : Addr} {o : HO} (R : Rel T en g s σ H) (h : H a = some o) : Same g.W (upd g.W a o) := upd_W fun x e => by
    have := R.sub a x e
    rw [h] at this; cases this; rfl
theorem step_frz {a : Addr} {o : HO} (R : Rel T en g s σ H) (h : H a = some o) (hoa : a ∈ g.oa) : Step g H { g with W := upd g.W a o } H :=
  ⟨upd_W fun x e => by
    have := R.sub a x e
    rw [h] at this; cases this; rfl, Pre.rfl', rfl, fun _ _ h _ => h, fun _ h => h, fun _ h => .inl h, fun b _ n w => by
      show upd g.W a o b = none
      rw [upd_ne (fun z => n (by rw [z]; exact hoa))]; exact w⟩
theorem own_ne {a : Addr} (R : Rel T en g s σ H) (h : a ∉ g.oa) : ∀ j d, look s.sl j = .own d → σ[j]? ≠ some (some (.ref a)) := fun j d e z => by
  have hs := R.slot j
  rw [e] at hs
  obtain ⟨c, e1, _, h2, _⟩ := hs
  rw [z] at e1; cases e1
  exact h h2
theorem new_oa {a : Addr} (R : Rel T en g s σ H) (h : H a = none) : a ∉ g.oa := fun z => R.oaT a z h
theorem io_there {a : Addr} (R : Rel T en g s σ H) (h : a ∈ g.io) : H a ≠ none := by
  obtain ⟨i, e⟩ := List.getElem?_of_mem h
  have hi : i < s.hp.length := by rw [R.mem]; exact (List.getElem?_eq_some_iff.mp e).1
  obtain ⟨b, e1, e2, _⟩ := R.heap i _ (List.getElem?_eq_getElem hi)
  rw [e] at e1; cases e1
  exact e2.there
theorem new_io {a : Addr} (R : Rel T en g s σ H) (h : H a = none) : a ∉ g.io := fun z => io_there R z h
theorem new_W {a : Addr} (R : Rel T en g s σ H) (h : H a = none) : g.W a = none := by
  cases e : g.W a with
  | none => rfl
  | some o => rw [R.sub a o e] at h; cases h
theorem new_0 {a : Addr} (R : Rel T en g s σ H) (h : H a = none) : en.H0 a = none := by
  cases e : en.H0 a with
  | none => rfl
  | some o => exact absurd h (R.tr a (by rw [e]; simp))
theorem keep_new {p : Addr} {o : HO} (h : H p = none) : ∀ (a : Addr) (x : HO), H a = some x → upd H p o a = some x := fun a x e => by
  rw [upd_ne (ne_of_none e h)]; exact e

/-- a new object -/
theorem Rel.new {p : Addr} {o : HO} (R : Rel T en g s σ H) (h : H p = none) : Rel T en g s σ (upd H p o) := by
  have k := keep_new (o := o) h
  refine ⟨fun b x e => k b x (R.sub b x e), R.len, fun i => ?_, R.dist, R.mem, R.nd, fun i d e => ?_, fun a ha => ?_, fun a x e n => k a x (R.base a x e n), R.oaF, R.ioF, fun a ha => ?_, R.ioP, R.wn, R.roF⟩
  · refine (R.slot i).mono sameR' Pre.rfl' (fun d b e1 e2 => ?_) (fun d b e1 e2 => ?_) fun dx fs e n => ⟨k dx _ e, n⟩
    · have hs := R.slot i
      rw [e1] at hs
      obtain ⟨c, e, h1, h2, h3, h4⟩ := hs
      rw [e2] at e; cases e
      exact ⟨k b, h2, h3, h4⟩
    · have hs := R.slot i
      rw [e1] at hs
      obtain ⟨c, e, h1, h2⟩ := hs
      rw [e2] at e; cases e
      exact ⟨k b, h2⟩
  · obtain ⟨b, e1, e2, e3, e4⟩ := R.heap i d e
    exact ⟨b, e1, e2.mono sameR' Pre.rfl' (k b), e3, e4⟩
  · cases e : H a with
    | none => exact absurd e (R.oaT a ha)
    | some x => rw [k a x e]; simp
  · cases e : H a with
    | none => exact absurd e (R.tr a ha)
    | some x => rw [k a x e]; simp
theorem step_new {p : Addr} {o : HO} (h : H p = none) : Step g H g (upd H p o) :=
  ⟨sameR', Pre.rfl', rfl, fun a x e _ => keep_new h a x e, fun a ha => by
    cases e : H a with
    | none => exact absurd e ha
    | some x => rw [keep_new h a x e]; simp, fun _ h => .inl h, fun _ _ _ h => h⟩
/-- a new thing, frozen -/
theorem step_newF {p : Addr} {o : HO} (R : Rel T en g s σ (upd H p o)) (h : H p = none) : Step g H { g with W := upd g.W p o } (upd H p o) :=
  ⟨frz_W R upd_same, Pre.rfl', rfl, (step_new (g := g) h).kp, (step_new (g := g) h).tr, fun _ h => .inl h, fun a e _ w => by
    show upd g.W p o a = none
    rw [upd_ne (fun z => e (by rw [z]; exact h))]; exact w⟩
/-- what an operation gave: the ghosts behind it -/
theorem Nw.ret {v : V} {H' : L2.Hp} (R : Rel T en g s σ H) (n : Nw T g.W g.io H r v H') : ∃ g', Rel T en g' s σ H' ∧ Step g H g' H' ∧ RetR T g' H H' esc r v := by
  cases n with
  | same h =>
    refine ⟨g, R, Step.rfl', ?_⟩
    unfold RetR
    simp only [Bool.false_eq_true, if_false]
    split
    · exact h
    · exact .inl h
  | tup hp hr =>
    rename_i ds vs p
    have R1 := R.new (o := .tup vs) hp
    have R2 := R1.frz (a := p) (o := .tup vs) upd_same (new_0 R hp) (new_io R hp) (own_ne R (new_oa R hp))
    have S2 := step_newF (o := .tup vs) R1 hp
    refine ⟨_, R2, S2, ?_⟩
    have rep : Rep T (upd g.W p (.tup vs)) g.io (.tup ds) (.ref p) := by
      simp only [Rep]
      exact ⟨p, vs, rfl, .inl (.inl upd_same), hr.mono S2.W Pre.rfl'⟩
    unfold RetR
    simp only [Bool.false_eq_true, if_false]
    split
    · exact rep
    · exact .inl rep
  | lst hp hr =>
    rename_i ds vs p
    refine ⟨g, R.new hp, step_new hp, ?_⟩
    unfold RetR
    simp only [if_true]
    exact ⟨p, rfl, ⟨vs, upd_same, hr⟩, new_W R hp, hp, new_io R hp⟩
  | dic hp hd hk hr =>
    rename_i ks ds kv vs o p
    refine ⟨g, R.new hp, step_new hp, ?_⟩
    unfold RetR
    simp only [if_true]
    exact ⟨p, rfl, ⟨kv, vs, hd, hk, hr⟩, new_W R hp, hp, new_io R hp⟩
theorem RetR.view {W : L2.Hp} (h : RetR T g H H1 false r v) : View T g.W g.io H1 r.d v := by
  unfold RetR at h
  split at h
  · obtain ⟨a, e, h1, _⟩ := h; exact .inr ⟨a, e, h1⟩
  · simp only [Bool.false_eq_true, if_false] at h; exact h.view
/-- it still stands behind what an expression did -/
theorem RetR.sees (h : RetR T g1 H H1 false r v) : Sees T g1.W g1.io H1 r.d v := by
  unfold RetR at h
  split at h
  · obtain ⟨a, e, h1, h2, h3, h4⟩ := h; exact .inr ⟨a, e, h4, h1⟩
  · simpa only [Bool.false_eq_true, if_false] using h
theorem Sees.step {d : D} (h : Sees T g.W g.io H d v) (S : Step g H g1 H1) : Sees T g1.W g1.io H1 d v := by
  rcases h with h | ⟨a, e, n, h⟩
  · exact .inl (h.mono S.W S.io)
  · refine .inr ⟨a, e, fun m => ?_, h.mono S.W S.io fun o ho => S.kp a o ho n⟩
    rcases S.ioF a m with z | z
    · exact n z
    · exact h.there z
/-- a shared one's content -/
theorem view_deref {d : D} (R : Rel T en g s σ H) (h : View T g.W g.io H d v) : View T g.W g.io H (deref s.hp d) v := by
  cases d with
  | ref i =>
    rcases h with h | ⟨a, _, h⟩
    · simp only [Rep] at h
      obtain ⟨a, e, h⟩ := h
      have hi : i < s.hp.length := by rw [R.mem]; exact (List.getElem?_eq_some_iff.mp h).1
      obtain ⟨b, e1, e2, _⟩ := R.heap i _ (List.getElem?_eq_getElem hi)
      rw [h] at e1; cases e1
      refine .inr ⟨a, e, ?_⟩
      simp only [deref, List.getElem?_eq_getElem hi, Option.getD_some]
      exact e2
    · exact h.elim
  | _ => exact h

theorem Rel.st {s' : Sta} (R : Rel T en g s σ H) (h1 : s'.sl = s.sl) (h2 : s'.hp = s.hp) : Rel T en g s' σ H := by
  obtain ⟨a, b⟩ := s
  obtain ⟨a', b'⟩ := s'
  dsimp only at h1 h2
  subst h1 h2
  exact R

/-! ### readings weakened -/
section
variable {X : Cx} {e : Expr}
theorem pe_imp {t t' : TE} (h : PE X e t) (w : ∀ σ H Q, t' σ H Q → t σ H Q) : PE X e t' := ⟨fun pins s σ H Q I q => h.run pins s σ H Q I (w σ H Q q)⟩
theorem pt_imp {t t' : TT} (h : PT X e t) (w : ∀ σ H Q, t' σ H Q → t σ H Q) : PT X e t' := ⟨fun pins s σ H Q I q => h.run pins s σ H Q I (w σ H Q q)⟩
theorem pw_imp {t t' : TT} (h : PW X e t) (w : ∀ σ H Q, t' σ H Q → t σ H Q) : PW X e t' := ⟨fun wh pins s σ H Q I q => h.run wh pins s σ H Q I (w σ H Q q)⟩
theorem pa_imp {es : List Expr} {t t' : TA} (h : PA X es t) (w : ∀ σ H Q, t' σ H Q → t σ H Q) : PA X es t' := ⟨fun pos pins s σ H Q I q => h.run pos pins s σ H Q I (w σ H Q q)⟩
end

/-- a test's reading -/
def tTst (T : Tx) (en : Ent) (Wx : WX) (ev : Sta → Res RV) : TT := fun σ H Q => ∃ g s, Rel T en g s σ H ∧
  OKat T en Wx g H σ ((ev s).bind truth) fun g' H' b s' => Q b H'

/-- an expression's evaluation is sound -/
structure Snd (X : Cx) (T : Tx) (en : Ent) (Wx : WX) (e : Expr) (ev : Bool → Sta → Res RV) : Prop where
  pe : ∀ esc, PE X e (tD T en Wx esc (ev esc))
  pt : PT X e (tTst T en Wx (ev false))
  pw : ∀ op vs pos, e = .BoolOp op vs pos → PW X e (tTst T en Wx (ev false))
theorem truth_ok {Q : Gh → L2.Hp → Bool → Sta → Prop} {o : Res RV} (h : OKat T en Wx g H σ (o.bind truth) Q) :
    OKat T en Wx g H σ o fun g' H' r s' => ∃ b, r.d = .bl b ∧ ∀ g2, Rel T en g2 s' σ H' → Step g' H' g2 H' → Q g2 H' b s' := by
  refine OKat.mono (OKat.bind h) fun g' H' r s' R S q => ?_
  obtain ⟨d, fr⟩ := r
  cases d with
  | bl b => exact ⟨b, rfl, fun g2 R2 S2 => q g2 H' R2 S2⟩
  | _ => exact q.elim
/-- a value as a test -/
theorem pt_of {X : Cx} {e : Expr} {ev : Sta → Res RV} (h : PE X e (tD T en Wx false ev)) (he : ∀ whole, isTrue e X.env whole = (do let v ← whole; standAt e.pos; holding [v] (truthy v))) : PT X e (tTst T en Wx ev) := by
  refine pt_imp (pt_val h he) fun σ H Q ⟨g, s, R, h⟩ => ?_
  refine ⟨g, s, R, OKat.mono (truth_ok h) fun g' H' r s' R' S' ⟨b, e, q⟩ v rv => ?_⟩
  have := rv.view (W := g'.W)
  rw [e] at this
  exact ⟨b, this.bl, q g' R' Step.rfl'⟩
theorem snd_of {X : Cx} {e : Expr} {ev : Bool → Sta → Res RV} (h : ∀ esc, PE X e (tD T en Wx esc (ev esc))) (he : ∀ whole, isTrue e X.env whole = (do let v ← whole; standAt e.pos; holding [v] (truthy v)) := by intro _; rfl)
    (hb : ∀ op vs pos, e ≠ .BoolOp op vs pos := by intro _ _ _ z; cases z) : Snd X T en Wx e ev := ⟨h, pt_of (h false) he, fun op vs pos z => absurd z (hb op vs pos)⟩

/-! ### names, constants -/
theorem sig_lt {i : Nat} {x : Option V} (h : σ[i]? = some x) : i < σ.length := (List.getElem?_eq_some_iff.mp h).1
/-- a slot's own object is frozen -/
theorem Rel.frzS {i : Nat} {d : D} (R : Rel T en g s σ H) (h : look s.sl i = .own d) : ∃ a o g', σ[i]? = some (some (.ref a)) ∧ H a = some o ∧ g' = { g with W := upd g.W a o } ∧
    Rel T en g' { s with sl := put s.sl i (.val d) } σ H ∧ Step g H g' H ∧ Rep T g'.W g'.io d (.ref a) := by
  have hs := R.slot i
  rw [h] at hs
  obtain ⟨a, e, ha, h2, h3, h4⟩ := hs
  have hi : i < s.sl.length := look_lt (by rw [h]; simp)
  cases ho : H a with
  | none => exact absurd ho ha.there
  | some o =>
    -- first the slot is forgotten, then its object frozen
    have R0 : Rel T en g { s with sl := put s.sl i .un } σ H := by
      refine ⟨R.sub, by rw [put_length]; exact R.len, fun j => ?_, fun j k d e b h1 h2 e1 e2 => ?_, R.mem, R.nd, R.heap, R.oaT, R.base, R.oaF, R.ioF, R.tr, R.ioP, R.wn, ⟨fun z => ro_put (R.roF.1 z) (fun _ y => nomatch y), R.roF.2⟩⟩
      · rw [look_put]; split
        · trivial
        · exact R.slot j
      · rw [look_put] at h1 h2
        split at h1
        · cases h1
        · split at h2
          · cases h2
          · exact R.dist j k d e b h1 h2 e1 e2
    have hne : ∀ j d', look (put s.sl i .un) j = .own d' → σ[j]? ≠ some (some (.ref a)) := fun j d' e1 e2 => by
      rw [look_put] at e1
      split at e1
      · cases e1
      · rename_i hn
        have := R.dist i j d d' a h e1 e e2
        exact hn ⟨this, hi⟩
    have R1 := R0.frz (a := a) (o := o) ho (R.oaF a h2) h3 hne
    have rep : Rep T (upd g.W a o) g.io d (.ref a) := by
      have := (ha.mono (W' := upd g.W a o) (io' := g.io) (H' := H) (frz_W R ho) Pre.rfl' fun _ z => z).rep fun o' z => by
        rw [ho] at z; cases z; exact upd_same
      exact this
    refine ⟨a, o, _, e, ho, rfl, ?_, step_frz R ho h2, rep⟩
    refine ⟨R1.sub, by rw [put_length]; exact R.len, fun j => ?_, fun j k d e b h1 h2 e1 e2 => ?_, R1.mem, R1.nd, R1.heap, R1.oaT, R1.base, R1.oaF, R1.ioF, R1.tr, R1.ioP, R1.wn, ⟨fun z => ro_put (R.roF.1 z) (fun _ y => nomatch y), R.roF.2⟩⟩
    · have := R1.slot j
      rw [look_put] at this ⊢
      split
      · rename_i hj
        obtain ⟨rfl, _⟩ := hj
        exact ⟨_, e, rep⟩
      · rename_i hj
        rw [if_neg hj] at this
        exact this
    · rw [look_put] at h1 h2
      split at h1
      · cases h1
      · split at h2
        · cases h2
        · exact R.dist j k d e b h1 h2 e1 e2

theorem nm_ok {i : Nat} {Q : Gh → L2.Hp → RV → Sta → Prop} (R : Rel T en g s σ H) (h : OKat T en Wx g H σ (nmE esc i s) Q) :
    ∃ v r g' s', σ[i]? = some (some v) ∧ Rel T en g' s' σ H ∧ Step g H g' H ∧ RetR T g' H H esc r v ∧ Q g' H r s' := by
  have hs := R.slot i
  unfold nmE at h
  split at h
  · rename_i d e
    rw [e] at hs
    obtain ⟨u, e1, e2⟩ := hs
    refine ⟨u, ⟨d, false⟩, g, s, e1, R, Step.rfl', ?_, h g H R Step.rfl'⟩
    unfold RetR
    simp only [Bool.false_eq_true, if_false]
    split
    · exact e2
    · exact .inl e2
  · rename_i d e
    have hs' := hs
    rw [e] at hs'
    obtain ⟨a, e1, e2, e3, e4, e5⟩ := hs'
    split at h
    · rename_i he
      obtain ⟨b, o, g', f1, f2, f3, f4, f5, f6⟩ := R.frzS e
      refine ⟨.ref b, ⟨d, false⟩, g', _, f1, f4, f5, ?_, h g' H f4 f5⟩
      unfold RetR
      simp only [Bool.false_eq_true, if_false]
      rw [if_pos he]
      exact f6
    · rename_i he
      refine ⟨.ref a, ⟨d, false⟩, g, s, e1, R, Step.rfl', ?_, h g H R Step.rfl'⟩
      unfold RetR
      simp only [Bool.false_eq_true, if_false]
      rw [if_neg he]
      exact .inr ⟨a, rfl, e4, e2⟩
  · rename_i d e
    rw [e] at hs
    obtain ⟨a, e1, e2, e4, _⟩ := hs
    split at h
    · exact h.elim
    · rename_i he
      refine ⟨.ref a, ⟨d, false⟩, g, s, e1, R, Step.rfl', ?_, h g H R Step.rfl'⟩
      unfold RetR
      simp only [Bool.false_eq_true, if_false]
      rw [if_neg he]
      exact .inr ⟨a, rfl, e4, e2⟩
  · exact h.elim
theorem ev_nm {X : Cx} {i : Nat} {x : Str} {pos : Pos} (hN : X.N[i]? = some x) (hv : Vis X.env.scope x) (hd : (x == ("__debug__" : Str)) = false) (hcd : (x == ("__classdict__" : Str)) = false) :
    Snd X T en Wx (.Name x pos) fun esc s => nmE esc i s := by
  refine snd_of fun esc => pe_imp (pe_var hN hv hd hcd) fun σ H Q ⟨g, s, R, h⟩ => ?_
  obtain ⟨v, r, g', s', e, R', S', rr, q⟩ := nm_ok R h
  exact ⟨v, e, q v rr⟩
theorem ev_cst {X : Cx} {e : Expr} {d : D} {v : V} (he : PE X e (tC v)) (hr : ∀ W io, Rep T W io d v) (ht : ∀ whole, isTrue e X.env whole = (do let v ← whole; standAt e.pos; holding [v] (truthy v)))
    (hb : ∀ op vs pos, e ≠ .BoolOp op vs pos) : Snd X T en Wx e fun _ s => .ok ⟨d, false⟩ s := by
  refine snd_of (fun esc => pe_imp he fun σ H Q ⟨g, s, R, h⟩ => ?_) ht hb
  refine h g H R Step.rfl' v ?_
  unfold RetR
  simp only [Bool.false_eq_true, if_false]
  split
  · exact hr _ _
  · exact .inl (hr _ _)

/-! ### operators -/
theorem ret_nw {Q : VK} {o : Option RV} {g0 : Gh} {H0 : L2.Hp} (S : Step g0 H0 g H) (R : Rel T en g s σ H) (h : OKat T en Wx g H σ (ofO o s) fun g' H' r s' => ∀ v, RetR T g' H0 H' esc r v → Q v H') : ∃ rv, o = some rv ∧ ∀ v H', Nw T g.W g.io H rv v H' → Q v H' := by
  cases o with
  | none => exact h.elim
  | some rv =>
    refine ⟨rv, rfl, fun v H' n => ?_⟩
    obtain ⟨g', R', S', rr⟩ := n.ret (esc := esc) R
    exact h g' H' R' S' v (rr.step S)
theorem ev_bin {X : Cx} {a b : Expr} {pos : Pos} {ea eb : Bool → Sta → Res RV} {op : BOp} (hK : X.K = T.K) (ha : Snd X T en Wx a ea) (hb : Snd X T en Wx b eb) :
    Snd X T en Wx (.BinOp a (bopOf op) b pos) fun _ s => (ea false s).bind fun x s => (eb false s).bind fun y s => ofO (binop op (deref s.hp x.d) (deref s.hp y.d)) s := by
  refine snd_of fun esc => pe_imp (pe_op (op_bin hK op) (ha.pe false) (hb.pe false)) fun σ H Q ⟨g, s, R, h⟩ => ?_
  refine ⟨g, s, R, OKat.mono (OKat.bind h) fun g1 H1 r1 s1 R1 S1 h1 x rx => ?_⟩
  refine ⟨g1, s1, R1, OKat.mono (OKat.bind h1) fun g2 H2 r2 s2 R2 S2 h2 y ry => ?_⟩
  obtain ⟨rv, e, q⟩ := ret_nw (S1.trans S2) R2 h2
  exact ⟨g2.W, g2.io, _, _, rv, R2.sub, view_deref R2 (rx.sees.step S2).view, view_deref R2 ry.sees.view, e, q⟩
end
end Ev
end

section
/-! EvB5: more of the expressions. -/
namespace Ev
open PySem PySem.Spec PyProof.Rows L2

section
variable {X : Cx} {T : Tx} {en : Ent} {g g1 : Gh} {H H1 H2 : L2.Hp} {r : RV} {v : V} {σ : L2.St} {s : Sta} {Wx : WX} {esc : Bool}
variable {a b c : Expr} {pos : Pos} {ea eb ec : Bool → Sta → Res RV}

/-! ### truth values -/
theorem rep_bl {b : Bool} {W : L2.Hp} {io : List Addr} : Rep T W io (.bl b) (.bl b) := by simp only [Rep]
theorem retR_rep {d : D} (h : Rep T g.W g.io d v) : RetR T g H H1 esc ⟨d, false⟩ v := by
  unfold RetR
  simp only [Bool.false_eq_true, if_false]
  split
  · exact h
  · exact .inl h
theorem retR_bl {b : Bool} : RetR T g H H1 esc ⟨.bl b, false⟩ (.bl b) := retR_rep rep_bl
/-- a value that must be a truth value -/
theorem bl_of {Q : Gh → L2.Hp → Bool → Sta → Prop} {o : Res RV} (h : OKat T en Wx g H σ (o.bind truth) Q) :
    OKat T en Wx g H σ o fun g' H' r s' => ∀ v, RetR T g' H H' false r v → ∃ b, v = .bl b ∧ r.d = .bl b ∧ Q g' H' b s' := by
  refine OKat.mono (truth_ok h) fun g' H' r s' R S ⟨b, e, q⟩ v rv => ?_
  have := rv.view (W := g'.W)
  rw [e] at this
  exact ⟨b, this.bl, e, q g' R Step.rfl'⟩
theorem Res.bind_assoc {α β γ : Type} (r : Res α) (f : α → Sta → Res β) (k : β → Sta → Res γ) : (r.bind f).bind k = r.bind fun a s => (f a s).bind k := by
  cases r <;> rfl
theorem Res.bind_ok {α β : Type} (a : α) (s : Sta) (k : α → Sta → Res β) : (Res.ok a s).bind k = k a s := rfl
/-- of a test's reading: the value is a truth value -/
theorem truth_in {α : Type} {Q : Gh → L2.Hp → α → Sta → Prop} {r : RV} {k : Bool → Sta → Res α} (h : OKat T en Wx g H σ ((truth r s).bind k) Q) : ∃ b, r.d = .bl b ∧ OKat T en Wx g H σ (k b s) Q := by
  obtain ⟨d, fr⟩ := r
  cases d with
  | bl b => exact ⟨b, rfl, h⟩
  | _ => exact h.elim
theorem ev_not (ha : Snd X T en Wx a ea) : Snd X T en Wx (.UnaryOp .Not a pos) fun _ s => (ea false s).bind fun x s => (truth x s).bind fun b s => .ok ⟨.bl (!b), false⟩ s := by
  refine ⟨fun esc => pe_imp (pe_not (ha.pe false)) fun σ H Q ⟨g, s, R, h⟩ => ?_, ?_, fun op vs pos z => nomatch z⟩
  · refine ⟨g, s, R, OKat.mono (OKat.bind h) fun g1 H1 r1 s1 R1 S1 h1 x rx => ?_⟩
    obtain ⟨b, e, q⟩ := truth_in h1
    have rv := rx.view (W := g1.W)
    rw [e] at rv
    exact ⟨b, rv.bl, q g1 H1 R1 Step.rfl' _ retR_bl⟩
  · refine pt_imp (pt_not ha.pt) fun σ H Q ⟨g, s, R, h⟩ => ?_
    dsimp only at h
    rw [Res.bind_assoc] at h
    refine ⟨g, s, R, OKat.mono (o := (ea false s).bind truth) ?_ fun g1 H1 b s1 R1 S1 h1 => h1⟩
    have h2 : OKat T en Wx g H σ ((ea false s).bind fun x s => (truth x s).bind fun b s => (.ok b s : Res Bool)) fun g' H' b s' => Q (!b) H' := by
      cases z : ea false s with
      | bad => rw [z] at h; exact h
      | exc => rw [z] at h; exact h
      | ok r s1 =>
        rw [z] at h
        obtain ⟨d, fr⟩ := r
        cases d with
        | bl b => exact h
        | _ => exact h
    have e2 : ((ea false s).bind fun x s => (truth x s).bind fun b s => (.ok b s : Res Bool)) = (ea false s).bind truth := by
      cases ea false s with
      | ok r s1 => obtain ⟨d, fr⟩ := r; cases d <;> rfl
      | _ => rfl
    rw [e2] at h2
    exact h2
/-- the tail of and, or -/
structure Tl (X : Cx) (T : Tx) (en : Ent) (Wx : WX) (op : BoolOp) (es : List Expr) (pos : Pos) (ev : Bool → Sta → Res RV) : Prop where
  pe : PE X (.BoolOp op es pos) (tD T en Wx false (ev false))
  pw : PW X (.BoolOp op es pos) (tTst T en Wx (ev false))
theorem tl_one {op : BoolOp} (h : Snd X T en Wx b eb) : Tl X T en Wx op [b] pos eb := ⟨pe_one (h.pe false), by
  cases op with
  | And => exact pw_and1 h.pt
  | Or => exact pw_or1 h.pt⟩
theorem tl_more {op : BoolOp} {es : List Expr} (h : Snd X T en Wx (.BoolOp op es pos) eb) : Tl X T en Wx op es pos eb := ⟨h.pe false, h.pw _ _ _ rfl⟩

abbrev andE (ea eb : Bool → Sta → Res RV) : Bool → Sta → Res RV := fun _ s => (ea false s).bind fun x s => (truth x s).bind fun k s => if k then (eb false s).bind fun y s => (truth y s).bind fun k s => .ok ⟨.bl k, false⟩ s else .ok ⟨.bl false, false⟩ s
abbrev orE (ea eb : Bool → Sta → Res RV) : Bool → Sta → Res RV := fun _ s => (ea false s).bind fun x s => (truth x s).bind fun k s => if k then .ok ⟨.bl true, false⟩ s else (eb false s).bind fun y s => (truth y s).bind fun k s => .ok ⟨.bl k, false⟩ s
theorem truth_self (o : Res RV) : (o.bind fun y s => (truth y s).bind fun k s => (truth ⟨.bl k, false⟩ s : Res Bool)) = o.bind truth := by
  cases o with
  | ok r s1 => obtain ⟨d, fr⟩ := r; cases d <;> rfl
  | _ => rfl
theorem bind_if {α β : Type} (k : Bool) (x y : Res α) (f : α → Sta → Res β) : (if k = true then x else y).bind f = if k = true then x.bind f else y.bind f := by cases k <;> rfl
theorem ev_and {rest : List Expr} (ha : Snd X T en Wx a ea) (hb : Tl X T en Wx .And (b :: rest) pos eb) : Snd X T en Wx (.BoolOp .And (a :: b :: rest) pos) (andE ea eb) := by
  have w : PW X (.BoolOp .And (a :: b :: rest) pos) (tTst T en Wx (andE ea eb false)) := by
    refine pw_imp (pw_and ha.pt hb.pw) fun σ H Q ⟨g, s, R, h⟩ => ?_
    unfold andE at h
    rw [Res.bind_assoc] at h
    refine ⟨g, s, R, ?_⟩
    have h2 : OKat T en Wx g H σ (((ea false s).bind truth).bind fun k s => if k = true then (eb false s).bind truth else .ok false s) fun g' H' b s' => Q b H' := by
      rw [Res.bind_assoc]
      refine (congrArg (fun o => OKat T en Wx g H σ o fun g' H' b s' => Q b H') ?_).mp h
      refine congrArg (fun f => (ea false s).bind f) ?_
      funext x s
      rw [Res.bind_assoc]
      refine congrArg (fun f => (truth x s).bind f) ?_
      funext k s
      cases k with
      | true => simp only [if_true]; simp only [Res.bind_assoc]; exact truth_self _
      | false => rfl
    refine OKat.mono (OKat.bind h2) fun g1 H1 k s1 R1 S1 h1 => ?_
    cases k with
    | true => exact ⟨g1, s1, R1, h1⟩
    | false => exact h1 g1 H1 R1 Step.rfl'
  refine ⟨fun esc => pe_imp (pe_and (ha.pe false) hb.pe) fun σ H Q ⟨g, s, R, h⟩ => ?_, w.pt, fun op vs p z => by cases z; exact w⟩
  refine ⟨g, s, R, OKat.mono (OKat.bind h) fun g1 H1 r1 s1 R1 S1 h1 x rx => ?_⟩
  obtain ⟨k, e, q⟩ := truth_in h1
  have rv := rx.view (W := g1.W)
  rw [e] at rv
  refine ⟨k, rv.bl, ?_⟩
  cases k with
  | true =>
    refine ⟨g1, s1, R1, OKat.mono (OKat.bind q) fun g2 H2 r2 s2 R2 S2 h2 y ry => ?_⟩
    obtain ⟨k2, e2, q2⟩ := truth_in h2
    have rv2 := ry.view (W := g2.W)
    rw [e2] at rv2
    rw [rv2.bl]
    exact q2 g2 H2 R2 Step.rfl' _ retR_bl
  | false => exact q g1 H1 R1 Step.rfl' _ retR_bl
theorem ev_or {rest : List Expr} (ha : Snd X T en Wx a ea) (hb : Tl X T en Wx .Or (b :: rest) pos eb) : Snd X T en Wx (.BoolOp .Or (a :: b :: rest) pos) (orE ea eb) := by
  have w : PW X (.BoolOp .Or (a :: b :: rest) pos) (tTst T en Wx (orE ea eb false)) := by
    refine pw_imp (pw_or ha.pt hb.pw) fun σ H Q ⟨g, s, R, h⟩ => ?_
    unfold orE at h
    rw [Res.bind_assoc] at h
    refine ⟨g, s, R, ?_⟩
    have h2 : OKat T en Wx g H σ (((ea false s).bind truth).bind fun k s => if k = true then .ok true s else (eb false s).bind truth) fun g' H' b s' => Q b H' := by
      rw [Res.bind_assoc]
      refine (congrArg (fun o => OKat T en Wx g H σ o fun g' H' b s' => Q b H') ?_).mp h
      refine congrArg (fun f => (ea false s).bind f) ?_
      funext x s
      rw [Res.bind_assoc]
      refine congrArg (fun f => (truth x s).bind f) ?_
      funext k s
      cases k with
      | false => simp only [Bool.false_eq_true, if_false]; simp only [Res.bind_assoc]; exact truth_self _
      | true => rfl
    refine OKat.mono (OKat.bind h2) fun g1 H1 k s1 R1 S1 h1 => ?_
    cases k with
    | false => exact ⟨g1, s1, R1, h1⟩
    | true => exact h1 g1 H1 R1 Step.rfl'
  refine ⟨fun esc => pe_imp (pe_or (ha.pe false) hb.pe) fun σ H Q ⟨g, s, R, h⟩ => ?_, w.pt, fun op vs p z => by cases z; exact w⟩
  refine ⟨g, s, R, OKat.mono (OKat.bind h) fun g1 H1 r1 s1 R1 S1 h1 x rx => ?_⟩
  obtain ⟨k, e, q⟩ := truth_in h1
  have rv := rx.view (W := g1.W)
  rw [e] at rv
  refine ⟨k, rv.bl, ?_⟩
  cases k with
  | false =>
    refine ⟨g1, s1, R1, OKat.mono (OKat.bind q) fun g2 H2 r2 s2 R2 S2 h2 y ry => ?_⟩
    obtain ⟨k2, e2, q2⟩ := truth_in h2
    have rv2 := ry.view (W := g2.W)
    rw [e2] at rv2
    rw [rv2.bl]
    exact q2 g2 H2 R2 Step.rfl' _ retR_bl
  | true => exact q g1 H1 R1 Step.rfl' _ retR_bl

/-! ### x if c else y; - x -/
theorem isTrue_ife {whole : Sem Value} : isTrue (.IfExp c a b pos) X.env whole = (do if ← isTrue c X.env (eval c X.env) then isTrue a X.env (eval a X.env) else isTrue b X.env (eval b X.env)) := rfl
theorem ev_ife (hc : Snd X T en Wx c ec) (ha : Snd X T en Wx a ea) (hb : Snd X T en Wx b eb) :
    Snd X T en Wx (.IfExp c a b pos) fun esc s => (ec false s).bind fun x s => (truth x s).bind fun k s => if k then ea esc s else eb esc s := by
  have assoc : ∀ esc s, ((ec false s).bind fun x s => (truth x s).bind fun k s => if k = true then ea esc s else eb esc s) = ((ec false s).bind truth).bind fun k s => if k = true then ea esc s else eb esc s := fun esc s => by
    rw [Res.bind_assoc]
  refine ⟨fun esc => pe_imp (pe_ifExp hc.pt (ha.pe esc) (hb.pe esc)) fun σ H Q ⟨g, s, R, h⟩ => ?_, ?_, fun op vs pos z => nomatch z⟩
  · dsimp only at h
    rw [assoc] at h
    refine ⟨g, s, R, OKat.mono (OKat.bind h) fun g1 H1 k s1 R1 S1 h1 => ?_⟩
    have h2 : OKat T en Wx g1 H1 σ (if k = true then ea esc s1 else eb esc s1) fun g' H' r s' => ∀ v, RetR T g' H1 H' esc r v → Q v H' := OKat.mono h1 fun g' H' r s' R' S' q v rv => q v (rv.step S1)
    cases k with
    | true => exact ⟨g1, s1, R1, h2⟩
    | false => exact ⟨g1, s1, R1, h2⟩
  · refine ⟨fun pins s0 σ H Q I hw => ?_⟩
    obtain ⟨g, s, R, h⟩ := hw
    dsimp only at h
    rw [assoc, Res.bind_assoc] at h
    rw [isTrue_ife]
    refine wpAny_bind (thn (hc.pt.run pins s0 σ H (fun k H1 => ∃ g1 s1, Rel T en g1 s1 σ H1 ∧ OKat T en Wx g1 H1 σ ((if k = true then ea false s1 else eb false s1).bind truth) fun g' H' b s' => Q b H') I ⟨g, s, R, ?_⟩) fun k s1 ⟨H1, I1, g1, t1, R1, h1⟩ => ?_)
    · exact OKat.mono (OKat.bind h) fun g1 H1 k s1 R1 S1 h1 => ⟨g1, s1, R1, h1⟩
    · cases k with
      | true => exact ha.pt.run pins s1 σ H1 Q I1 ⟨g1, t1, R1, h1⟩
      | false => exact hb.pt.run pins s1 σ H1 Q I1 ⟨g1, t1, R1, h1⟩
theorem ev_neg (ha : Snd X T en Wx a ea) : Snd X T en Wx (.UnaryOp .USub a pos) fun _ s => (ea false s).bind fun x s => match x.d with
    | .int i => .ok ⟨.int (-i), false⟩ s
    | _ => .bad := by
  refine snd_of fun esc => pe_imp (pe_un un_neg (ha.pe false)) fun σ H Q ⟨g, s, R, h⟩ => ?_
  refine ⟨g, s, R, OKat.mono (OKat.bind h) fun g1 H1 r1 s1 R1 S1 h1 x rx => ?_⟩
  obtain ⟨d, fr⟩ := r1
  cases d with
  | int i =>
    have rv := rx.view (W := g1.W)
    exact ⟨i, rv.int, h1 g1 H1 R1 Step.rfl' _ (retR_rep (by simp only [Rep]))⟩
  | _ => exact h1.elim

/-! ### comparisons -/
theorem ev_cmp {op : COp} (hK : X.K = T.K) (hu : X.A.units + 200 < cLine) (ha : Snd X T en Wx a ea) (hb : Snd X T en Wx b eb) (hm : behindInMarks (copOf op) b = false) :
    Snd X T en Wx (.Compare a [copOf op] [b] pos) fun _ s => (ea false s).bind fun x s => (eb false s).bind fun y s => (ofO (cmpop op (deref s.hp x.d) (deref s.hp y.d)) s).bind fun k s => .ok ⟨.bl k, false⟩ s := by
  have main : ∀ {esc : Bool} {Q : VK} {σ : L2.St} {H : L2.Hp} {g : Gh} {s : Sta}, Rel T en g s σ H →
      OKat T en Wx g H σ ((ea false s).bind fun x s => (eb false s).bind fun y s => (ofO (cmpop op (deref s.hp x.d) (deref s.hp y.d)) s)) (fun g' H' k s' => Q (.bl k) H') → tOp (rC T op) (tD T en Wx false (ea false)) (tD T en Wx false (eb false)) σ H Q := fun {esc Q σ H g s} R h => by
    refine ⟨g, s, R, OKat.mono (OKat.bind h) fun g1 H1 r1 s1 R1 S1 h1 x rx => ?_⟩
    refine ⟨g1, s1, R1, OKat.mono (OKat.bind h1) fun g2 H2 r2 s2 R2 S2 h2 y ry => ?_⟩
    cases e : cmpop op (deref s2.hp r1.d) (deref s2.hp r2.d) with
    | none => rw [e] at h2; exact h2.elim
    | some k =>
      rw [e] at h2
      exact ⟨g2.W, g2.io, _, _, k, R2.sub, view_deref R2 (rx.sees.step S2).view, view_deref R2 ry.sees.view, e, h2 g2 H2 R2 Step.rfl'⟩
  refine ⟨fun esc => pe_imp (pe_cmpR (op_cmp hK hu op) (ha.pe false) (hb.pe false) hm) fun σ H Q ⟨g, s, R, h⟩ => ?_, pt_imp (pt_cmpR (op_cmp hK hu op) (ha.pe false) (hb.pe false) hm) fun σ H Q ⟨g, s, R, h⟩ => ?_, fun _ _ _ z => nomatch z⟩
  · refine main (esc := esc) R ?_
    have h2 : OKat T en Wx g H σ (((ea false s).bind fun x s => (eb false s).bind fun y s => ofO (cmpop op (deref s.hp x.d) (deref s.hp y.d)) s).bind fun k s => .ok ⟨.bl k, false⟩ s) fun g' H' r s' => ∀ v, RetR T g' H H' esc r v → Q v H' := by
      rw [Res.bind_assoc]; simp only [Res.bind_assoc]; exact h
    exact OKat.mono (OKat.bind h2) fun g1 H1 k s1 R1 S1 q => q g1 H1 R1 Step.rfl' _ retR_bl
  · refine main (esc := false) R ?_
    have h2 : OKat T en Wx g H σ (((ea false s).bind fun x s => (eb false s).bind fun y s => ofO (cmpop op (deref s.hp x.d) (deref s.hp y.d)) s).bind fun k s => .ok k s) fun g' H' b s' => Q b H' := by
      dsimp only at h
      simp only [Res.bind_assoc] at h ⊢
      exact h
    exact OKat.mono (OKat.bind h2) fun g1 H1 k s1 R1 S1 q => ⟨k, rfl, q g1 H1 R1 Step.rfl'⟩
end
end Ev
end

section
/-! EvB6: argument lists, displays, calls. -/
namespace Ev
open PySem PySem.Spec PyProof.Rows L2

/-- several, as H is now -/
def SeesL (T : Tx) (W : L2.Hp) (io : List Addr) (H : L2.Hp) : List D → List V → Prop
  | [], vs => vs = []
  | d :: ds, vs => ∃ v r, vs = v :: r ∧ Sees T W io H d v ∧ SeesL T W io H ds r
section
variable {X : Cx} {T : Tx} {en : Ent} {g g1 : Gh} {H H1 H2 : L2.Hp} {r : RV} {v : V} {σ : L2.St} {s : Sta} {Wx : WX} {esc : Bool}
variable {a b c : Expr} {pos : Pos} {ea eb ec : Bool → Sta → Res RV}

theorem SeesL.step : ∀ {ds : List D} {vs : List V}, SeesL T g.W g.io H ds vs → Step g H g1 H1 → SeesL T g1.W g1.io H1 ds vs
  | [], vs, h, _ => by simpa only [SeesL] using h
  | d :: ds, vs, h, S => by
    simp only [SeesL] at h ⊢
    obtain ⟨v, r, e, h1, h2⟩ := h
    exact ⟨v, r, e, h1.step S, SeesL.step h2 S⟩

/-- a value that escapes: it is frozen -/
theorem esc_rep {g0 : Gh} {H0 : L2.Hp} (R : Rel T en g s σ H) (S : Step g0 H0 g H) (R0 : Rel T en g0 s σ H0 ∨ ∃ s0, Rel T en g0 s0 σ H0) (h : RetR T g H0 H true r v) : ∃ g', Rel T en g' s σ H ∧ Step g0 H0 g' H ∧ Rep T g'.W g'.io r.d v ∧ (∀ {d v}, Rep T g.W g.io d v → Rep T g'.W g'.io d v) := by
  unfold RetR at h
  split at h
  · obtain ⟨a, e, h1, h2, h3, h4⟩ := h
    obtain ⟨s0, R0⟩ : ∃ s0, Rel T en g0 s0 σ H0 := R0.elim (fun h => ⟨_, h⟩) id
    cases ho : H a with
    | none => exact absurd ho h1.there
    | some o =>
      have noa : a ∉ g.oa := by rw [S.oa]; exact new_oa R0 h3
      refine ⟨_, R.frz ho (new_0 R0 h3) h4 (own_ne R noa), ⟨sameTr S.W (frz_W R ho), S.io, S.oa, S.kp, S.tr, S.ioF, fun b eb n w => ?_⟩, ?_, fun z => z.mono (frz_W R ho) Pre.rfl'⟩
      · show upd g.W a o b = none
        rw [upd_ne (fun z => eb (by rw [z]; exact h3))]
        exact S.wn b eb n w
      rw [e]
      refine (h1.mono (frz_W R ho) Pre.rfl' fun _ z => z).rep fun o' z => ?_
      rw [ho] at z; cases z; exact upd_same
  · simp only [if_true] at h
    exact ⟨g, R, S, h, fun z => z⟩

/-- arguments that escape -/
theorem pa_evalEs_nil : PA X [] (tDL T en Wx fun s => .ok [] s) :=
  pa_imp pa_nil fun σ H Q ⟨g, s, R, h⟩ => h g H R Step.rfl' [] RepL.nil
theorem pa_evalEs_cons {es : List Expr} {el : Sta → Res (List D)} (ha : Snd X T en Wx a ea) (hr : PA X es (tDL T en Wx el)) (hs : starEach (a :: es) X.env = (false, eval a X.env) :: starEach es X.env) :
    PA X (a :: es) (tDL T en Wx fun s => (ea true s).bind fun x s => (el s).bind fun xs s => .ok (x.d :: xs) s) := by
  refine pa_imp (pa_cons (ha.pe true) hr hs) fun σ H Q ⟨g, s, R, h⟩ => ?_
  refine ⟨g, s, R, OKat.mono (OKat.bind' h) fun g1 H1 r1 s1 R1 S1 h1 x rx => ?_⟩
  obtain ⟨g2, R2, S2, rep, _⟩ := esc_rep R1 S1 (.inr ⟨_, R⟩) rx
  refine ⟨g2, s1, R2, OKat.mono (OKat.bind (h1 g2 S2)) fun g3 H3 ds s3 R3 S3 h3 vs rvs => ?_⟩
  exact h3 g3 H3 R3 Step.rfl' (x :: vs) (RepL.cons (rep.mono S3.W S3.io) rvs)

/-- arguments that are looked at alone -/
def tDB (T : Tx) (en : Ent) (Wx : WX) (ev : Sta → Res (List D)) : TA := fun σ H Q => ∃ g s, Rel T en g s σ H ∧
  OKat T en Wx g H σ (ev s) fun g' H' ds s' => ∀ vs, SeesL T g'.W g'.io H' ds vs → Q vs H'
theorem pa_evalBs_nil : PA X [] (tDB T en Wx fun s => .ok [] s) :=
  pa_imp pa_nil fun σ H Q ⟨g, s, R, h⟩ => h g H R Step.rfl' [] (by simp only [SeesL])
theorem pa_evalBs_cons {es : List Expr} {el : Sta → Res (List D)} (ha : Snd X T en Wx a ea) (hr : PA X es (tDB T en Wx el)) (hs : starEach (a :: es) X.env = (false, eval a X.env) :: starEach es X.env) :
    PA X (a :: es) (tDB T en Wx fun s => (ea false s).bind fun x s => (el s).bind fun xs s => .ok (x.d :: xs) s) := by
  refine pa_imp (pa_cons (ha.pe false) hr hs) fun σ H Q ⟨g, s, R, h⟩ => ?_
  refine ⟨g, s, R, OKat.mono (OKat.bind h) fun g1 H1 r1 s1 R1 S1 h1 x rx => ?_⟩
  refine ⟨g1, s1, R1, OKat.mono (OKat.bind h1) fun g3 H3 ds s3 R3 S3 h3 vs rvs => ?_⟩
  exact h3 g3 H3 R3 Step.rfl' (x :: vs) (by simp only [SeesL]; exact ⟨x, vs, rfl, rx.sees.step S3, rvs⟩)

/-! ### displays -/
theorem ev_tup {es : List Expr} {k : Nat} {el : Sta → Res (List D)} (h : PA X es (tDL T en Wx el)) (hn : ∀ s ds s', el s = .ok ds s' → ds.length ≤ lim) : Snd X T en Wx (.Tuple es k pos) fun _ s => (el s).bind fun ds s => .ok ⟨.tup ds, false⟩ s := by
  refine snd_of fun esc => pe_imp (pe_tup h) fun σ H Q ⟨g, s, R, h⟩ => ?_
  refine ⟨g, s, R, ?_⟩
  cases e : el s with
  | bad => dsimp only at h; rw [e] at h; exact h
  | exc c ns vs s' => dsimp only at h; rw [e] at h; exact h
  | ok ds s' =>
    dsimp only at h
    rw [e] at h
    intro g1 H1 R1 S1 vs rvs
    refine ⟨by rw [← rvs.length, ← lim_eq]; exact hn s ds s' e, fun p hp => ?_⟩
    obtain ⟨g2, R2, S2, rr⟩ := (Nw.tup (T := T) (W := g1.W) (io := g1.io) hp rvs).ret (esc := esc) R1
    exact h g2 _ R2 (S1.trans S2) _ (rr.step S1)
theorem evalEs_length {P : Prog} {call mk : Nat → List D → Mem → CRes} : ∀ (es : List E) (s : Sta) (ds : List D) (s' : Sta), evalEs P call mk es s = .ok ds s' → ds.length = es.length
  | [], s, ds, s', h => by simp only [evalEs] at h; cases h; rfl
  | e :: es, s, ds, s', h => by
    simp only [evalEs] at h
    cases e1 : evalE P call mk true e s with
    | bad => rw [e1] at h; exact nomatch h
    | exc => rw [e1] at h; exact nomatch h
    | ok r s1 =>
      rw [e1] at h
      simp only [Res.bind] at h
      cases e2 : evalEs P call mk es s1 with
      | bad => rw [e2] at h; exact nomatch h
      | exc => rw [e2] at h; exact nomatch h
      | ok xs s2 =>
        rw [e2] at h
        simp only [Res.ok.injEq] at h
        obtain ⟨rfl, _⟩ := h
        simp [evalEs_length es s1 xs s2 e2]

/-- a shared one comes to be -/
theorem Rel.share {p : Addr} {d : D} (R : Rel T en g s σ H) (hH : At T g.W g.io H p d) (hW : g.W p = none) (h0 : en.H0 p = none) (hio : p ∉ g.io) (hoa : p ∉ g.oa) (hro : ∀ i d', look s.sl i = .ro d' → σ[i]? ≠ some (some (.ref p))) :
    Rel T en { g with io := g.io ++ [p] } { s with hp := s.hp ++ [d] } σ H := by
  have hi : Pre g.io (g.io ++ [p]) := Pre.app
  refine ⟨R.sub, R.len, fun i => ?_, R.dist, by simp [R.mem], ?_, fun i d' e => ?_, R.oaT, R.base, R.oaF, fun a ha => ?_, R.tr, fun a ha => List.mem_append_left _ (R.ioP a ha), R.wn, R.roF⟩
  · refine (R.slot i).mono sameR' hi (fun d b e1 e2 => ?_) (fun d b e1 e2 => ?_) fun dx fs e n => ⟨e, fun m => ?_⟩
    · have hs := R.slot i
      rw [e1] at hs
      obtain ⟨c, e, h1, h2, h3, h4⟩ := hs
      rw [e2] at e; cases e
      refine ⟨fun _ z => z, h2, fun m => ?_, h4⟩
      rcases List.mem_append.mp m with m | m
      · exact h3 m
      · have : b = p := by simpa using m
        exact hoa (this ▸ h2)
    · have hs := R.slot i
      rw [e1] at hs
      obtain ⟨c, e, h1, h2⟩ := hs
      rw [e2] at e; cases e
      refine ⟨fun _ z => z, fun m => ?_, h2.2⟩
      rcases List.mem_append.mp m with m | m
      · exact h2.1 m
      · have : b = p := by simpa using m
        exact hro i d e1 (this ▸ e2)
    · rcases List.mem_append.mp m with m | m
      · exact n m
      · have : dx = p := by simpa using m
        subst this
        cases d with
        | lst => obtain ⟨_, z, _⟩ := hH; rw [e] at z; cases z
        | dic => obtain ⟨_, _, ⟨_, z, _⟩, _⟩ := hH; rw [e] at z; cases z
        | obj => obtain ⟨_, _, z, _⟩ := hH; rw [e] at z; cases z
        | _ => exact hH.elim
  · refine List.nodup_append.mpr ⟨R.nd, by simp, fun a ha b hb => ?_⟩
    have : b = p := by simpa using hb
    subst this
    exact fun z => hio (z ▸ ha)
  · by_cases hl : i < s.hp.length
    · rw [List.getElem?_append_left hl] at e
      obtain ⟨b, e1, e2, e3, e4⟩ := R.heap i d' e
      exact ⟨b, hi _ _ e1, e2.mono sameR' hi fun _ z => z, e3, e4⟩
    · rw [List.getElem?_append_right (Nat.le_of_not_lt hl)] at e
      have h0 : i - s.hp.length = 0 := by
        have := (List.getElem?_eq_some_iff.mp e).1
        simp at this
        omega
      rw [h0] at e
      simp at e
      subst e
      have hl' : i = g.io.length := by rw [← R.mem]; omega
      refine ⟨p, by rw [hl']; simp, hH.mono sameR' hi fun _ z => z, hW, hoa⟩
  · rcases List.mem_append.mp ha with m | m
    · exact R.ioF a m
    · have : a = p := by simpa using m
      subst this
      exact .inr h0
/-- what is newly made: owned by none yet, or shared -/
theorem newV_ok {Q : Gh → L2.Hp → RV → Sta → Prop} {g0 : Gh} {H0 : L2.Hp} {rs : Bool} {d : D} (S : Step g0 H0 g H) (R : Rel T en g s σ H) (h : OKat T en Wx g H σ (newV rs d s) Q) {v : V} {H' : L2.Hp} (n : Nw T g.W g.io H ⟨d, true⟩ v H') :
    ∃ g' r s', Rel T en g' s' σ H' ∧ Step g H g' H' ∧ RetR T g' H H' esc r v ∧ Q g' H' r s' := by
  obtain ⟨g', R', S', rr⟩ := n.ret (esc := false) R
  unfold newV at h
  cases rs with
  | false => exact ⟨g', ⟨d, true⟩, s, R', S', by unfold RetR at rr ⊢; simpa using rr, h g' H' R' S'⟩
  | true =>
    unfold RetR at rr
    simp only [if_true] at rr
    obtain ⟨p, e, h1, h2, h3, h4⟩ := rr
    have R2 := R'.share h1 h2 (new_0 R h3) h4 (by rw [S'.oa]; exact new_oa R h3) fun i d' e1 e2 => by
      have hs := R.slot i
      rw [e1] at hs
      obtain ⟨c, e3, e4, _⟩ := hs
      rw [e2] at e3; cases e3
      exact e4.there h3
    have S2 : Step g H { g' with io := g'.io ++ [p] } H' := ⟨S'.W, Pre.tr S'.io Pre.app, S'.oa, S'.kp, S'.tr, fun a ha => by
      rcases List.mem_append.mp ha with m | m
      · exact S'.ioF a m
      · have : a = p := by simpa using m
        subst this
        exact .inr h3, S'.wn⟩
    refine ⟨_, _, _, R2, S2, ?_, h _ H' R2 S2⟩
    refine retR_rep ?_
    simp only [Rep]
    refine ⟨p, e, ?_⟩
    show (g'.io ++ [p])[s.hp.length]? = some p
    rw [R'.mem]
    simp
theorem ev_lst {es : List Expr} {rs : Bool} {el : Sta → Res (List D)} (h : PA X es (tDL T en Wx el)) (hn : ∀ s ds s', el s = .ok ds s' → ds.length ≤ lim) : Snd X T en Wx (.List es pos) fun _ s => (el s).bind fun ds s => newV rs (.lst ds) s := by
  refine snd_of fun esc => pe_imp (pe_lst h) fun σ H Q ⟨g, s, R, h⟩ => ?_
  refine ⟨g, s, R, ?_⟩
  cases e : el s with
  | bad => dsimp only at h; rw [e] at h; exact h
  | exc c ns vs s' => dsimp only at h; rw [e] at h; exact h
  | ok ds s' =>
    dsimp only at h
    rw [e] at h
    intro g1 H1 R1 S1 vs rvs
    refine ⟨by rw [← rvs.length, ← lim_eq]; exact hn s ds s' e, fun p hp => ?_⟩
    obtain ⟨g2, r, s2, R2, S2, rr, q⟩ := newV_ok (esc := esc) S1 R1 (OKat.step S1 h) (Nw.lst (T := T) (W := g1.W) (io := g1.io) hp rvs)
    exact q _ (rr.step S1)

/-! ### calls -/
/-- what is had of a call's end -/
def CPost (T : Tx) (W : L2.Hp) (io : List Addr) (H : L2.Hp) (but : Addr → Prop) (o : CRes) (Q : VK) (E : XK) : Prop :=
  match o with
  | .ok d fr h' => ∀ W' io' H' v, HRel T W' io' h' H' → CStep W io H W' io' H' but → RetR T ⟨W', io', []⟩ H H' true ⟨d, fr⟩ v → Q v H'
  | .exc c ns ds h' => ∀ W' io' H' dx, HRel T W' io' h' H' → CStep W io H W' io' H' but → ExcR T W' io' H' dx ns ds → E (.ref (T.xa c)) (some dx) H'
  | .bad => False
/-- the promise of a def, by its evaluation -/
def spF (T : Tx) (np : Nat) (call : List D → Mem → CRes) : Sp := fun vs H Q E => vs.length = np ∧ ∃ W io hp ds, HRel T W io hp H ∧ RepL T W io ds vs ∧ CPost T W io H (fun _ => False) (call ds hp) Q E
/-- the promise of __init__, where the new object is a value -/
def spI (T : Tx) (np : Nat) (c : Nat) (mk : List D → Mem → CRes) : Sp := fun vs H Q E => vs.length = np + 1 ∧ ∃ W io hp ds x dx us, vs = .ref x :: us ∧ H x = some (.ins (T.ca c) dx []) ∧ W x = none ∧ x ∉ io ∧ HRel T W io hp H ∧ RepL T W io ds us ∧
  CPost T W io H (fun a => a = x) (asVal (mk ds hp)) (fun v H' => v = .ref x → Q .non H') E
/-- a def's promise, no repr under way around it -/
structure FnG (P : Program) (w : World) (K : PySem.W.Frag) (mg : Str → Option Value) (base : Heap) (CX : CXT) (k : Nat) (f : Addr) (fd : FuncData) (ps : List Str) (sp : Sp) : Prop where
  len : ∀ vs H Q E, sp vs H Q E → vs.length = ps.length
  run : ∀ (A : Around) (outer : List Env) (s : Shared) (H : L2.Hp) (args : Args) (us : List Value) (vs : List V) (Q : VK) (E : XK), A.guards = some [] → Room k A → Env0 P w K mg base A outer s H → BindsTo s fd args (ps.zip us) → Vals vs us → sp vs H Q E →
    codeAny (model P w) A (.call (.ref f) args) (CR CX outer P w H s Q E) s
theorem FnG.of {Pg : Program} {w : World} {K : PySem.W.Frag} {mg : Str → Option Value} {base : Heap} {CX : CXT} {k : Nat} {f : Addr} {fd : FuncData} {ps : List Str} {sp : Sp} (F : FnOk Pg w K mg base CX k f fd ps sp) : FnG Pg w K mg base CX k f fd ps sp :=
  ⟨F.len, fun A outer s H args us vs Q E _ => F.run A outer s H args us vs Q E⟩
theorem FnG.imp {Pg : Program} {w : World} {K : PySem.W.Frag} {mg : Str → Option Value} {base : Heap} {CX : CXT} {k : Nat} {f : Addr} {fd : FuncData} {ps : List Str} {sp sp' : Sp} (F : FnG Pg w K mg base CX k f fd ps sp)
    (h : ∀ vs H Q E, sp' vs H Q E → sp vs H Q E) : FnG Pg w K mg base CX k f fd ps sp' :=
  ⟨fun vs H Q E z => F.len vs H Q E (h _ _ _ _ z), fun A outer s H args us vs Q E hg hr e0 hb r z => F.run A outer s H args us vs Q E hg hr e0 hb r (h _ _ _ _ z)⟩
theorem run_fnG {CX : CXT} {k : Nat} {f : Addr} {fd : FuncData} {ps : List Str} {sp : Sp} {ds : List Value} {dvs : List V} {E : L2.St → XK} {pins : List (Addr × Obj)} {s0 : Shared} {Q : VK} {us : List Value} {vs : List V} (F : FnG X.prog X.w X.K X.mg X.base CX k f fd ps sp) (hg : X.A.guards = some []) (hr : Room k X.A)
    (hb : Binds X.K fd ps ds) (hd : Vals dvs ds) (hx : PassesAt CX X σ (E σ)) (I : Inv X pins σ H s0) (r : Vals vs us) (h : sp (vs ++ dvs) H Q (E σ)) : wpAny (model X.prog X.w) X.A (call (.ref f) us) (EP X pins σ Q) X.xe s0 := by
  have all := r.append hd
  have same : (us ++ ds).length = ps.length := (all.length.symm).trans (F.len _ _ _ _ h)
  refine wpAny_call (codeAny_mono (F.run X.A X.stack s0 H ⟨us, []⟩ (us ++ ds) (vs ++ dvs) Q (E σ) hg hr I.env0 (hb s0 us I.kIn same) all h) fun out s' z => ?_)
  match out, z with
  | .error e, z => exact hx pins H s0 e s' I z
  | .ok (.ret u), z => exact I.after z
  | .ok .next, z => exact z.elim
  | .ok .brk, z => exact z.elim
  | .ok .cont, z => exact z.elim
/-- a def that may be called -/
structure Callee (X : Cx) (a : Addr) (sp : Sp) : Prop where
  ex : ∃ k fd ps ds dvs, FnG X.prog X.w X.K X.mg X.base (L2.CX X.prog X.w) k a fd ps sp ∧ X.A.guards = some [] ∧ Room k X.A ∧ Binds X.K fd ps ds ∧ Vals dvs ds ∧ dvs = []
  kp : PySem.W.keepIn X.K (.ref a) = true

theorem Rel.hrel (R : Rel T en g s σ H) : HRel T g.W g.io s.hp H := ⟨R.sub, R.mem, R.nd, fun i d e => by
  obtain ⟨a, e1, e2, e3, _⟩ := R.heap i d e
  exact ⟨a, e1, e2, e3⟩⟩
/-- behind a call -/
theorem Rel.call {W' : L2.Hp} {io' : List Addr} {H' : L2.Hp} {h' : Mem} (R : Rel T en g s σ H) (h : HRel T W' io' h' H') (S : CStep g.W g.io H W' io' H' fun _ => False) :
    Rel T en ⟨W', io', g.oa⟩ { s with hp := h' } σ H' ∧ Step g H ⟨W', io', g.oa⟩ H' := by
  have kp : ∀ a o, H a = some o → a ∉ g.io → H' a = some o := fun a o e n => S.kp a o e n id
  have nio : ∀ a, H a ≠ none → a ∉ g.io → a ∉ io' := fun a h n m => (S.ioF a m).elim n h
  refine ⟨⟨h.sub, R.len, fun i => ?_, R.dist, h.mem, h.nd, fun i d e => ?_, fun a ha => S.tr a (R.oaT a ha), fun a o e n => ?_, R.oaF, fun a ha => ?_, fun a ha => S.tr a (R.tr a ha), fun a ha => S.sI.mem (R.ioP a ha), fun a e1 e2 => S.wn a (R.tr a e1) id (R.wn a e1 e2), R.roF⟩, ⟨S.sW, S.sI, rfl, kp, S.tr, S.ioF, fun a e _ w => S.wn a e id w⟩⟩
  · refine (R.slot i).mono S.sW S.sI (fun d b e1 e2 => ?_) (fun d b e1 e2 => ?_) fun dx fs e n => ⟨kp dx _ e n, nio dx (by rw [e]; simp) n⟩
    · have hs := R.slot i
      rw [e1] at hs
      obtain ⟨c, e, h1, h2, h3, h4⟩ := hs
      rw [e2] at e; cases e
      exact ⟨fun o z => kp b o z h3, h2, nio b h1.there h3, S.wn b h1.there id h4⟩
    · have hs := R.slot i
      rw [e1] at hs
      obtain ⟨c, e, h1, h2⟩ := hs
      rw [e2] at e; cases e
      exact ⟨fun o z => kp b o z h2.1, nio b h1.there h2.1, h2.2⟩
  · obtain ⟨a, e1, e2, e3⟩ := h.heap i d e
    refine ⟨a, e1, e2, e3, fun m => ?_⟩
    rcases S.ioF a (List.mem_of_getElem? e1) with z | z
    · obtain ⟨j, ej⟩ := List.getElem?_of_mem z
      have hj : j < s.hp.length := by rw [R.mem]; exact (List.getElem?_eq_some_iff.mp ej).1
      obtain ⟨b, f1, _, _, f4⟩ := R.heap j _ (List.getElem?_eq_getElem hj)
      rw [ej] at f1; cases f1
      exact f4 m
    · exact R.oaT a m z
  · have := R.base a o e n
    refine kp a o this fun m => ?_
    rcases R.ioF a m with z | z
    · exact n z
    · rw [e] at z; cases z
  · rcases S.ioF a ha with z | z
    · exact R.ioF a z
    · exact .inr (new_0 R z)
theorem RetR.gh {W' : L2.Hp} {io' oa oa' : List Addr} (h : RetR T ⟨W', io', oa⟩ H H1 esc r v) : RetR T ⟨W', io', oa'⟩ H H1 esc r v := h
theorem RetR.of_esc (h : RetR T g H H1 true r v) : RetR T g H H1 esc r v := by
  unfold RetR at h ⊢
  split
  · rename_i e; rw [if_pos e] at h; exact h
  · rename_i e
    rw [if_neg e, if_pos rfl] at h
    split
    · exact h
    · exact .inl h
/-- a call in its place -/
theorem cpost_of {Q : VK} {o : CRes} {g0 : Gh} {H0 : L2.Hp} (R : Rel T en g s σ H) (S : Step g0 H0 g H) (h : OKat T en Wx g H σ (ofC o s) fun g' H' r s' => ∀ v, RetR T g' H0 H' esc r v → Q v H') :
    CPost T g.W g.io H (fun _ => False) o Q fun c d H' => Wx c d σ H' := by
  cases o with
  | bad => exact h
  | ok d fr h' =>
    intro W' io' H' v hr cs rr
    obtain ⟨R', S'⟩ := R.call hr cs
    exact h _ H' R' S' v (((rr.gh (oa' := g.oa)).step S).of_esc)
  | exc c ns ds h' =>
    intro W' io' H' dx hr cs ex
    obtain ⟨R', S'⟩ := R.call hr cs
    exact h _ H' dx R' S' ex

theorem passW (tk : Takes X Wx) (σ : L2.St) : PassesAt (L2.CX X.prog X.w) X σ (fun c d H => Wx c d σ H) := passAt tk σ
/-- a def called, the arguments evaluated -/
theorem run_callee {pins : List (Addr × Obj)} {s0 : Shared} {Q : VK} {us : List Value} {vs : List V} {f : Addr} {sp : Sp} (F : Callee X f sp) (tk : Takes X Wx) (I : Inv X pins σ H s0) (r : Vals vs us) (h : sp vs H Q fun c d H' => Wx c d σ H') :
    wpAny (model X.prog X.w) X.A (call (.ref f) us) (EP X pins σ Q) X.xe s0 := by
  obtain ⟨k, fd, ps, ds, dvs, F1, hg, hr, hb, hd, e⟩ := F.ex
  subst e
  exact run_fnG (E := fun σ c d H => Wx c d σ H) F1 hg hr hb hd (passW tk σ) I r (by rw [List.append_nil]; exact h)

/-- a def's name -/
structure Called (X : Cx) (x : Str) (f : Addr) : Prop where
  gl : Gl X x
  mg : X.mg x = some (.ref f)
  nd : (x == ("__debug__" : Str)) = false
/-- no star among them -/
def plainArgs : List Expr → Bool
  | [] => true
  | .Starred _ _ :: _ => false
  | _ :: r => plainArgs r
theorem plainArgs_tl {e : Expr} {es : List Expr} (h : plainArgs (e :: es) = true) : plainArgs es = true := by
  cases e <;> first | (exfalso; cases h; done) | exact h
theorem star_cons {env : Env} {e : Expr} {es : List Expr} (h : plainArgs (e :: es) = true) : starEach (e :: es) env = (false, eval e env) :: starEach es env := by
  cases e <;> first | (exfalso; cases h; done) | rfl
theorem star_none {env : Env} {p : Pos} : ∀ {es : List Expr}, plainArgs es = true → (backTo p (starEach es env)).any (·.1) = false
  | [], _ => rfl
  | e :: es, h => by
    rw [star_cons h]
    show (false || (backTo p (starEach es env)).any (·.1)) = false
    rw [star_none (plainArgs_tl h)]; rfl
theorem pe_named {x : Str} {f : Addr} {sp : Sp} {p : Pos} {e : Expr} {es : List Expr} {t : TA} (C : Called X x f) (F : Callee X f sp) (tk : Takes X Wx) (ha : PA X (e :: es) t) (hp : plainArgs (e :: es) = true) :
    PE X (.Call (.Name x p) (e :: es) [] pos) (fun σ H Q => t σ H fun vs H1 => sp vs H1 Q fun c d H' => Wx c d σ H') :=
  ⟨fun pins s0 σ H Q I h => wpAny_Call_Name_kw (ld_glob I C.gl C.mg (PySem.W.callWith_K (h₀ := X.base) I.ok.mod.kin F.kp (thn (ha.run pos pins s0 σ H _ I h) fun us s1 ⟨vs, H1, I1, r, q⟩ => ⟨I1.kIn, run_callee F tk I1 r q⟩) (star_cons hp) (star_none (plainArgs_tl hp))) C.nd)⟩
theorem pe_named0 {x : Str} {f : Addr} {sp : Sp} {p : Pos} (C : Called X x f) (F : Callee X f sp) (tk : Takes X Wx) :
    PE X (.Call (.Name x p) [] [] pos) (fun σ H Q => sp [] H Q fun c d H' => Wx c d σ H') :=
  ⟨fun pins s0 σ H Q I h => wpAny_Call_Name_kw (ld_glob I C.gl C.mg (PySem.W.callWith_K0 I.kIn F.kp (run_callee (us := []) F tk I .nil h)) C.nd)⟩
/-- the promise at a call's place -/
theorem spF_at {Q : VK} {np : Nat} {cl : List D → Mem → CRes} {ds : List D} {vs : List V} {g0 : Gh} {H0 : L2.Hp} (hn : ds.length = np) (R : Rel T en g s σ H) (S : Step g0 H0 g H) (rv : RepL T g.W g.io ds vs)
    (h : OKat T en Wx g H σ (ofC (cl ds s.hp) s) fun g' H' r s' => ∀ v, RetR T g' H0 H' esc r v → Q v H') : spF T np cl vs H Q fun c d H' => Wx c d σ H' :=
  ⟨by rw [← rv.length]; exact hn, g.W, g.io, s.hp, ds, R.hrel, rv, cpost_of R S h⟩
theorem ev_call {x : Str} {f np : Nat} {p : Pos} {es : List Expr} {el : Sta → Res (List D)} {cl : Nat → List D → Mem → CRes} (C : Called X x (T.fa f)) (F : Callee X (T.fa f) (spF T np (cl f))) (tk : Takes X Wx) (ha : PA X es (tDL T en Wx el)) (hp : plainArgs es = true)
    (hn : ∀ s ds s', el s = .ok ds s' → ds.length = np) (h0 : es = [] → el = fun s => .ok [] s) :
    Snd X T en Wx (.Call (.Name x p) es [] pos) fun _ s => (el s).bind fun ds s => ofC (cl f ds s.hp) s := by
  cases es with
  | nil =>
    have e0 := h0 rfl
    subst e0
    refine snd_of fun esc => pe_imp (pe_named0 C F tk) fun σ H Q ⟨g, s, R, h⟩ => ?_
    exact spF_at (hn s [] s rfl) R Step.rfl' RepL.nil h
  | cons e es =>
    refine snd_of fun esc => pe_imp (pe_named C F tk ha hp) fun σ H Q ⟨g, s, R, h⟩ => ?_
    refine ⟨g, s, R, ?_⟩
    cases z : el s with
    | bad => dsimp only at h; rw [z] at h; exact h
    | exc c ns vs s' => dsimp only at h; rw [z] at h; exact h
    | ok ds s' =>
      dsimp only at h
      rw [z] at h
      intro g1 H1 R1 S1 vs rvs
      exact spF_at (hn s ds s' z) R1 S1 rvs (OKat.step S1 h)

/-! ### methods -/
/-- o.m(..) -/
theorem pe_methW {m : Str} {C : Addr} {f : Addr} {sp : Sp} {o e : Expr} {es : List Expr} {ta : TE} {t : TA} {apos : Pos} {pl : Sem Bool} (he : PE X o ta) (c : Cls X.K C) (hm : Meth X.K C m f) (F : Callee X f sp) (tk : Takes X Wx) (ha : PA X (e :: es) t) (hp : plainArgs (e :: es) = true)
    (ht : eval (.Call (.Attribute o m apos) (e :: es) [] pos) X.env = (do
      let ov ← eval o X.env
      standAt apos.atName
      let (g, first) ← holding [ov] (getMethod ov m pl)
      callWith pos g first (backTo pos (starEach (e :: es) X.env)) (backToKw pos (keywordEach [] X.env)))) :
    PE X (.Call (.Attribute o m apos) (e :: es) [] pos) (fun σ H Q => ta σ H fun x H1 => ∃ a dx fs, x = .ref a ∧ H1 a = some (.ins C dx fs) ∧ fs.lookup m = none ∧ t σ H1 fun vs H2 => sp (x :: vs) H2 Q fun c d H' => Wx c d σ H') := by
  refine ⟨fun pins s0 σ H Q I h => PySem.W.methodCall_KW (pl := pl) (thn (he.run pins s0 σ H _ I h) fun u s1 ⟨x, H1, I1, rx, a, dx, fs, ex, ea, l, q⟩ => ?_) ht⟩
  subst ex
  obtain rfl : u = Value.ref a := rx
  refine getmeth_ok I1 ea c hm l (PySem.W.callWith_K (first := [.ref a]) (h₀ := X.base) I.ok.mod.kin hm.kp (thn (ha.run pos pins s1 σ H1 _ I1 q) fun us s2 ⟨vs, H2, I2, r, q2⟩ => ⟨I2.kIn, ?_⟩) (star_cons hp) (star_none (plainArgs_tl hp)))
  exact run_callee (us := .ref a :: us) (vs := .ref a :: vs) F tk I2 (.cons rfl r) q2
theorem pe_methW0 {m : Str} {C : Addr} {f : Addr} {sp : Sp} {o : Expr} {ta : TE} {apos : Pos} {pl : Sem Bool} (he : PE X o ta) (c : Cls X.K C) (hm : Meth X.K C m f) (F : Callee X f sp) (tk : Takes X Wx)
    (ht : eval (.Call (.Attribute o m apos) [] [] pos) X.env = (do
      let ov ← eval o X.env
      standAt apos.atName
      let (g, first) ← holding [ov] (getMethod ov m pl)
      callWith pos g first (backTo pos (starEach [] X.env)) (backToKw pos (keywordEach [] X.env)))) :
    PE X (.Call (.Attribute o m apos) [] [] pos) (fun σ H Q => ta σ H fun x H1 => ∃ a dx fs, x = .ref a ∧ H1 a = some (.ins C dx fs) ∧ fs.lookup m = none ∧ sp [x] H1 Q fun c d H' => Wx c d σ H') := by
  refine ⟨fun pins s0 σ H Q I h => PySem.W.methodCall_KW (pl := pl) (thn (he.run pins s0 σ H _ I h) fun u s1 ⟨x, H1, I1, rx, a, dx, fs, ex, ea, l, q⟩ => ?_) ht⟩
  subst ex
  obtain rfl : u = Value.ref a := rx
  exact getmeth_ok I1 ea c hm l (PySem.W.callWith_K0 (first := [.ref a]) I1.kIn hm.kp (run_callee (us := [.ref a]) (vs := [.ref a]) F tk I1 (.cons rfl .nil) q))

def isCall0 : Expr → Bool
  | .Call (.Name _ _) [] [] _ => true
  | _ => false
theorem attr_base {o : Expr} {m : Str} {env : Env} {w : Sem Value} (h : isCall0 o = false) : attributeBase o m env w = w := by
  unfold attributeBase
  split
  · exact nomatch h
  · rfl
theorem star_all {env : Env} {p : Pos} : ∀ {es : List Expr}, plainArgs es = true → (backTo p (starEach es env)).all (fun x => !x.1) = true
  | [], _ => rfl
  | e :: es, h => by
    rw [star_cons h]
    show (!false && (backTo p (starEach es env)).all fun x => !x.1) = true
    rw [star_all (plainArgs_tl h)]; rfl
theorem meth_form {o : Expr} {m : Str} {apos : Pos} {es : List Expr} {env : Env} (hb : isCall0 o = false) (hl : (apos.endLine == pos.line) = true) (hp : plainArgs es = true) (hn : es.length < 30) :
    eval (.Call (.Attribute o m apos) es [] pos) env = (do
      let ov ← eval o env
      standAt apos.atName
      let (g, first) ← holding [ov] (getMethod ov m (do return (← importBound o env).getD true))
      callWith pos g first (backTo pos (starEach es env)) (backToKw pos (keywordEach [] env))) := by
  have hf : methodCallForm (es.length + 0) (backTo pos (starEach es env)) (backToKw pos (keywordEach [] env)) = true := by
    unfold methodCallForm
    rw [star_all hp]
    show (true && true && decide (es.length + 0 + 0 < 30)) = true
    rw [decide_eq_true (by omega)]; rfl
  show (do let ov ← attributeBase o m env (eval o env); standAt apos.atName; methodCall o m apos pos env ov (es.length + 0) (backTo pos (starEach es env)) (backToKw pos (keywordEach [] env))) = _
  rw [attr_base hb]
  unfold methodCall
  rw [hf]
  unfold calleeOf methodCallPos
  rw [hl]
  rfl
end
end Ev
end

section
/-! EvB7: methods, fields, new objects, subscripts. -/
namespace Ev
open PySem PySem.Spec PyProof.Rows L2

/-- what is known of the text -/
structure Facts (X : Cx) (T : Tx) (P : Prog) : Prop where
  K : X.K = T.K
  un : X.A.units + 200 < cLine
  inj : ∀ a b, T.fld a = T.fld b → a = b
  fl : ∀ c f, hasF P c f = true → Cls X.K (T.ca c) ∧ NoAttr X.K (T.ca c) (T.fld f)

section
variable {X : Cx} {T : Tx} {P : Prog} {en : Ent} {g g1 : Gh} {H H1 H2 : L2.Hp} {r : RV} {v : V} {σ : L2.St} {s : Sta} {Wx : WX} {esc : Bool}
variable {a b c : Expr} {pos : Pos} {ea eb ec : Bool → Sta → Res RV}

theorem zipF_none {ns : List Nat} {vs : List V} {m : Str} (h : ∀ n, T.fld n ≠ m) : (zipF T ns vs).lookup m = none := by
  unfold zipF
  induction ns generalizing vs with
  | nil => rfl
  | cons n ns ih =>
    cases vs with
    | nil => rfl
    | cons v vs =>
      rw [List.map_cons, List.zip_cons_cons, List.lookup_cons]
      rw [show (m == T.fld n) = false from beq_eq_false_iff_ne.mpr fun e => h n e.symm]
      exact ih
theorem zipF_get (inj : ∀ a b, T.fld a = T.fld b → a = b) {W : L2.Hp} {io : List Addr} {f : Nat} {d : D} : ∀ {ns : List Nat} {ds : List D} {vs : List V}, RepL T W io ds vs → fget ns ds f = some d →
    ∃ v, (zipF T ns vs).lookup (T.fld f) = some v ∧ Rep T W io d v
  | [], _, _, _, h => by simp [fget] at h
  | _ :: _, [], _, _, h => by simp [fget] at h
  | n :: ns, x :: ds, vs, r, h => by
    simp only [RepL] at r
    obtain ⟨v, vs', rfl, r1, r2⟩ := r
    unfold zipF
    rw [List.map_cons, List.zip_cons_cons, List.lookup_cons]
    simp only [fget] at h
    by_cases e : n = f
    · rw [if_pos e] at h
      cases h
      rw [e, beq_self_eq_true]
      exact ⟨v, rfl, r1⟩
    · rw [if_neg e] at h
      rw [show (T.fld f == T.fld n) = false from beq_eq_false_iff_ne.mpr fun z => e (inj _ _ z.symm)]
      exact zipF_get inj r2 h
theorem zipF_put (inj : ∀ a b, T.fld a = T.fld b → a = b) {W : L2.Hp} {io : List Addr} {f : Nat} {d : D} {y : V} (ry : Rep T W io d y) : ∀ {ns : List Nat} {ds : List D} {vs : List V}, ns.length = ds.length → RepL T W io ds vs →
    ∃ vs', putF (T.fld f) y (zipF T ns vs) = zipF T (fput ns ds f d).1 vs' ∧ (fput ns ds f d).1.length = (fput ns ds f d).2.length ∧ RepL T W io (fput ns ds f d).2 vs'
  | [], [], vs, _, r => by
    simp only [RepL] at r
    subst r
    exact ⟨[y], rfl, rfl, RepL.cons ry RepL.nil⟩
  | [], _ :: _, _, h, _ => nomatch h
  | _ :: _, [], _, h, _ => nomatch h
  | n :: ns, x :: ds, vs, hl, r => by
    simp only [RepL] at r
    obtain ⟨v, vs', rfl, r1, r2⟩ := r
    simp only [fput]
    by_cases e : n = f
    · rw [if_pos e]
      refine ⟨y :: vs', ?_, by simpa using hl, RepL.cons ry r2⟩
      subst e
      unfold zipF
      rw [List.map_cons, List.zip_cons_cons, List.zip_cons_cons]
      unfold putF
      simp
    · rw [if_neg e]
      obtain ⟨us, e1, e2, e3⟩ := zipF_put inj ry (ns := ns) (by simpa using hl) r2
      refine ⟨v :: us, ?_, by simpa using e2, RepL.cons r1 e3⟩
      unfold zipF at e1 ⊢
      rw [List.map_cons, List.zip_cons_cons, List.map_cons, List.zip_cons_cons, ← e1]
      have hn : T.fld n ≠ T.fld f := fun z => e (inj _ _ z)
      conv => lhs; unfold putF
      simp [hn]

/-! ### methods -/
abbrev methE (c : Nat) (eo : Bool → Sta → Res RV) (el : Sta → Res (List D)) (cl : List D → Mem → CRes) : Bool → Sta → Res RV := fun _ s => (eo true s).bind fun x s => match deref s.hp x.d with
      | .obj c' _ _ => if c' = c then (el s).bind fun ds s => ofC (cl (x.d :: ds) s.hp) s else .bad
      | _ => .bad
theorem meth_self {m : Str} {c : Nat} {el : Sta → Res (List D)} {cl : List D → Mem → CRes} (hf : ∀ n, T.fld n ≠ m) {Q : Gh → L2.Hp → RV → Sta → Prop} (R : Rel T en g s σ H) (rep : Rep T g.W g.io r.d v)
    (h : OKat T en Wx g H σ (match deref s.hp r.d with
      | .obj c' _ _ => if c' = c then (el s).bind fun ds s => ofC (cl (r.d :: ds) s.hp) s else .bad
      | _ => .bad) Q) : (∃ a dx fs, v = .ref a ∧ H a = some (.ins (T.ca c) dx fs) ∧ fs.lookup m = none) ∧ OKat T en Wx g H σ ((el s).bind fun ds s => ofC (cl (r.d :: ds) s.hp) s) Q := by
  have vw := view_deref R (.inl rep : View T g.W g.io H r.d v)
  split at h
  · rename_i c' ns vs e
    rw [e] at vw
    split at h
    · rename_i ec
      subst ec
      obtain ⟨a, dx, fvs, e1, e2, _⟩ := vw.obj R.sub
      exact ⟨⟨a, dx, _, e1, e2, zipF_none hf⟩, h⟩
    · exact h.elim
  · exact h.elim
theorem ev_meth {m : Str} {c f np : Nat} {o : Expr} {es : List Expr} {apos : Pos} {eo : Bool → Sta → Res RV} {el : Sta → Res (List D)} {cl : Nat → List D → Mem → CRes} (ho : Snd X T en Wx o eo) (hc : Cls X.K (T.ca c)) (hm : Meth X.K (T.ca c) m (T.fa f))
    (F : Callee X (T.fa f) (spF T np (cl f))) (tk : Takes X Wx) (ha : PA X es (tDL T en Wx el)) (hp : plainArgs es = true) (hn : ∀ s ds s', el s = .ok ds s' → ds.length + 1 = np) (h0 : es = [] → el = fun s => .ok [] s)
    (hb : isCall0 o = false) (hl : (apos.endLine == pos.line) = true) (hz : es.length < 30) (hf : ∀ n, T.fld n ≠ m) :
    Snd X T en Wx (.Call (.Attribute o m apos) es [] pos) (methE c eo el (cl f)) := by
  cases es with
  | nil =>
    have e0 := h0 rfl
    subst e0
    refine snd_of fun esc => pe_imp (pe_methW0 (ho.pe true) hc hm F tk (meth_form hb hl rfl (by decide))) fun σ H Q ⟨g, s, R, h⟩ => ?_
    refine ⟨g, s, R, OKat.mono (OKat.bind' h) fun g1 H1 r1 s1 R1 S1 h1 x rx => ?_⟩
    obtain ⟨g2, R2, S2, rep, _⟩ := esc_rep R1 S1 (.inr ⟨_, R⟩) rx
    obtain ⟨⟨a, dx, fs, e1, e2, e3⟩, h2⟩ := meth_self hf R2 rep (h1 g2 S2)
    exact ⟨a, dx, fs, e1, e2, e3, spF_at (ds := [r1.d]) (hn s1 [] s1 rfl) R2 S2 (RepL.cons rep RepL.nil) h2⟩
  | cons e es =>
    refine snd_of fun esc => pe_imp (pe_methW (ho.pe true) hc hm F tk ha hp (meth_form hb hl hp hz)) fun σ H Q ⟨g, s, R, h⟩ => ?_
    refine ⟨g, s, R, OKat.mono (OKat.bind' h) fun g1 H1 r1 s1 R1 S1 h1 x rx => ?_⟩
    obtain ⟨g2, R2, S2, rep, _⟩ := esc_rep R1 S1 (.inr ⟨_, R⟩) rx
    obtain ⟨⟨a, dx, fs, e1, e2, e3⟩, h2⟩ := meth_self hf R2 rep (h1 g2 S2)
    refine ⟨a, dx, fs, e1, e2, e3, g2, s1, R2, ?_⟩
    cases z : el s1 with
    | bad => rw [z] at h2; exact h2
    | exc c ns vs s' => rw [z] at h2; exact h2
    | ok ds s' =>
      rw [z] at h2
      intro g3 H3 R3 S3 vs rvs
      exact spF_at (ds := r1.d :: ds) (hn s1 ds s' z) R3 (S2.trans S3) (RepL.cons (rep.mono S3.W S3.io) rvs) (OKat.step S3 h2)

/-! ### fields -/
theorem fld_ok {f : Nat} (F : Facts X T P) {Q : Gh → L2.Hp → RV → Sta → Prop} (R : Rel T en g s σ H) (vw : View T g.W g.io H r.d v) (h : OKat T en Wx g H σ (fldD P f r s) Q) :
    ∃ a C dx fs w d, v = .ref a ∧ H a = some (.ins C dx fs) ∧ Cls X.K C ∧ NoAttr X.K C (T.fld f) ∧ fs.lookup (T.fld f) = some w ∧ Rep T g.W g.io d w ∧ Q g H ⟨d, false⟩ s := by
  have vd := view_deref R vw
  unfold fldD at h
  split at h
  · rename_i c ns vs e
    rw [e] at vd
    split at h
    · rename_i hf
      obtain ⟨a, dx, fvs, e1, e2, _, e4⟩ := vd.obj R.sub
      obtain ⟨k1, k2⟩ := F.fl c f hf
      cases z : fget ns vs f with
      | none => rw [z] at h; exact h.elim
      | some d =>
        rw [z] at h
        obtain ⟨w, l, rw'⟩ := zipF_get F.inj e4 z
        exact ⟨a, _, dx, _, w, d, e1, e2, k1, k2, l, rw', h g H R Step.rfl'⟩
    · exact h.elim
  · exact h.elim
theorem ev_fld {f : Nat} (F : Facts X T P) (ha : Snd X T en Wx a ea) (hb : isCall0 a = false) : Snd X T en Wx (.Attribute a (T.fld f) pos) fun _ s => (ea false s).bind (fldD P f) := by
  refine snd_of fun esc => pe_imp (pe_fld (ha.pe false) (attr_base hb)) fun σ H Q ⟨g, s, R, h⟩ => ?_
  refine ⟨g, s, R, OKat.mono (OKat.bind h) fun g1 H1 r1 s1 R1 S1 h1 x rx => ?_⟩
  obtain ⟨a, C, dx, fs, w, d, e1, e2, e3, e4, e5, e6, q⟩ := fld_ok F R1 (rx.view (W := g1.W)) h1
  exact ⟨a, C, dx, fs, w, e1, e2, e3, e4, e5, q w (retR_rep e6)⟩

/-! ### a subscript -/
theorem ixOf_ixN (n : Nat) (i : Int) : ixOf n i = ixN n i := by
  unfold ixOf ixN
  split
  · rfl
  · by_cases h : 0 ≤ i + n
    · rw [if_pos h, if_pos (by omega)]
    · rw [if_neg h, if_neg (by omega)]
def isSlice : Expr → Bool
  | .Slice _ _ _ _ => true
  | _ => false
theorem plainIx {b : Expr} (h : isSlice b = false) : PlainIx b := fun o i => by
  cases b <;> first | (exfalso; cases h; done) | rfl
def rIxD : R2 := fun x y H Q => ∃ a v, x = .ref a ∧ DGet H a y (some v) ∧ Q v H
theorem ix_dic (hu : X.A.units + 200 < cLine) : IxR X rIxD := by
  intro value slice pins s0 σ H x y v u Q I rx ry h hs
  obtain ⟨a, w, rfl, gt, q⟩ := h
  cases rx
  exact tail_any (dict_typeIs I gt) PySem.F.slot_dict_getitem.lookup (d_getItem (by omega) I gt ry fun w' s' I' r => ⟨w, H, I', r, q⟩) hs
/-- an item, by what is there -/
def rSub (T : Tx) : R2 := fun x y H Q => rIxL T.K x y H Q ∨ rIxT T.K x y H Q ∨ rIxS x y H Q ∨ rIxD x y H Q
theorem ix_sub (F : Facts X T P) : IxR X (rSub T) := by
  have h := (ix_list (X := X)).or ((ix_tup (X := X)).or ((ix_str (X := X)).or (ix_dic F.un)))
  rw [F.K] at h
  exact h
def subD (x y : RV) (s : Sta) : Res RV := match deref s.hp x.d, y.d with
    | .lst xs, .int i => ofO (((ixOf xs.length i).bind fun k => xs[k]?).map fun d => ⟨d, false⟩) s
    | .tup xs, .int i => ofO (((ixOf xs.length i).bind fun k => xs[k]?).map fun d => ⟨d, false⟩) s
    | .str cs, .int i => ofO (((ixOf cs.length i).bind fun k => cs[k]?).map fun c => ⟨.str [c], false⟩) s
    | .scr xs, .int i => ofO (((ixOf xs.length i).bind fun k => xs[k]?).map fun n => ⟨.int n, false⟩) s
    | .dic ks vs, k => if D.keyed k then ofO ((dfind ks vs k).map fun d => ⟨d, false⟩) s else .bad
    | _, _ => .bad
theorem repL_at {W : L2.Hp} {io : List Addr} {ds : List D} {vs : List V} {i : Int} {d : D} (r : RepL T W io ds vs) (h : ((ixOf ds.length i).bind fun k => ds[k]?) = some d) : ∃ v, atI vs i = some v ∧ Rep T W io d v := by
  rw [ixOf_ixN, r.length] at h
  unfold atI
  cases e : ixN vs.length i with
  | none => rw [e] at h; exact nomatch h
  | some k =>
    rw [e] at h
    exact r.get h
theorem ev_sub (F : Facts X T P) (ha : Snd X T en Wx a ea) (hb : Snd X T en Wx b eb) (hs : isSlice b = false) :
    Snd X T en Wx (.Subscript a b pos) fun _ s => (ea false s).bind fun x s => (eb false s).bind fun y s => subD x y s := by
  refine snd_of fun esc => pe_imp (pe_ix (ix_sub F) (ha.pe false) (hb.pe false) (plainIx hs)) fun σ H Q ⟨g, s, R, h⟩ => ?_
  refine ⟨g, s, R, OKat.mono (OKat.bind h) fun g1 H1 r1 s1 R1 S1 h1 x rx => ?_⟩
  refine ⟨g1, s1, R1, OKat.mono (OKat.bind h1) fun g2 H2 r2 s2 R2 S2 h2 y ry => ?_⟩
  have vx := view_deref R2 (rx.sees.step S2).view
  have vy := ry.view (W := g2.W)
  have done : ∀ {d : D} {w : V}, Rep T g2.W g2.io d w → OKat T en Wx g2 H2 σ (.ok ⟨d, false⟩ s2) (fun g' H' r s' => ∀ v, RetR T g' H H' esc r v → Q v H') → Q w H2 := fun rep hq => hq g2 H2 R2 Step.rfl' _ (retR_rep rep)
  unfold subD at h2
  split at h2
  · rename_i xs i e1 e2
    rw [e1] at vx; rw [e2] at vy
    have ey := vy.int
    subst ey
    obtain ⟨p, vs, e3, e4, e5⟩ := vx.lst R2.sub
    cases z : (ixOf xs.length i).bind fun k => xs[k]? with
    | none => rw [z] at h2; exact h2.elim
    | some d =>
      rw [z] at h2
      obtain ⟨w, e6, e7⟩ := repL_at e5 z
      exact .inl ⟨p, vs, i, w, e3, rfl, .inl (.inl e4), e6, done e7 h2⟩
  · rename_i xs i e1 e2
    rw [e1] at vx; rw [e2] at vy
    have ey := vy.int
    subst ey
    obtain ⟨p, vs, e3, e4, e5⟩ := vx.tup R2.sub
    cases z : (ixOf xs.length i).bind fun k => xs[k]? with
    | none => rw [z] at h2; exact h2.elim
    | some d =>
      rw [z] at h2
      obtain ⟨w, e6, e7⟩ := repL_at e5 z
      exact .inr (.inl ⟨p, vs, i, w, e3, rfl, e4, e6, done e7 h2⟩)
  · rename_i cs i e1 e2
    rw [e1] at vx; rw [e2] at vy
    have ey := vy.int
    subst ey
    obtain ⟨e3, e4⟩ := vx.str
    subst e3
    cases z : (ixOf cs.length i).bind fun k => cs[k]? with
    | none => rw [z] at h2; exact h2.elim
    | some c =>
      rw [z] at h2
      refine .inr (.inr (.inl ⟨_, i, c, rfl, rfl, by rw [sOf_length, ← lim_eq]; exact e4, ?_, done (d := .str [c]) (by simp only [Rep]; exact ⟨rfl, show 1 ≤ lim by decide⟩) h2⟩))
      unfold atI
      rw [← ixOf_ixN]
      simpa [sOf] using z
  · rename_i ns i e1 e2
    rw [e1] at vx; rw [e2] at vy
    have ey := vy.int
    subst ey
    obtain ⟨p, e3, e4⟩ := vx.scr R2.sub
    cases z : (ixOf ns.length i).bind fun k => ns[k]? with
    | none => rw [z] at h2; exact h2.elim
    | some n =>
      rw [z] at h2
      refine .inl ⟨p, _, i, .int n, e3, rfl, e4, ?_, done (d := .int n) (by simp only [Rep]) h2⟩
      unfold atI
      rw [← ixOf_ixN, List.length_map]
      cases y : ixOf ns.length i with
      | none => rw [y] at z; exact nomatch z
      | some k => rw [y] at z; simp only [Option.bind_some, List.getElem?_map] at z ⊢; rw [z]; rfl
  · rename_i ks vs e1
    rw [e1] at vx
    split at h2
    · rename_i hk
      obtain ⟨p, kv, us, e3, e4, e5, e6⟩ := vx.dic R2.sub
      obtain ⟨o, e7, e8, e9⟩ := dicO_get R2.sub e4 e5 e6 hk vy
      cases z : dfind ks vs r2.d with
      | none => rw [z] at h2; exact h2.elim
      | some d =>
        rw [z] at h2
        obtain ⟨w, e10, e11⟩ := e9 d z
        subst e10
        exact .inr (.inr (.inr ⟨p, w, e3, e7, done e11 h2⟩))
    · exact h2.elim
  · exact h2.elim

/-! ### slices -/
theorem bnd_sIx (n d : Nat) (i : Int) : bnd n i = HT.sIx n d (some i) := rfl
theorem cutL_cutV {α : Type} (xs : List α) (lo hi : Option Int) : cutL xs lo hi = (xs.drop (HT.sIx xs.length 0 lo)).take (HT.sIx xs.length xs.length hi - HT.sIx xs.length 0 lo) := by
  unfold cutL
  cases lo <;> cases hi <;> rfl
theorem RepL.cut {W : L2.Hp} {io : List Addr} {ds : List D} {vs : List V} (r : RepL T W io ds vs) (lo hi : Option Int) : RepL T W io (cutL ds lo hi) (cutV vs lo hi) := by
  rw [cutL_cutV, r.length]
  exact RepL.take _ (RepL.drop _ r)
def sliceD (l u : Option Int) (x : RV) (s : Sta) : Res RV := match deref s.hp x.d with
    | .lst xs => .ok ⟨.lst (cutL xs l u), true⟩ s
    | .tup xs => .ok ⟨.tup (cutL xs l u), false⟩ s
    | .str cs => .ok ⟨.str (cutL cs l u), false⟩ s
    | _ => .bad
def rSlc (T : Tx) : V → Option Int → Option Int → L2.Hp → VK → Prop := fun x l u H Q => rSlL T.K x l u H Q ∨ rSlA T.K x l u H Q ∨ rSlS x l u H Q
theorem sl_any (F : Facts X T P) : SlR X (rSlc T) := by
  have h := (sl_list (X := X)).or ((sl_tupA (X := X)).or (sl_str (X := X)))
  rw [F.K] at h
  exact h
/-- a slice's bound -/
def tDO (T : Tx) (en : Ent) (Wx : WX) (ev : Sta → Res (Option Int)) : TO := fun σ H Q => ∃ g s, Rel T en g s σ H ∧ OKat T en Wx g H σ (ev s) fun g' H' o s' => Q o H'
theorem po_none' : PO X none (tDO T en Wx fun s => .ok none s) := ⟨fun pins s0 σ H Q I ⟨g, s, R, h⟩ => po_none.run pins s0 σ H Q I (h g H R Step.rfl')⟩
theorem po_some' (ha : Snd X T en Wx a ea) : PO X (some a) (tDO T en Wx fun s => (ea false s).bind fun x s => match x.d with
    | .int i => .ok (some i) s
    | _ => .bad) := ⟨fun pins s0 σ H Q I ⟨g, s, R, h⟩ => (po_some (ha.pe false)).run pins s0 σ H Q I ⟨g, s, R, OKat.mono (OKat.bind h) fun g1 H1 r1 s1 R1 S1 h1 x rx => by
    have vx := rx.view (W := g1.W)
    split at h1
    · rename_i i e
      rw [e] at vx
      exact ⟨i, vx.int, h1 g1 H1 R1 Step.rfl'⟩
    · exact h1.elim⟩⟩
theorem ev_slc (F : Facts X T P) {lo hi : Option Expr} {p2 : Pos} {el eu : Sta → Res (Option Int)} (ha : Snd X T en Wx a ea) (hl : PO X lo (tDO T en Wx el)) (hu : PO X hi (tDO T en Wx eu)) :
    Snd X T en Wx (.Subscript a (.Slice lo hi none p2) pos) fun _ s => (ea false s).bind fun x s => (el s).bind fun l s => (eu s).bind fun u s => sliceD l u x s := by
  refine snd_of fun esc => pe_imp (pe_slice (sl_any F) (ha.pe false) hl hu) fun σ H Q ⟨g, s, R, h⟩ => ?_
  refine ⟨g, s, R, OKat.mono (OKat.bind h) fun g1 H1 r1 s1 R1 S1 h1 x rx => ?_⟩
  refine ⟨g1, s1, R1, OKat.mono (OKat.bind h1) fun g2 H2 l s2 R2 S2 h2 => ?_⟩
  refine ⟨g2, s2, R2, OKat.mono (OKat.bind h2) fun g3 H3 u s3 R3 S3 h3 => ?_⟩
  have vx := view_deref R3 ((rx.sees.step S2).step S3).view
  have st : Step g H g3 H3 := (S1.trans S2).trans S3
  have done : ∀ {rv : RV} {w : V} {H' : L2.Hp}, Nw T g3.W g3.io H3 rv w H' → OKat T en Wx g3 H3 σ (.ok rv s3) (fun g' H' r s' => ∀ v, RetR T g' H H' esc r v → Q v H') → Q w H' := fun n hq => by
    obtain ⟨g', R', S', rr⟩ := n.ret (esc := esc) R3
    exact hq g' _ R' S' _ (rr.step st)
  unfold sliceD at h3
  split at h3
  · rename_i xs e
    rw [e] at vx
    obtain ⟨p, vs, e3, e4, e5⟩ := vx.lst R3.sub
    exact .inl ⟨p, vs, e3, .inl (.inl e4), fun q hq => done (.lst hq (e5.cut l u)) h3⟩
  · rename_i xs e
    rw [e] at vx
    obtain ⟨p, vs, e3, e4, e5⟩ := vx.tupW
    refine .inr (.inl ⟨p, vs, e3, sameT R3.sub e4, fun hw => ?_, fun _ q hq => done (.tup hq (e5.cut l u)) h3⟩)
    refine done (.same ?_) h3
    simp only [Rep]
    refine ⟨p, vs, rfl, e4, ?_⟩
    rw [cutL_cutV, e5.length, hw.1, hw.2]
    rw [List.drop_zero, Nat.sub_zero, ← e5.length, List.take_length]
    exact e5
  · rename_i cs e
    rw [e] at vx
    obtain ⟨e3, e4⟩ := vx.str
    subst e3
    refine .inr (.inr ⟨_, rfl, by rw [sOf_length, ← lim_eq]; exact e4, ?_⟩)
    have hl : (cutL cs l u).length ≤ lim := by
      rw [cutL_cutV, List.length_take, List.length_drop]; omega
    have e5 : cutS (sOf cs) l u = sOf (cutL cs l u) := by
      unfold cutS
      rw [cutL_cutV, sOf_length]
      rfl
    rw [e5]
    exact done (nwStr hl) h3
  · exact h3.elim
end
end Ev
end

section
/-! EvB8: new objects, comprehensions. -/
namespace Ev
open PySem PySem.Spec PyProof.Rows L2

section
variable {X : Cx} {T : Tx} {P : Prog} {en : Ent} {g g1 : Gh} {H H1 H2 : L2.Hp} {r : RV} {v : V} {σ : L2.St} {s : Sta} {Wx : WX} {esc : Bool}
variable {a b c : Expr} {pos : Pos} {ea eb ec : Bool → Sta → Res RV}

/-! ### a new object -/
/-- an __init__ that may be called -/
structure Initer (X : Cx) (C : Addr) (sp : Sp) : Prop where
  ex : ∃ k f fd ps, Mk X.K C f ∧ FnG X.prog X.w X.K X.mg X.base (L2.CX X.prog X.w) k f fd ps sp ∧ X.A.guards = some [] ∧ Room (k + 1) X.A ∧ Binds X.K fd ps []
  kp : PySem.W.keepIn X.K (.ref C) = true
theorem under_make {A : Around} {C : Addr} {us : List Value} (h : A.guards = some []) : (A.under (.builtin "type.__call__" ⟨.ref C :: us, []⟩)).guards = some [] := by
  unfold Around.under
  rw [h]
  have : (Code.builtin "type.__call__" ⟨.ref C :: us, []⟩).guards = [] := by
    unfold Code.guards Code.isGuard
    exact if_neg (show ¬ (guardIds.contains "type.__call__" = true) by decide)
  rw [this]
  rfl
theorem run_new {pins : List (Addr × Obj)} {s0 : Shared} {Q : VK} {us : List Value} {vs : List V} {C : Addr} {sp : Sp} (F : Initer X C sp) (tk : Takes X Wx) (I : Inv X pins σ H s0) (r : Vals vs us)
    (h : ∀ x dx, H x = none → H dx = none → dx ≠ x → sp (.ref x :: vs) (upd (upd H dx (.own x)) x (.ins C dx [])) (fun v H2 => v = .non ∧ Q (.ref x) H2) fun c d H' => Wx c d σ H') :
    wpAny (model X.prog X.w) X.A (call (.ref C) us) (EP X pins σ Q) X.xe s0 := by
  obtain ⟨k, f, fd, ps, M, F1, hgd, hr, hb⟩ := F.ex
  have hq := h (s0.heap.objs.size + 1) s0.heap.objs.size (I.hok.fresh (Nat.le_succ _)) (I.hok.fresh (Nat.le_refl _)) (Nat.ne_of_lt (Nat.lt_succ_self _))
  have I2 := Inv.made (C := C) I
  have r2 : Vals (V.ref (s0.heap.objs.size + 1) :: vs) (Value.ref (s0.heap.objs.size + 1) :: us) := .cons rfl r
  have hl2 : ((Value.ref (s0.heap.objs.size + 1) :: us) ++ ([] : List Value)).length = ps.length := by
    rw [List.append_nil]; exact r2.length.symm.trans (F1.len _ _ _ _ hq)
  have b2 := hb _ (Value.ref (s0.heap.objs.size + 1) :: us) I2.kIn hl2
  rw [List.append_nil] at b2
  refine wpAny_call (make_map (f := f) I.kIn M.makes M.init (beq_iff_eq.mp M.fn) (codeAny_mono (F1.run _ X.stack _ _ ⟨_, []⟩ _ _ _ _ (under_make hgd) (hr.make C us []) (I2.env0.make C us []) b2 r2 hq) fun fl s' z => ?_))
  cases fl with
  | error e => exact passW tk σ pins _ _ e s' I2 z
  | ok fl =>
    cases fl with
    | ret u =>
      obtain ⟨w, H', I3, rv, ev, q3⟩ := I2.after z
      subst ev
      exact ⟨rv, V.ref _, H', I3, rfl, q3⟩
    | next => exact False.elim z
    | brk => exact False.elim z
    | cont => exact False.elim z
theorem pe_new {x : Str} {C : Addr} {sp : Sp} {p : Pos} {e : Expr} {es : List Expr} {t : TA} (Cd : Called X x C) (F : Initer X C sp) (tk : Takes X Wx) (ha : PA X (e :: es) t) (hp : plainArgs (e :: es) = true) :
    PE X (.Call (.Name x p) (e :: es) [] pos) (fun σ H Q => t σ H fun vs H1 => ∀ x dx, H1 x = none → H1 dx = none → dx ≠ x → sp (.ref x :: vs) (upd (upd H1 dx (.own x)) x (.ins C dx [])) (fun v H2 => v = .non ∧ Q (.ref x) H2) fun c d H' => Wx c d σ H') :=
  ⟨fun pins s0 σ H Q I h => wpAny_Call_Name_kw (ld_glob I Cd.gl Cd.mg (PySem.W.callWith_K (h₀ := X.base) I.ok.mod.kin F.kp (thn (ha.run pos pins s0 σ H _ I h) fun us s1 ⟨vs, H1, I1, r, q⟩ => ⟨I1.kIn, run_new F tk I1 r q⟩) (star_cons hp) (star_none (plainArgs_tl hp))) Cd.nd)⟩
theorem pe_new0 {x : Str} {C : Addr} {sp : Sp} {p : Pos} (Cd : Called X x C) (F : Initer X C sp) (tk : Takes X Wx) :
    PE X (.Call (.Name x p) [] [] pos) (fun σ H Q => ∀ x dx, H x = none → H dx = none → dx ≠ x → sp [.ref x] (upd (upd H dx (.own x)) x (.ins C dx [])) (fun v H2 => v = .non ∧ Q (.ref x) H2) fun c d H' => Wx c d σ H') :=
  ⟨fun pins s0 σ H Q I h => wpAny_Call_Name_kw (ld_glob I Cd.gl Cd.mg (PySem.W.callWith_K0 I.kIn F.kp (run_new (us := []) F tk I .nil h)) Cd.nd)⟩

/-- two new addresses -/
theorem made_keep {x dx : Addr} {o1 o2 : HO} (hx : H x = none) (hd : H dx = none) (n : dx ≠ x) : (∀ a o, H a = some o → upd (upd H dx o1) x o2 a = some o) ∧ (∀ a, upd (upd H dx o1) x o2 a = none → H a = none) ∧ (upd H dx o1) x = none := by
  refine ⟨fun a o e => ?_, fun a e => ?_, ?_⟩
  · rw [upd_ne (ne_of_none e hx), upd_ne (ne_of_none e hd)]; exact e
  · cases z : H a with
    | none => rfl
    | some o => rw [upd_ne (ne_of_none z hx), upd_ne (ne_of_none z hd), z] at e; cases e
  · rw [upd_ne (Ne.symm n)]; exact hx
theorem Rel.made {x dx : Addr} {o1 o2 : HO} (R : Rel T en g s σ H) (hx : H x = none) (hd : H dx = none) (n : dx ≠ x) : Rel T en g s σ (upd (upd H dx o1) x o2) := (R.new hd).new (made_keep (o1 := o1) (o2 := o2) hx hd n).2.2
theorem spI_at {Q : VK} {np c : Nat} {mk : List D → Mem → CRes} {ds : List D} {vs : List V} {g0 : Gh} {H0 : L2.Hp} {x dx : Addr} (hn : ds.length = np) (R : Rel T en g s σ H) (S : Step g0 H0 g H) (rv : RepL T g.W g.io ds vs)
    (h : OKat T en Wx g H σ (ofC (asVal (mk ds s.hp)) s) fun g' H' r s' => ∀ v, RetR T g' H0 H' esc r v → Q v H') (hx : H x = none) (hd : H dx = none) (n : dx ≠ x) :
    spI T np c mk (.ref x :: vs) (upd (upd H dx (.own x)) x (.ins (T.ca c) dx [])) (fun v H2 => v = .non ∧ Q (.ref x) H2) fun c d H' => Wx c d σ H' := by
  obtain ⟨m1, m2, m3⟩ := made_keep (H := H) (o1 := .own x) (o2 := .ins (T.ca c) dx []) hx hd n
  have R2 : Rel T en g s σ (upd (upd H dx (.own x)) x (.ins (T.ca c) dx [])) := R.made hx hd n
  refine ⟨by rw [List.length_cons, ← rv.length, hn], g.W, g.io, s.hp, ds, x, dx, vs, rfl, upd_same, new_W R hx, new_io R hx, R2.hrel, rv, ?_⟩
  have cs : ∀ {W' : L2.Hp} {io' : List Addr} {H' : L2.Hp}, CStep g.W g.io (upd (upd H dx (.own x)) x (.ins (T.ca c) dx [])) W' io' H' (fun a => a = x) → CStep g.W g.io H W' io' H' fun _ => False := fun {W' io' H'} S2 =>
    ⟨S2.sW, S2.sI, fun a o e ni _ => S2.kp a o (m1 a o e) ni (ne_of_none e hx), fun a e => S2.tr a (by cases z : H a with
      | none => exact absurd z e
      | some o => rw [m1 a o z]; simp), fun a ha => (S2.ioF a ha).imp id (m2 a), fun a e _ w => S2.wn a (by cases z : H a with
      | none => exact absurd z e
      | some o => rw [m1 a o z]; simp) (fun z => by subst z; exact e hx) w⟩
  cases z : mk ds s.hp with
  | bad => rw [z] at h; exact h
  | exc c' ns es h' =>
    rw [z] at h
    intro W' io' H' d hr S2 ex
    obtain ⟨R', S'⟩ := R.call hr (cs S2)
    exact h _ H' d R' S' ex
  | ok d fr h' =>
    rw [z] at h
    intro W' io' H' v hr S2 rr e
    subst e
    obtain ⟨R', S'⟩ := R.call hr (cs S2)
    refine ⟨rfl, h _ H' R' S' _ ?_⟩
    unfold RetR at rr ⊢
    simp only [Bool.false_eq_true, if_false, if_true] at rr ⊢
    split
    · exact rr
    · exact .inl rr
theorem ev_make {x : Str} {c np : Nat} {p : Pos} {es : List Expr} {el : Sta → Res (List D)} {mk : Nat → List D → Mem → CRes} (C : Called X x (T.ca c)) (F : Initer X (T.ca c) (spI T np c (mk c))) (tk : Takes X Wx) (ha : PA X es (tDL T en Wx el)) (hp : plainArgs es = true)
    (hn : ∀ s ds s', el s = .ok ds s' → ds.length = np) (h0 : es = [] → el = fun s => .ok [] s) :
    Snd X T en Wx (.Call (.Name x p) es [] pos) fun _ s => (el s).bind fun ds s => ofC (asVal (mk c ds s.hp)) s := by
  cases es with
  | nil =>
    have e0 := h0 rfl
    subst e0
    refine snd_of fun esc => pe_imp (pe_new0 C F tk) fun σ H Q ⟨g, s, R, h⟩ => ?_
    exact fun x dx hx hd n => spI_at (hn s [] s rfl) R Step.rfl' RepL.nil h hx hd n
  | cons e es =>
    refine snd_of fun esc => pe_imp (pe_new C F tk ha hp) fun σ H Q ⟨g, s, R, h⟩ => ?_
    refine ⟨g, s, R, ?_⟩
    cases z : el s with
    | bad => dsimp only at h; rw [z] at h; exact h
    | exc c ns vs s' => dsimp only at h; rw [z] at h; exact h
    | ok ds s' =>
      dsimp only at h
      rw [z] at h
      intro g1 H1 R1 S1 vs rvs
      exact fun x dx hx hd n => spI_at (hn s ds s' z) R1 S1 rvs (OKat.step S1 h) hx hd n

/-- a new shared object -/
abbrev makeR (n c : Nat) (o : CRes) (s : Sta) : Res RV := match o with
          | .ok .non _ h => .ok ⟨.ref n, false⟩ { s with hp := h }
          | .exc c ns vs h => .exc c ns vs { s with hp := h }
          | _ => .bad
theorem spR_at {Q : VK} {np c : Nat} {cl : List D → Mem → CRes} {ds : List D} {vs : List V} {g0 : Gh} {H0 : L2.Hp} {x dx : Addr} (hn : ds.length + 1 = np) (R : Rel T en g s σ H) (S : Step g0 H0 g H) (rv : RepL T g.W g.io ds vs)
    (h : OKat T en Wx g H σ (makeR s.hp.length c (cl (.ref s.hp.length :: ds) (s.hp ++ [.obj c [] []])) s) fun g' H' r s' => ∀ v, RetR T g' H0 H' esc r v → Q v H') (hx : H x = none) (hd : H dx = none) (n : dx ≠ x) :
    spF T np cl (.ref x :: vs) (upd (upd H dx (.own x)) x (.ins (T.ca c) dx [])) (fun v H2 => v = .non ∧ Q (.ref x) H2) fun c d H' => Wx c d σ H' := by
  obtain ⟨m1, m2, m3⟩ := made_keep (H := H) (o1 := .own x) (o2 := .ins (T.ca c) dx []) hx hd n
  have R2 : Rel T en g s σ (upd (upd H dx (.own x)) x (.ins (T.ca c) dx [])) := R.made hx hd n
  have hat : At T g.W g.io (upd (upd H dx (.own x)) x (.ins (T.ca c) dx [])) x (.obj c [] []) := ⟨dx, [], upd_same, rfl, RepL.nil⟩
  have R3 := R2.share hat (new_W R hx) (new_0 R hx) (new_io R hx) (new_oa R hx) fun i d' e1 e2 => by
    have hs := R.slot i
    rw [e1] at hs
    obtain ⟨c, e3, e4, _⟩ := hs
    rw [e2] at e3; cases e3
    exact e4.there hx
  have there : ∀ a, H a ≠ none → upd (upd H dx (.own x)) x (.ins (T.ca c) dx []) a ≠ none := fun a e => by
    cases z : H a with
    | none => exact absurd z e
    | some o => rw [m1 a o z]; simp
  have S3 : Step g H { g with io := g.io ++ [x] } (upd (upd H dx (.own x)) x (.ins (T.ca c) dx [])) := ⟨sameR', Pre.app, rfl, fun a o e _ => m1 a o e, there, fun a ha => by
    rcases List.mem_append.mp ha with m | m
    · exact .inl m
    · have : a = x := by simpa using m
      subst this
      exact .inr hx, fun _ _ _ w => w⟩
  have rx : Rep T g.W (g.io ++ [x]) (.ref s.hp.length) (.ref x) := by
    simp only [Rep]
    refine ⟨x, rfl, ?_⟩
    rw [R.mem]
    simp
  refine ⟨by rw [List.length_cons, ← rv.length, hn], g.W, g.io ++ [x], s.hp ++ [.obj c [] []], .ref s.hp.length :: ds, R3.hrel, RepL.cons rx (rv.mono sameR' Pre.app), ?_⟩
  cases z : cl (.ref s.hp.length :: ds) (s.hp ++ [.obj c [] []]) with
  | bad => rw [z] at h; exact h
  | exc c' ns es h' =>
    rw [z] at h
    intro W' io' H' d hr S2 ex
    obtain ⟨R', S'⟩ := R3.call hr S2
    exact h _ H' d R' (S3.trans S') ex
  | ok d fr h' =>
    rw [z] at h
    intro W' io' H' v hr S2 rr
    obtain ⟨R', S'⟩ := R3.call hr S2
    cases d with
    | non =>
      have ev : v = .non := by
        unfold RetR at rr
        split at rr
        · obtain ⟨a, _, z, _⟩ := rr; exact z.elim
        · simp only [if_true, Rep] at rr; exact rr
      exact ⟨ev, h _ H' R' (S3.trans S') _ (retR_rep (rx.mono S2.sW S2.sI))⟩
    | _ => exact h.elim
theorem ev_makeR {x : Str} {c f np : Nat} {p : Pos} {es : List Expr} {el : Sta → Res (List D)} {cl : Nat → List D → Mem → CRes} (C : Called X x (T.ca c)) (F : Initer X (T.ca c) (spF T np (cl f))) (tk : Takes X Wx) (ha : PA X es (tDL T en Wx el)) (hp : plainArgs es = true)
    (hn : ∀ s ds s', el s = .ok ds s' → ds.length + 1 = np) (h0 : es = [] → el = fun s => .ok [] s) :
    Snd X T en Wx (.Call (.Name x p) es [] pos) fun _ s => (el s).bind fun ds s => makeR s.hp.length c (cl f (.ref s.hp.length :: ds) (s.hp ++ [.obj c [] []])) s := by
  cases es with
  | nil =>
    have e0 := h0 rfl
    subst e0
    refine snd_of fun esc => pe_imp (pe_new0 C F tk) fun σ H Q ⟨g, s, R, h⟩ => ?_
    exact fun x dx hx hd n => spR_at (hn s [] s rfl) R Step.rfl' RepL.nil h hx hd n
  | cons e es =>
    refine snd_of fun esc => pe_imp (pe_new C F tk ha hp) fun σ H Q ⟨g, s, R, h⟩ => ?_
    refine ⟨g, s, R, ?_⟩
    cases z : el s with
    | bad => dsimp only at h; rw [z] at h; exact h
    | exc c ns vs s' => dsimp only at h; rw [z] at h; exact h
    | ok ds s' =>
      dsimp only at h
      rw [z] at h
      intro g1 H1 R1 S1 vs rvs
      exact fun x dx hx hd n => spR_at (hn s ds s' z) R1 S1 rvs (OKat.step S1 h) hx hd n
end
end Ev
end

section
namespace PySem
open Sem (wp)
set_option maxHeartbeats 1000000 in
theorem Ev_meets_enumerate_newB1 {v : Value} {o : Obj} {H : Heap → Prop} (B : Begins v o H) :
    Meets (Builtin.«enumerate.__new__» ⟨[.type "enumerate", v], []⟩) (fun _ R s => H s.heap ∧
      R (.ok (.ret (.ref (s.heap.push o).objs.size))) { s with heap := (s.heap.push o).push { cls := .type "enumerate", data := .fields #[.none, .bool false, .ref s.heap.objs.size, rawInt 0, .none, .none] } }) :=
  .of_wp fun prog w A R s h => by
    obtain ⟨hp, g, d, tk, os⟩ := s; obtain ⟨h1, h⟩ := h
    have hsub := sub_enumerate
    have q1 : ∀ {A' : Around} {E : Value → Shared → Prop} {Q : Value → Shared → Prop}, Q (.ref hp.objs.size) ⟨hp.push o, g, d, tk, os⟩ → wpAny (model prog w) A' (pyIter v) Q E ⟨hp, g, d, tk, os⟩ :=
      fun q => B.iter prog w _ _ ⟨hp, g, d, tk, os⟩ _ h1 q
    wp_walk using q1
    refine wpAny_stack_any fun st => wpAny_pure ?_
    split
    · rename_i c _ _ _ _ _
      cases (c == Value.type "enumerate")
      · wp_walk using q1
        exact ⟨_, rfl, h⟩
      · wp_walk using q1
        exact ⟨_, rfl, h⟩
    · wp_walk using q1
      exact ⟨_, rfl, h⟩
section
variable {prog : Program} {w : World} {A : Around} {E : Value → Shared → Prop} {s : Shared}
theorem Ev_enum_begins1 {v : Value} {o : Obj} {H : Heap → Prop} {Q : Value → Shared → Prop} (B : Begins v o H) (h1 : H s.heap)
    (h : ∀ h', IsEnum h' (s.heap.objs.size + 1) s.heap.objs.size 0 .none → h'.get? s.heap.objs.size = some o → h'.objs.size = s.heap.objs.size + 2 →
      (∀ b o, s.heap.get? b = some o → h'.get? b = some o) → Q (.ref (s.heap.objs.size + 1)) { s with heap := h' }) :
    wpAny (model prog w) A (call (.type "enumerate") [v]) Q E s := by
  refine callType_new F.called_enumerate (by decide) (F.typeCall_enumerate_1 _) (F.newCall_enumerate_1 _) (fun obj => F.args_object_init_2 obj _) F.entry_enumerate_new
    (Ev_meets_enumerate_newB1 B) ⟨h1, ?_⟩
  have hz : (s.heap.push o).objs.size = s.heap.objs.size + 1 := Heap.size_push ..
  show _ ∧ _
  rw [hz]
  have he : IsEnum ((s.heap.push o).push { cls := .type "enumerate", data := .fields #[.none, .bool false, .ref s.heap.objs.size, rawInt 0, .none, .none] }) (s.heap.objs.size + 1) s.heap.objs.size 0 .none := by
    have := Heap.get?_push_size (s.heap.push o) (o := { cls := .type "enumerate", data := .fields #[.none, .bool false, .ref s.heap.objs.size, rawInt 0, .none, .none] }) rfl
    rw [hz] at this; exact this
  refine ⟨⟨_, he, rfl⟩, h _ he (Heap.get?_push_of_some _ (Heap.get?_push_size _ B.free)) (by rw [Heap.size_push, hz]) fun b o x => Heap.get?_push_of_some _ (Heap.get?_push_of_some _ x)⟩
end
end PySem
/-! EvB9: what is walked. -/
namespace Ev
open PySem PySem.Spec PyProof.Rows L2

/-- the iterator draws the items ds: what it needs stands among W, or at ps -/
def Drw (T : Tx) (W : L2.Hp) (io : List Addr) (ps : List (Addr × HO)) (J : L2.It) (ds : List D) : Prop :=
  Walk J ds.length (fun H => Same W H ∧ ∀ p ∈ ps, H p.1 = some p.2) fun i H x H' => ∃ d, ds[i]? = some d ∧ Nw T W io H ⟨d, false⟩ x H'
/-- an iterator's reading -/
def tI (T : Tx) (en : Ent) (Wx : WX) (esc : Bool) (ev : Sta → Res (List D)) : TI := fun σ H R => ∃ g s, Rel T en g s σ H ∧
  OKat T en Wx g H σ (ev s) fun g' H' ds s' => ∀ J ps, Drw T g'.W g'.io ps J ds → (∀ p ∈ ps, H' p.1 = some p.2 ∧ p.1 ∉ g'.io ∧ esc = false) → R J H'
structure SndI (X : Cx) (T : Tx) (en : Ent) (Wx : WX) (tg iter : Expr) (ev : Bool → Sta → Res (List D)) : Prop where
  pi : ∀ esc, PI X tg iter (tI T en Wx esc (ev esc))
section
variable {X : Cx} {tg iter e : Expr} {pos : Pos}
theorem pi_imp {t t' : TI} (h : PI X tg iter t) (w : ∀ σ H R, t' σ H R → t σ H R) : PI X tg iter t' := ⟨fun pins s σ H R I q => h.run pins s σ H R I (w σ H R q)⟩
/-- a list, a tuple, a text -/
def iSeq (K : PySem.W.Frag) (te : TE) : TI := fun σ H R => te σ H fun v H1 => (∃ a xs, v = .ref a ∧ SqL K H1 a xs ∧ R (Itl K a) H1) ∨ (∃ a xs, v = .ref a ∧ SqT K H1 a xs ∧ R (Itt K a) H1) ∨ ∃ x, v = .str x ∧ R (Its x) H1
theorem pi_seq {te : TE} (he : PE X e te) : PI X tg e (iSeq X.K te) := by
  refine ⟨fun pins s σ H R I h => ?_⟩
  refine thn (he.run pins s σ H _ I h) fun v s1 ⟨x, H1, I1, r1, q1⟩ => ?_
  rcases q1 with ⟨a, xs, e, hq, q⟩ | ⟨a, xs, e, hq, q⟩ | ⟨x', e, q⟩
  · subst e
    cases r1
    obtain ⟨its, rv, p, hz⟩ := I1.list hq
    refine wpAny_pyIter_list p.isList ?_
    refine ⟨s1.heap.objs.size, [s1.heap.objs.size], _, _, H1, rfl, I1.kept (t' := s1.toks) fun b o e => Heap.get?_push_of_some _ e, turn_list a _, ⟨_, Heap.get?_push_size _ rfl, rfl, rfl⟩, fun b hb => ?_, q⟩
    have e : b = s1.heap.objs.size := by simpa using hb
    subst e
    exact I1.fpOk (Nat.le_refl _) (I1.hok.fresh (Nat.le_refl _))
  · subst e
    cases r1
    obtain ⟨its, rv, p, hz⟩ := I1.tuple hq
    refine wpAny_pyIter_tuple (show s1.heap.IsTuple a its.toArray from p) ?_
    refine ⟨s1.heap.objs.size, [s1.heap.objs.size], _, _, H1, rfl, I1.kept (t' := s1.toks) fun b o e => Heap.get?_push_of_some _ e, turn_tuple a _, ⟨_, Heap.get?_push_size _ rfl, rfl, rfl⟩, fun b hb => ?_, q⟩
    have e : b = s1.heap.objs.size := by simpa using hb
    subst e
    exact I1.fpOk (Nat.le_refl _) (I1.hok.fresh (Nat.le_refl _))
  · subst e
    obtain ⟨t, rfl⟩ := r1
    cases ha : x'.cps.all (· < 128)
    · exact wpAny_pyIter_wide ha (pi_one (tk := s1.toks) I1 _ (turn_str _ x' t "str_iterator" (.inr rfl)) ⟨_, Heap.get?_push_size _ rfl, rfl, rfl⟩ q)
    · exact wpAny_pyIter_ascii ha (pi_one (tk := s1.toks) I1 _ (turn_str _ x' t "str_ascii_iterator" (.inl rfl)) ⟨_, Heap.get?_push_size _ rfl, rfl, rfl⟩ q)
end

/-! ### enumerate -/
/-- an inner iterator: the i-th value -/
abbrev IteG (go : Nat → L2.Hp → Prop) (yl : Nat → L2.Hp → V → Prop) (stop : Nat → L2.Hp → Prop) : L2.It :=
  ⟨go, fun i H v H' => ∃ T x, v = .ref T ∧ H T = none ∧ H' = upd H T (.tup [.int (i : Nat), x]) ∧ yl i H x, stop⟩
structure Inr (P : Program) (w : World) (K : PySem.W.Frag) (e it : Addr) (go : Nat → L2.Hp → Prop) (yl : Nat → L2.Hp → V → Prop) (stop : Nat → L2.Hp → Prop) (tn : Nat → Heap → Prop) : Prop where
  obj : ∀ i h, tn i h → ∃ o, h.get? it = some o ∧ ∀ v, o.data ≠ .cell v
  keep : ∀ i h h', tn i h → (∀ o, h.get? it = some o → h'.get? it = some o) → tn i h'
  draw : ∀ (X : Cx), X.prog = P → X.w = w → X.K = K → X.calm = true → ∀ (i : Nat) (pins : List (Addr × Obj)) (s : Shared) (σ : L2.St) (H : L2.Hp), Inv X pins σ H s → tn i s.heap → (go i H ∨ stop i H) →
    ∃ fp n P St, PySem.Draws X.prog X.w X.A.in1 it fp n P St ∧ e ∉ fp ∧ St i s.heap ∧ (∀ h', St (i + 1) h' → tn (i + 1) h') ∧ (go i H → i < n ∧ ∀ x, P i x → ∃ v, RelV v x ∧ yl i H v) ∧ (stop i H → n = i)
theorem turn_enumG {P : Program} {w : World} {K : PySem.W.Frag} {elts : List Expr} {kk : Nat} {tpos : Pos} {e it : Addr} {go : Nat → L2.Hp → Prop} {yl : Nat → L2.Hp → V → Prop} {stop : Nat → L2.Hp → Prop} {tn : Nat → Heap → Prop} (hne : e ≠ it)
    (N : Inr P w K e it go yl stop tn) : Turn P w K (.Tuple elts kk tpos) (IteG go yl stop) [e, it] e (fun i h => (∃ old, IsEnum h e it ((i : Nat) : Int) old) ∧ tn i h) where
  mem := by simp
  obj := fun i h st b hb => by
    obtain ⟨⟨old, he⟩, hi⟩ := st
    have e' : b = e ∨ b = it := by simpa using hb
    rcases e' with z | z
    · rw [z]; exact ⟨_, he, fun v q => nomatch q⟩
    · rw [z]; exact N.obj i h hi
  keep := fun i h h' st k => let ⟨⟨old, he⟩, hi⟩ := st; ⟨⟨old, k e (by simp) _ he⟩, N.keep i h h' hi fun o q => k it (by simp) o q⟩
  item := by
    intro X hP hw hK hc i pins s σ H E I hf st hg
    obtain ⟨⟨old, he⟩, hit⟩ := st
    obtain ⟨fp, n, PP, St, D, hef, h1, h2, h3, _⟩ := N.draw X hP hw hK hc i pins s σ H I hit (.inl hg)
    obtain ⟨hin, hv⟩ := h3 hg
    subst hP hw hK
    have hel : e < s.heap.objs.size := Heap.lt_size he
    have hil : it < s.heap.objs.size := by obtain ⟨_, q, _⟩ := N.obj _ _ hit; exact Heap.lt_size q
    refine wpAny_pyNext_enum_itemD D he h1 hin hne hef fun u h' tk hu ho hst hT hsz hk => ?_
    obtain ⟨x, ru, yx⟩ := hv u hu
    refine ⟨_, rfl, wpAny_letOwnedTupleGo_enum (s := { s with heap := h', toks := tk + 1 }) ho fun h'' he' sb => ?_⟩
    have hT2 : h''.get? s.heap.objs.size = some { cls := .type "tuple", data := .seq #[.int i tk, u] } := (sb.2 _ (Nat.ne_of_gt hel)).trans hT
    have new : ObjOk X.prog X.w (upd H s.heap.objs.size (.tup [.int (i : Nat), x])) h'' s.heap.objs.size (.tup [.int (i : Nat), x]) :=
      ⟨by show 2 ≤ sizeLine; decide, [.int i tk, u], .cons ⟨_, rfl⟩ (.cons ru .nil), ⟨_, hT2, rfl, _, rfl⟩⟩
    have I1 : Inv X pins σ (upd H s.heap.objs.size (.tup [.int (i : Nat), x])) { s with heap := h'', toks := tk + 1 } :=
      I.turnedNew (ch := [e, it]) (fun b ob hb q => (sb.2 b (fun z => hb (by simp [z]))).trans (hk b ob (fun z => hb (by simp [z])) (fun z => hb (by simp [z])) q)) hf (Nat.le_refl _) new
    refine ⟨.ref s.heap.objs.size, _, I1, rfl, ⟨_, x, rfl, I.hok.fresh (Nat.le_refl _), rfl, yx⟩, ⟨⟨u, ?_⟩, N.keep _ _ _ (h2 h' hst) fun o q => (sb.2 it (Ne.symm hne)).trans q⟩, fun b hb => ?_⟩
    · have e1 : ((i + 1 : Nat) : Int) = (i : Int) + 1 := by omega
      rw [e1]; exact he'
    · have hb' : b < s.heap.objs.size := by
        have e' : b = e ∨ b = it := by simpa using hb
        rcases e' with z | z
        · rw [z]; exact hel
        · rw [z]; exact hil
      rw [upd_ne (Nat.ne_of_lt hb')]
      exact (hf b hb).1
  done := by
    intro X hP hw hK hc i pins s σ H E I hf st hg
    obtain ⟨⟨old, he⟩, hit⟩ := st
    obtain ⟨fp, n, PP, St, D, hef, h1, h2, _, h3⟩ := N.draw X hP hw hK hc i pins s σ H I hit (.inr hg)
    have e1 := h3 hg
    subst e1
    subst hP hw hK
    obtain ⟨f0, f1, f2, f3, f4, f5⟩ := hf it (by simp)
    exact wpAny_pyNext_enum_endD D he h1 fun h' eb => ⟨rfl, I.turned (t' := s.toks) (fun b o hb q => eb b o hb q) f0 f1 f3 f4 f5⟩
  self := fun A i s Q E st h => let ⟨⟨_, he⟩, _⟩ := st; wpAny_pyIter_enum he h

abbrev goT (K : PySem.W.Frag) (a : Addr) : Nat → L2.Hp → Prop := fun i H => ∃ xs : List V, SqT K H a xs ∧ i < xs.length
abbrev ylT (K : PySem.W.Frag) (a : Addr) : Nat → L2.Hp → V → Prop := fun i H x => ∀ xs, SqT K H a xs → xs[i]? = some x
abbrev stT (K : PySem.W.Frag) (a : Addr) : Nat → L2.Hp → Prop := fun i H => ∃ xs : List V, SqT K H a xs ∧ xs.length = i
theorem inr_tup {P : Program} {w : World} {K : PySem.W.Frag} {e it a : Addr} (h1 : e ≠ it) (h2 : e ≠ a) (h3 : a ≠ it) : Inr P w K e it (goT K a) (ylT K a) (stT K a) fun i h => h.IsTupleIter it a i where
  obj := fun i h st => let ⟨o, ho, hc, hd⟩ := st; ⟨o, ho, fun v q => by rw [hd] at q; cases q⟩
  keep := fun i h h' st k => st.at fun o q => k o q
  draw := by
    intro X hP hw hK hc i pins s σ H I st hg
    subst hP hw hK
    obtain ⟨xs, hq⟩ : ∃ xs : List V, SqT X.K H a xs := by
      rcases hg with ⟨xs, q, _⟩ | ⟨xs, q, _⟩ <;> exact ⟨xs, q⟩
    obtain ⟨its, rv, p, hz⟩ := I.tuple hq
    have hl := rv.length
    refine ⟨_, _, _, _, Draws.tuple (prog := X.prog) (w := X.w) (A := X.A.in1) (I.ok.hd hc) it a h3 its.toArray, ?_, ⟨st, p⟩, fun h' z => z.1, fun ⟨ys, q, hi⟩ => ?_, fun ⟨ys, q, hi⟩ => ?_⟩
    · simp [h1, h2]
    · rw [I.tuple_inj q hq] at hi
      refine ⟨by simp; omega, fun x hx => ?_⟩
      obtain ⟨v, hv⟩ : ∃ v, xs[i]? = some v := ⟨xs[i], by simp [hi]⟩
      obtain ⟨u, hu, ru⟩ := rv.get hv
      have : x = u := by
        have hx : its.toArray[i]? = some x := hx
        simp at hx
        rw [hu] at hx; cases hx; rfl
      subst this
      exact ⟨v, ru, fun zs hz => by rw [I.tuple_inj hz hq]; exact hv⟩
    · rw [I.tuple_inj q hq] at hi
      simp; omega
theorem inr_str {P : Program} {w : World} {K : PySem.W.Frag} {e it : Addr} {x : Str} {t : Tok} (h1 : e ≠ it) : Inr P w K e it (fun i _ => i < x.cps.size) (fun i _ v => ∃ c, x.cps[i]? = some c ∧ v = .str ⟨#[c]⟩) (fun i _ => x.cps.size = i) fun i h => h.IsStrIter it (strIterType x) x t i where
  obj := fun i h st => let ⟨o, ho, hc, hd⟩ := st; ⟨o, ho, fun v q => by rw [hd] at q; cases q⟩
  keep := fun i h h' st k => let ⟨o, ho, r⟩ := st; ⟨o, k o ho, r⟩
  draw := by
    intro X hP hw hK hc i pins s σ H I st hg
    subst hP hw hK
    refine ⟨_, _, _, _, Draws.text (prog := X.prog) (w := X.w) (A := X.A.in1) (I.ok.hd hc) it x t, ?_, st, fun h' z => z, fun hi => ⟨hi, fun v hv => ?_⟩, fun hi => hi⟩
    · simp [h1]
    · obtain ⟨c, u, e1, e2⟩ := hv
      exact ⟨.str ⟨#[c]⟩, ⟨u, e2⟩, c, e1, rfl⟩

def iEnumA (K : PySem.W.Frag) (ta : TA) : TI := fun σ H R => ta σ H fun vs H1 => (∃ a xs, vs = [.ref a] ∧ SqL K H1 a xs ∧ R (Ite K a) H1) ∨ (∃ a xs, vs = [.ref a] ∧ SqT K H1 a xs ∧ R (IteG (goT K a) (ylT K a) (stT K a)) H1) ∨
  ∃ x : Str, vs = [.str x] ∧ R (IteG (fun i _ => i < x.cps.size) (fun i _ v => ∃ c, x.cps[i]? = some c ∧ v = .str ⟨#[c]⟩) (fun i _ => x.cps.size = i)) H1
theorem pi_enumA {X : Cx} {e : Expr} {ta : TA} {p pos tpos : Pos} {elts : List Expr} {kk : Nat} (hg : Gl X "enumerate") (hm : X.mg "enumerate" = none) (ha : PA X [e] ta) (hs : starEach [e] X.env = [(false, eval e X.env)]) :
    PI X (.Tuple elts kk tpos) (.Call (.Name "enumerate" p) [e] [] pos) (iEnumA X.K ta) := by
  refine ⟨fun pins s σ H R I h => ?_⟩
  refine Call_ (ld_blt I hg hm boot_enumerate (PyProof.Rows.callWith_type1 (thn (ha.run pos pins s σ H _ I h) fun us s1 ⟨vs, H1, I1, r1, q1⟩ => ?_) hs rfl))
  have fin : ∀ {b : Addr}, b ∈ [s1.heap.objs.size + 1, s1.heap.objs.size] → FpOk X pins H1 b := fun {b} hb => by
    have e' : b = s1.heap.objs.size + 1 ∨ b = s1.heap.objs.size := by simpa using hb
    have hle : s1.heap.objs.size ≤ b := by
      rcases e' with z | z
      · rw [z]; exact Nat.le_add_right _ _
      · rw [z]; exact Nat.le_refl _
    exact I1.fpOk hle (I1.hok.fresh hle)
  rcases q1 with ⟨a, xs, ex, hq, q⟩ | ⟨a, xs, ex, hq, q⟩ | ⟨x, ex, q⟩
  · subst ex
    cases r1 with
    | cons r rr =>
      cases rr
      cases r
      obtain ⟨its, rv, p', hz⟩ := I1.list hq
      refine call_enumerate_list p'.isList fun h' he hit hsz hk => wpAny_pyIter_enum he ?_
      exact ⟨s1.heap.objs.size + 1, [s1.heap.objs.size + 1, s1.heap.objs.size], _, _, H1, rfl, I1.kept (t' := s1.toks) hk, turn_enum a (s1.heap.objs.size + 1) s1.heap.objs.size, ⟨⟨.none, he⟩, hit, Nat.succ_ne_self _⟩, fun b hb => fin hb, q⟩
  · subst ex
    cases r1 with
    | cons r rr =>
      cases rr
      cases r
      obtain ⟨its, rv, p', hz⟩ := I1.tuple hq
      have la : a < s1.heap.objs.size := by
        obtain ⟨o, ho, _⟩ := p'
        exact Heap.lt_size ho
      refine Ev_enum_begins1 (begins_tuple a its.toArray) p' fun h' he hit hsz hk => wpAny_pyIter_enum he ?_
      exact ⟨s1.heap.objs.size + 1, [s1.heap.objs.size + 1, s1.heap.objs.size], _, _, H1, rfl, I1.kept (t' := s1.toks) hk, turn_enumG (Nat.succ_ne_self _) (inr_tup (a := a) (Nat.succ_ne_self _) (Nat.ne_of_gt (Nat.lt_succ_of_lt la)) (Nat.ne_of_lt la)), ⟨⟨.none, he⟩, ⟨_, hit, rfl, rfl⟩⟩, fun b hb => fin hb, q⟩
  · subst ex
    cases r1 with
    | cons r rr =>
      cases rr
      obtain ⟨t, rfl⟩ := r
      refine Ev_enum_begins1 (begins_text x t) trivial fun h' he hit hsz hk => wpAny_pyIter_enum he ?_
      exact ⟨s1.heap.objs.size + 1, [s1.heap.objs.size + 1, s1.heap.objs.size], _, _, H1, rfl, I1.kept (t' := s1.toks) hk, turn_enumG (Nat.succ_ne_self _) (inr_str (x := x) (t := t) (Nat.succ_ne_self _)), ⟨⟨.none, he⟩, ⟨_, hit, rfl, rfl⟩⟩, fun b hb => fin hb, q⟩
end Ev
end

section
/-! EvB10: targets, what is walked, comprehensions. -/
namespace Ev
open PySem PySem.Spec PyProof.Rows L2

section
variable {X : Cx} {T : Tx} {P : Prog} {en : Ent} {g g1 : Gh} {H H1 H2 : L2.Hp} {r : RV} {v : V} {σ : L2.St} {s : Sta} {Wx : WX} {esc : Bool}
variable {a b c : Expr} {pos : Pos} {ea eb ec : Bool → Sta → Res RV}

/-! ### a slot is written -/
theorem sig_set {i j : Nat} {x : Option V} : (σ.set i x)[j]? = if i = j ∧ i < σ.length then some x else σ[j]? := by
  by_cases h : i = j
  · subst h
    by_cases hi : i < σ.length
    · simp [hi]
    · simp [hi]
  · simp [h, List.getElem?_set_ne h]
theorem Rel.setVal {i : Nat} {d : D} (hi0 : i ≠ 0) (R : Rel T en g s σ H) (h : Rep T g.W g.io d v) : Rel T en g { s with sl := put s.sl i (.val d) } (σ.set i (some v)) H := by
  refine ⟨R.sub, by rw [put_length, List.length_set]; exact R.len, fun j => ?_, fun j k d1 d2 a h1 h2 e1 e2 => ?_, R.mem, R.nd, R.heap, R.oaT, R.base, R.oaF, R.ioF, R.tr, R.ioP, R.wn, ⟨fun z => ro_put (R.roF.1 z) (fun _ y => nomatch y), fun v' e' => by rw [List.getElem?_set_ne hi0]; exact R.roF.2 v' e'⟩⟩
  · rw [look_put, sig_set, R.len]
    split
    · exact ⟨v, rfl, h⟩
    · exact R.slot j
  · rw [look_put, R.len] at h1 h2
    rw [sig_set] at e1 e2
    split at h1
    · cases h1
    · rename_i n1
      rw [if_neg n1] at e1
      split at h2
      · cases h2
      · rename_i n2
        rw [if_neg n2] at e2
        exact R.dist j k d1 d2 a h1 h2 e1 e2
/-- .. by a thing just made -/
theorem Rel.setOwn {i : Nat} {d : D} {p : Addr} (hi0 : i ≠ 0) (R : Rel T en g s σ H) (h : At T g.W g.io H p d) (hW : g.W p = none) (h0 : en.H0 p = none) (hio : p ∉ g.io) (hoa : p ∉ g.oa) (hro : ∀ i d', look s.sl i = .ro d' → σ[i]? ≠ some (some (.ref p))) :
    Rel T en { g with oa := p :: g.oa } { s with sl := put s.sl i (.own d) } (σ.set i (some (.ref p))) H := by
  have ne : ∀ j d1, look s.sl j = .own d1 → σ[j]? ≠ some (some (.ref p)) := own_ne R hoa
  refine ⟨R.sub, by rw [put_length, List.length_set]; exact R.len, fun j => ?_, fun j k d1 d2 a h1 h2 e1 e2 => ?_, R.mem, R.nd, fun j d1 e => ?_, fun a ha => ?_, R.base, fun a ha => ?_, R.ioF, R.tr, R.ioP, R.wn, ⟨fun z => ro_put (R.roF.1 z) (fun _ y => nomatch y), fun v' e' => by rw [List.getElem?_set_ne hi0]; exact R.roF.2 v' e'⟩⟩
  · rw [look_put, sig_set, R.len]
    split
    · exact ⟨p, rfl, h, List.mem_cons_self, hio, hW⟩
    · refine (R.slot j).mono (g' := { g with oa := p :: g.oa }) sameR' Pre.rfl' (fun d1 b e1 e2 => ?_) (fun d1 b e1 e2 => ?_) fun dx fs e n => ⟨e, n⟩
      · have hs := R.slot j
        rw [e1] at hs
        obtain ⟨c, e, h1, h2, h3, h4⟩ := hs
        rw [e2] at e; cases e
        exact ⟨fun _ z => z, List.mem_cons_of_mem _ h2, h3, h4⟩
      · have hs := R.slot j
        rw [e1] at hs
        obtain ⟨c, e, h1, h2, h3⟩ := hs
        rw [e2] at e; cases e
        refine ⟨fun _ z => z, h2, fun m => ?_⟩
        rcases List.mem_cons.mp m with z | z
        · subst z; exact hro j d1 e1 e2
        · exact h3 z
  · rw [look_put, R.len] at h1 h2
    rw [sig_set] at e1 e2
    split at h1
    · rename_i n1
      rw [if_pos n1] at e1
      cases e1
      split at h2
      · rename_i n2
        exact n1.1.symm.trans n2.1
      · rename_i n2
        rw [if_neg n2] at e2
        exact absurd e2 (ne k d2 h2)
    · rename_i n1
      rw [if_neg n1] at e1
      split at h2
      · rename_i n2
        rw [if_pos n2] at e2
        cases e2
        exact absurd e1 (ne j d1 h1)
      · rename_i n2
        rw [if_neg n2] at e2
        exact R.dist j k d1 d2 a h1 h2 e1 e2
  · obtain ⟨b, e1, e2, e3, e4⟩ := R.heap j d1 e
    refine ⟨b, e1, e2, e3, fun m => ?_⟩
    rcases List.mem_cons.mp m with z | z
    · subst z; exact hio (List.mem_of_getElem? e1)
    · exact e4 z
  · rcases List.mem_cons.mp ha with z | z
    · subst z; exact h.there
    · exact R.oaT a z
  · rcases List.mem_cons.mp ha with z | z
    · subst z; exact h0
    · exact R.oaF a z

/-! ### targets -/
/-- a target's reading: the value is frozen -/
def gD (T : Tx) (en : Ent) (t : Tg) : TG := fun v σ H Q => ∃ g s d sl', Rel T en g s σ H ∧ Rep T g.W g.io d v ∧ asgT t d s.sl = some sl' ∧ ∀ σ', Rel T en g { s with sl := sl' } σ' H → σ'.length = σ.length → (∀ j, j ∉ slotsT t → σ'[j]? = σ[j]?) → Q σ' H
def gDs (T : Tx) (en : Ent) (ts : List Tg) : TGs := fun vs σ H Q => ∃ g s ds sl', Rel T en g s σ H ∧ RepL T g.W g.io ds vs ∧ asgTs ts ds s.sl = some sl' ∧ ∀ σ', Rel T en g { s with sl := sl' } σ' H → σ'.length = σ.length → (∀ j, j ∉ slotsTs ts → σ'[j]? = σ[j]?) → Q σ' H
theorem pg_imp {tg : Expr} {t t' : TG} (h : PG X tg t) (w : ∀ v σ H Q, t' v σ H Q → t v σ H Q) : PG X tg t' := ⟨fun pins s σ H v u Q I r q => h.run pins s σ H v u Q I r (w v σ H Q q)⟩
theorem pgs_imp {tgs : List Expr} {t t' : TGs} (h : PGs X tgs t) (w : ∀ v σ H Q, t' v σ H Q → t v σ H Q) : PGs X tgs t' := ⟨fun pins s σ H v u Q I r q => h.run pins s σ H v u Q I r (w v σ H Q q)⟩
theorem tg_nm {i : Nat} {x : Str} (hi0 : i ≠ 0) (hN : X.N.Nodup) (hi : X.N[i]? = some x) (hx : Loc X.env.scope x) (hf : X.fn x = true ∨ X.env.scope.names.lookup x = some .local) : PG X (.Name x pos) (gD T en (.nm i)) :=
  pg_imp (pg_name hN hi hx hf) fun v σ H Q ⟨g, s, d, sl', R, rv, e, q⟩ => by
    simp only [asgT] at e
    cases e
    exact q _ (R.setVal hi0 rv) (by simp) fun j hj => by
      simp only [slotsT, List.mem_singleton] at hj
      rw [List.getElem?_set_ne (Ne.symm hj)]
theorem tgs_nil : PGs X [] (gDs T en []) := pgs_imp pgs_nil fun vs σ H Q ⟨g, s, ds, sl', R, rv, e, q⟩ => by
  cases ds with
  | nil =>
    simp only [asgTs] at e
    cases e
    simp only [RepL] at rv
    exact ⟨rv, q σ R rfl fun _ _ => rfl⟩
  | cons => simp [asgTs] at e
theorem tgs_cons {t : Tg} {ts : List Tg} {es : List Expr} (h1 : PG X a (gD T en t)) (h2 : PGs X es (gDs T en ts)) (hs : (assignEach (a :: es) X.env).map (·.2) = assign a X.env :: (assignEach es X.env).map (·.2)) : PGs X (a :: es) (gDs T en (t :: ts)) :=
  pgs_imp (pgs_cons h1 h2 hs) fun vs σ H Q ⟨g, s, ds, sl', R, rv, e, q⟩ => by
    cases ds with
    | nil => simp [asgTs] at e
    | cons d ds =>
      simp only [RepL] at rv
      obtain ⟨v, r, rfl, rv1, rv2⟩ := rv
      simp only [asgTs] at e
      cases z : asgT t d s.sl with
      | none => rw [z] at e; cases e
      | some sl1 =>
        rw [z] at e
        refine ⟨v, r, rfl, g, s, d, sl1, R, rv1, z, fun σ1 R1 l1 k1 => ⟨g, _, ds, sl', R1, rv2, e, fun σ2 R2 l2 k2 => ?_⟩⟩
        refine q σ2 R2 (l2.trans l1) fun j hj => ?_
        simp only [slotsTs, List.mem_append, not_or] at hj
        rw [k2 j hj.2, k1 j hj.1]
theorem tg_tup {ts : List Tg} {es : List Expr} {k n : Nat} (hK : X.K = T.K) (hc : X.calm = true) (h : PGs X es (gDs T en ts)) (hl : ts.length = n) (hn : (assignEach es X.env).length = n) (hst : (assignEach es X.env).findIdx? (·.1) = none) : PG X (.Tuple es k pos) (gD T en (.tup ts)) :=
  pg_imp (pg_tup hc h hn hst) fun v σ H Q ⟨g, s, d, sl', R, rv, e, q⟩ => by
    cases d with
    | tup ds =>
      simp only [asgT] at e
      simp only [Rep] at rv
      obtain ⟨p, vs, rfl, h1, h2⟩ := rv
      have hlen : ∀ (ts : List Tg) (ds : List D) (sl sl' : List SV), asgTs ts ds sl = some sl' → ts.length = ds.length := by
        intro ts
        induction ts with
        | nil => intro ds sl sl' e; cases ds with
          | nil => rfl
          | cons => simp [asgTs] at e
        | cons t ts ih => intro ds sl sl' e; cases ds with
          | nil => simp [asgTs] at e
          | cons d ds =>
            simp only [asgTs] at e
            cases z : asgT t d sl with
            | none => rw [z] at e; cases e
            | some sl1 => rw [z] at e; simp [ih ds sl1 sl' e]
      refine ⟨p, vs, rfl, by rw [hK]; exact sameT R.sub h1, by rw [← h2.length, ← hlen ts ds _ _ e, hl], g, s, ds, sl', R, h2, e, fun σ' R' l k => q σ' R' l fun j hj => k j ?_⟩
      simpa only [slotsT] using hj
    | _ => simp [asgT] at e

/-! ### what is walked -/
variable {tg iter : Expr}
theorem drw_list {W : L2.Hp} {io : List Addr} {ps : List (Addr × HO)} {p : Addr} {xs : List V} {ds : List D} (h : ∀ H, Same W H → (∀ q ∈ ps, H q.1 = some q.2) → SqL T.K H p xs) (r : RepL T W io ds xs) : Drw T W io ps (Itl T.K p) ds := by
  have := (walk_list (K := T.K) (a := p) (xs := xs)).mono (G' := fun H => Same W H ∧ ∀ q ∈ ps, H q.1 = some q.2) (Y' := fun i H x H' => ∃ d, ds[i]? = some d ∧ Nw T W io H ⟨d, false⟩ x H') (fun H k => h H k.1 k.2) fun i H x H' hi k y => by
    obtain ⟨e1, e2⟩ := y
    subst e1
    obtain ⟨d, e3, e4⟩ := r.getV e2
    exact ⟨d, e3, .same e4⟩
  unfold Drw
  rw [r.length]
  exact this
theorem drw_tup {W : L2.Hp} {io : List Addr} {ps : List (Addr × HO)} {p : Addr} {xs : List V} {ds : List D} (h : ∀ H, Same W H → SqT T.K H p xs) (r : RepL T W io ds xs) : Drw T W io ps (Itt T.K p) ds := by
  have := (walk_tup (K := T.K) (a := p) (xs := xs)).mono (G' := fun H => Same W H ∧ ∀ q ∈ ps, H q.1 = some q.2) (Y' := fun i H x H' => ∃ d, ds[i]? = some d ∧ Nw T W io H ⟨d, false⟩ x H') (fun H k => h H k.1) fun i H x H' hi k y => by
    obtain ⟨e1, e2⟩ := y
    subst e1
    obtain ⟨d, e3, e4⟩ := r.getV e2
    exact ⟨d, e3, .same e4⟩
  unfold Drw
  rw [r.length]
  exact this
theorem chars_get {cs : List Nat} {i : Nat} : (chars cs)[i]? = cs[i]?.map fun c => D.str [c] := by simp [chars]
theorem drw_str {W : L2.Hp} {io : List Addr} {ps : List (Addr × HO)} {cs : List Nat} : Drw T W io ps (Its (sOf cs)) (chars cs) := by
  have hs : (sOf cs).cps.size = (chars cs).length := by simp [sOf, chars]
  unfold Drw
  rw [← hs]
  refine walk_str.mono (fun H _ => trivial) fun i H x H' hi k y => ?_
  obtain ⟨e1, c, e2, e3⟩ := y
  subst e1 e3
  have e2 : cs[i]? = some c := by simpa [sOf] using e2
  refine ⟨.str [c], by rw [chars_get, e2]; rfl, .same ?_⟩
  simp only [Rep]
  exact ⟨rfl, show 1 ≤ lim by decide⟩
theorem rangeD_get {m n : Int} {i : Nat} (hi : i < (n - m).toNat) : (rangeD m n)[i]? = some (.int (m + (i : Int))) := by simp [rangeD, hi]
theorem drw_range {W : L2.Hp} {io : List Addr} {ps : List (Addr × HO)} {m n : Int} : Drw T W io ps (Itr m (n - m).toNat) (rangeD m n) := by
  unfold Drw
  rw [show (rangeD m n).length = (n - m).toNat by simp [rangeD]]
  refine walk_range.mono (fun H _ => trivial) fun i H x H' hi k y => ?_
  obtain ⟨e1, e2⟩ := y
  subst e1 e2
  exact ⟨_, rangeD_get hi, .same (by simp only [Rep])⟩

abbrev ofE (ea : Bool → Sta → Res RV) : Bool → Sta → Res (List D) := fun esc s => (ea esc s).bind fun x s => ofO (seq? x.d) s
/-- what a value is, walked -/
theorem seq_in {R : L2.It → L2.Hp → Prop} (f : List D → List D) {JL JT : Addr → L2.It} {JS : Str → L2.It}
    (hL : ∀ (W : L2.Hp) (io : List Addr) (ps : List (Addr × HO)) (p : Addr) (xs : List V) (ds : List D), (∀ H, Same W H → (∀ q ∈ ps, H q.1 = some q.2) → SqL T.K H p xs) → RepL T W io ds xs → Drw T W io ps (JL p) (f ds))
    (hT : ∀ (W : L2.Hp) (io : List Addr) (ps : List (Addr × HO)) (p : Addr) (xs : List V) (ds : List D), (∀ H, Same W H → SqT T.K H p xs) → RepL T W io ds xs → Drw T W io ps (JT p) (f ds))
    (hS : ∀ (W : L2.Hp) (io : List Addr) (ps : List (Addr × HO)) (cs : List Nat), Drw T W io ps (JS (sOf cs)) (f (chars cs)))
    {g0 : Gh} {H0 : L2.Hp} (Rl : Rel T en g s σ H) (R0 : ∃ s0, Rel T en g0 s0 σ H0) (S : Step g0 H0 g H) (rv : RetR T g H0 H esc r v)
    (h : ∀ g2, Step g0 H0 g2 H → OKat T en Wx g2 H σ (ofO (seq? r.d) s) fun g' H' ds s' => ∀ J ps, Drw T g'.W g'.io ps J (f ds) → (∀ p ∈ ps, H' p.1 = some p.2 ∧ p.1 ∉ g'.io ∧ esc = false) → R J H') :
    (∃ a xs, v = .ref a ∧ SqL T.K H a xs ∧ R (JL a) H) ∨ (∃ a xs, v = .ref a ∧ SqT T.K H a xs ∧ R (JT a) H) ∨ ∃ x, v = .str x ∧ R (JS x) H := by
  obtain ⟨s0, R0⟩ := R0
  obtain ⟨d, fr⟩ := r
  -- what is frozen
  have frozen : ∀ g2, Rel T en g2 s σ H → Step g0 H0 g2 H → Rep T g2.W g2.io d v → (∃ a xs, v = .ref a ∧ SqL T.K H a xs ∧ R (JL a) H) ∨ (∃ a xs, v = .ref a ∧ SqT T.K H a xs ∧ R (JT a) H) ∨ ∃ x, v = .str x ∧ R (JS x) H := fun g2 R2 S2 rep => by
    have h2 := h g2 S2
    cases d with
    | lst ds =>
      simp only [Rep] at rep
      obtain ⟨a, xs, rfl, hw, rl⟩ := rep
      exact .inl ⟨a, xs, rfl, .inl (.inl (R2.sub _ _ hw)), h2 g2 H R2 Step.rfl' _ [] (hL _ _ _ _ _ _ (fun H' hs _ => .inl (.inl (hs _ _ hw))) rl) fun p hp => nomatch hp⟩
    | tup ds =>
      simp only [Rep] at rep
      obtain ⟨a, xs, rfl, hw, rl⟩ := rep
      exact .inr (.inl ⟨a, xs, rfl, sameT R2.sub hw, h2 g2 H R2 Step.rfl' _ [] (hT _ _ _ _ _ _ (fun H' hs => sameT hs hw) rl) fun p hp => nomatch hp⟩)
    | str cs =>
      simp only [Rep] at rep
      obtain ⟨rfl, hl⟩ := rep
      exact .inr (.inr ⟨_, rfl, h2 g2 H R2 Step.rfl' _ [] (hS _ _ _ _) fun p hp => nomatch hp⟩)
    | _ => exact h2.elim
  -- what stands
  have stands : ∀ a, v = .ref a → At T g.W g.io H a d → a ∉ g.io → esc = false → (∃ a xs, v = .ref a ∧ SqL T.K H a xs ∧ R (JL a) H) ∨ (∃ a xs, v = .ref a ∧ SqT T.K H a xs ∧ R (JT a) H) ∨ ∃ x, v = .str x ∧ R (JS x) H := fun a e ha hio he => by
    have h := h g S
    cases d with
    | lst ds =>
      obtain ⟨xs, hx, rl⟩ := ha
      exact .inl ⟨a, xs, e, .inl (.inl hx), h g H Rl Step.rfl' _ [(a, .lst xs)] (hL _ _ _ _ _ _ (fun H' hs hp => .inl (.inl (hp _ (List.mem_singleton.mpr rfl)))) rl) fun p hp => by
        rw [List.mem_singleton.mp hp]; exact ⟨hx, hio, he⟩⟩
    | dic => exact h.elim
    | obj => exact h.elim
    | _ => exact ha.elim
  cases esc with
  | true =>
    obtain ⟨g2, R2, S2, rep, _⟩ := esc_rep Rl S (.inr ⟨s0, R0⟩) rv
    exact frozen g2 R2 S2 rep
  | false =>
    unfold RetR at rv
    split at rv
    · obtain ⟨a, e, h1, h2, h3, h4⟩ := rv
      exact stands a e h1 h4 rfl
    · simp only [Bool.false_eq_true, if_false] at rv
      rcases rv with rep | ⟨a, e, n, ha⟩
      · exact frozen g Rl S rep
      · exact stands a e ha n rfl
theorem it_of (hK : X.K = T.K) (ha : Snd X T en Wx a ea) : SndI X T en Wx tg a (ofE ea) := ⟨fun esc => by
  have h := pi_seq (X := X) (tg := tg) (ha.pe esc)
  rw [hK] at h
  refine pi_imp h fun σ H R ⟨g, s, Rl, h⟩ => ?_
  refine ⟨g, s, Rl, OKat.mono (OKat.bind' h) fun g1 H1 r1 s1 R1 S1 h1 v rv => ?_⟩
  exact seq_in id (fun _ _ _ _ _ _ => drw_list) (fun _ _ _ _ _ _ => drw_tup) (fun _ _ _ _ => drw_str) R1 ⟨_, Rl⟩ S1 rv h1⟩
abbrev range1E (ea : Bool → Sta → Res RV) : Bool → Sta → Res (List D) := fun _ s => (ea false s).bind fun x s => match x.d with
    | .int n => if small n then .ok (rangeD 0 n) s else .bad
    | _ => .bad
abbrev range2E (ea eb : Bool → Sta → Res RV) : Bool → Sta → Res (List D) := fun _ s => (ea false s).bind fun x s => (eb false s).bind fun y s => match x.d, y.d with
    | .int m, .int n => if small m && small n then .ok (rangeD m n) s else .bad
    | _, _ => .bad
theorem small_in {i : Int} (h : small i = true) : -(2 ^ 62) ≤ i ∧ i < 2 ^ 62 := by
  unfold small at h
  have := of_decide_eq_true h
  omega
theorem pa1 (ha : Snd X T en Wx a ea) (hs : starEach [a] X.env = [(false, eval a X.env)]) : PA X [a] (tDB T en Wx fun s => (ea false s).bind fun x s => .ok [x.d] s) := pa_evalBs_cons ha pa_evalBs_nil hs
theorem okat_args1 {α : Type} {Q : Gh → L2.Hp → α → Sta → Prop} {o : Res RV} {k : RV → Sta → Res α} (h : OKat T en Wx g H σ (o.bind k) Q) : OKat T en Wx g H σ (o.bind fun x s => .ok [x.d] s) fun g' H' ds s' => ∃ x : RV, ds = [x.d] ∧ OKat T en Wx g' H' σ (k x s') Q := by
  cases o with
  | bad => exact h
  | exc => exact h
  | ok r s1 => exact fun g' H' R' S' => ⟨r, rfl, OKat.step S' h⟩
theorem okat_args2 {α : Type} {Q : Gh → L2.Hp → α → Sta → Prop} {o : Res RV} {eb : Sta → Res RV} {k : RV → RV → Sta → Res α} (h : OKat T en Wx g H σ (o.bind fun x s => (eb s).bind fun y s => k x y s) Q) :
    OKat T en Wx g H σ (o.bind fun x s => ((eb s).bind fun y s => (.ok [y.d] s : Res (List D))).bind fun xs s => .ok (x.d :: xs) s) fun g' H' ds s' => ∃ x y : RV, ds = [x.d, y.d] ∧ OKat T en Wx g' H' σ (k x y s') Q := by
  cases o with
  | bad => exact h
  | exc => exact h
  | ok r s1 =>
    have h : OKat T en Wx g H σ ((eb s1).bind fun y s => k r y s) Q := h
    show OKat T en Wx g H σ (((eb s1).bind fun y s => (.ok [y.d] s : Res (List D))).bind fun xs s => .ok (r.d :: xs) s) _
    cases z : eb s1 with
    | bad => rw [z] at h; exact h
    | exc => rw [z] at h; exact h
    | ok r2 s2 =>
      rw [z] at h
      exact fun g' H' R' S' => ⟨r, r2, rfl, OKat.step S' h⟩
theorem it_range1 {p : Pos} (hg : Gl X "range") (hm : X.mg "range" = none) (ha : Snd X T en Wx a ea) (hs : starEach [a] X.env = [(false, eval a X.env)]) : SndI X T en Wx tg (.Call (.Name "range" p) [a] [] pos) (range1E ea) := ⟨fun esc => by
  refine pi_imp (pi_range1 hg hm (pa1 ha hs) hs) fun σ H R ⟨g, s, Rl, h⟩ => ?_
  refine ⟨g, s, Rl, OKat.mono (okat_args1 h) fun g1 H1 ds s1 R1 S1 ⟨x, ed, h1⟩ vs rvs => ?_⟩
  subst ed
  simp only [SeesL] at rvs
  obtain ⟨v, _, rfl, rv, rfl⟩ := rvs
  split at h1
  · rename_i n e1
    rw [e1] at rv
    have ev := rv.view.int
    subst ev
    split at h1
    · rename_i hs
      obtain ⟨b1, b2⟩ := small_in hs
      refine ⟨n, rfl, b1, b2, h1 g1 H1 R1 Step.rfl' _ [] ?_ fun p hp => nomatch hp⟩
      have := drw_range (T := T) (W := g1.W) (io := g1.io) (ps := []) (m := 0) (n := n)
      rwa [Int.sub_zero] at this
    · exact h1.elim
  · exact h1.elim⟩
theorem it_range2 {p : Pos} (hg : Gl X "range") (hm : X.mg "range" = none) (ha : Snd X T en Wx a ea) (hb : Snd X T en Wx b eb) (hs : starEach [a, b] X.env = [(false, eval a X.env), (false, eval b X.env)]) (hs2 : starEach [b] X.env = [(false, eval b X.env)]) :
    SndI X T en Wx tg (.Call (.Name "range" p) [a, b] [] pos) (range2E ea eb) := ⟨fun esc => by
  refine pi_imp (pi_range2 hg hm (pa_evalBs_cons ha (pa1 hb hs2) (by rw [hs, hs2])) hs hs2) fun σ H R ⟨g, s, Rl, h⟩ => ?_
  refine ⟨g, s, Rl, OKat.mono (okat_args2 h) fun g1 H1 ds s1 R1 S1 ⟨x, y, ed, h1⟩ vs rvs => ?_⟩
  subst ed
  simp only [SeesL] at rvs
  obtain ⟨v, _, rfl, rv, w, _, rfl, rw', rfl⟩ := rvs
  split at h1
  · rename_i m n e1 e2
    rw [e1] at rv; rw [e2] at rw'
    have ev := rv.view.int
    have ew := rw'.view.int
    subst ev ew
    split at h1
    · rename_i hs
      rw [Bool.and_eq_true] at hs
      obtain ⟨b1, b2⟩ := small_in hs.1
      obtain ⟨b3, b4⟩ := small_in hs.2
      exact ⟨m, n, rfl, ⟨b1, b2, b3, b4⟩, h1 g1 H1 R1 Step.rfl' _ [] drw_range fun p hp => nomatch hp⟩
    · exact h1.elim
  · exact h1.elim⟩

/-! ### enumerate -/
abbrev numD (xs : List D) : List D := xs.zipIdx.map fun p => .tup [.int p.2, p.1]
theorem numD_get {xs : List D} {i : Nat} {d : D} (h : xs[i]? = some d) : (numD xs)[i]? = some (.tup [.int i, d]) := by simp [numD, h]
theorem numD_len {xs : List D} : (numD xs).length = xs.length := by simp [numD]
theorem nw_pair {W : L2.Hp} {io : List Addr} {p : Addr} {i : Nat} {d : D} {x : V} (h : H p = none) (r : Rep T W io d x) : Nw T W io H ⟨.tup [.int i, d], false⟩ (.ref p) (upd H p (.tup [.int (i : Nat), x])) :=
  .tup h (RepL.cons (by simp only [Rep]) (RepL.cons r RepL.nil))
theorem drw_numL {W : L2.Hp} {io : List Addr} {ps : List (Addr × HO)} {p : Addr} {xs : List V} {ds : List D} (h : ∀ H, Same W H → (∀ q ∈ ps, H q.1 = some q.2) → SqL T.K H p xs) (r : RepL T W io ds xs) : Drw T W io ps (Ite T.K p) (numD ds) := by
  have := (walk_enum (K := T.K) (a := p) (xs := xs)).mono (G' := fun H => Same W H ∧ ∀ q ∈ ps, H q.1 = some q.2) (Y' := fun i H x H' => ∃ d, (numD ds)[i]? = some d ∧ Nw T W io H ⟨d, false⟩ x H') (fun H k => h H k.1 k.2) fun i H x H' hi k y => by
    obtain ⟨q, y1, y2, e1, e2, e3, e4, e5⟩ := y
    subst e1 e3
    cases e4
    obtain ⟨d, e6, e7⟩ := r.getV e5
    exact ⟨_, numD_get e6, nw_pair e2 e7⟩
  unfold Drw
  rw [numD_len, r.length]
  exact this
theorem drw_numT {W : L2.Hp} {io : List Addr} {ps : List (Addr × HO)} {p : Addr} {xs : List V} {ds : List D} (h : ∀ H, Same W H → SqT T.K H p xs) (r : RepL T W io ds xs) : Drw T W io ps (IteG (goT T.K p) (ylT T.K p) (stT T.K p)) (numD ds) := by
  unfold Drw
  rw [numD_len, r.length]
  refine ⟨fun i H hi k => ⟨xs, h H k.1, hi⟩, fun H k => ⟨xs, h H k.1, rfl⟩, fun i H x H' hi k y => ?_⟩
  obtain ⟨q, v, e1, e2, e3, e4⟩ := y
  subst e1 e3
  obtain ⟨d, e6, e7⟩ := r.getV (e4 xs (h H k.1))
  exact ⟨_, numD_get e6, nw_pair e2 e7⟩
theorem drw_numS {W : L2.Hp} {io : List Addr} {ps : List (Addr × HO)} {cs : List Nat} : Drw T W io ps (IteG (fun i _ => i < (sOf cs).cps.size) (fun i _ v => ∃ c, (sOf cs).cps[i]? = some c ∧ v = .str ⟨#[c]⟩) (fun i _ => (sOf cs).cps.size = i)) (numD (chars cs)) := by
  have hs : (sOf cs).cps.size = (chars cs).length := by simp [sOf, chars]
  unfold Drw
  rw [numD_len, ← hs]
  refine ⟨fun i H hi k => hi, fun H k => rfl, fun i H x H' hi k y => ?_⟩
  obtain ⟨q, v, e1, e2, e3, c, e4, e5⟩ := y
  subst e1 e3 e5
  have e4 : cs[i]? = some c := by simpa [sOf] using e4
  refine ⟨_, numD_get (d := .str [c]) (by rw [chars_get, e4]; rfl), nw_pair e2 ?_⟩
  simp only [Rep]
  exact ⟨rfl, show 1 ≤ lim by decide⟩
abbrev numE (ea : Bool → Sta → Res RV) : Bool → Sta → Res (List D) := fun esc s => (ofE ea esc s).bind fun xs s => .ok (numD xs) s
theorem pa_val {te : TE} (h : PE X a te) (hs : starEach [a] X.env = [(false, eval a X.env)]) : PA X [a] (fun σ H Q => te σ H fun v H1 => Q [v] H1) :=
  pa_imp (pa_cons h pa_nil hs) fun σ H Q q => q
theorem it_enum {p tpos : Pos} {elts : List Expr} {kk : Nat} (hK : X.K = T.K) (hg : Gl X "enumerate") (hm : X.mg "enumerate" = none) (ha : Snd X T en Wx a ea) (hs : starEach [a] X.env = [(false, eval a X.env)]) :
    SndI X T en Wx (.Tuple elts kk tpos) (.Call (.Name "enumerate" p) [a] [] pos) (numE ea) := ⟨fun esc => by
  have h := pi_enumA (tpos := tpos) (elts := elts) (kk := kk) (p := p) (pos := pos) hg hm (pa_val (ha.pe esc) hs) hs
  rw [hK] at h
  refine pi_imp h fun σ H R ⟨g, s, Rl, h⟩ => ?_
  unfold numE ofE at h
  rw [Res.bind_assoc] at h
  refine ⟨g, s, Rl, OKat.mono (OKat.bind' h) fun g1 H1 r1 s1 R1 S1 h1 v rv => ?_⟩
  have h2 : ∀ g2, Step g H g2 H1 → OKat T en Wx g2 H1 σ (ofO (seq? r1.d) s1) fun g' H' ds s' => ∀ J ps, Drw T g'.W g'.io ps J (numD ds) → (∀ p ∈ ps, H' p.1 = some p.2 ∧ p.1 ∉ g'.io ∧ esc = false) → R J H' := fun g2 S2 => by
    have h1 := h1 g2 S2
    cases z : seq? r1.d with
    | none => rw [z] at h1; exact h1
    | some ds => rw [z] at h1; exact h1
  rcases seq_in numD (JS := fun x => IteG (fun i _ => i < x.cps.size) (fun i _ v => ∃ c, x.cps[i]? = some c ∧ v = .str ⟨#[c]⟩) (fun i _ => x.cps.size = i)) (fun _ _ _ _ _ _ => drw_numL) (fun _ _ _ _ _ _ => drw_numT) (fun _ _ _ _ => drw_numS) R1 ⟨_, Rl⟩ S1 rv h2 with ⟨a, xs, e1, e2, e3⟩ | ⟨a, xs, e1, e2, e3⟩ | ⟨x, e1, e3⟩
  · exact .inl ⟨a, xs, by rw [e1], e2, e3⟩
  · exact .inr (.inl ⟨a, xs, by rw [e1], e2, e3⟩)
  · exact .inr (.inr ⟨x, by rw [e1], e3⟩)⟩
end
end Ev
end

section
/-! EvB11: comprehensions. -/
namespace Ev
open PySem PySem.Spec PyProof.Rows L2

section
variable {X : Cx} {T : Tx} {P : Prog} {en : Ent} {g g1 : Gh} {H H1 H2 : L2.Hp} {r : RV} {v : V} {σ : L2.St} {s : Sta} {Wx : WX} {esc : Bool}
variable {a b c : Expr} {pos : Pos} {ea eb ec : Bool → Sta → Res RV}

theorem look_hide {sl : List SV} {j : Nat} : look (sl.map hide) j = hide (look sl j) := by
  unfold look
  rw [List.getElem?_map]
  cases sl[j]? <;> rfl
theorem look_wipeS {is : List Nat} {j : Nat} : ∀ {sl : List SV}, look (wipeS sl is) j = if j ∈ is then .un else look sl j := by
  induction is with
  | nil => intro sl; simp [wipeS]
  | cons i is ih =>
    intro sl
    simp only [wipeS]
    rw [ih, look_put]
    by_cases h : j ∈ is
    · simp [h]
    · by_cases h2 : i = j
      · subst h2
        by_cases hi : i < sl.length
        · simp [hi]
        · simp [hi, h]
          unfold look
          rw [List.getElem?_eq_none (Nat.le_of_not_lt hi)]; rfl
      · have : j ≠ i := fun e => h2 e.symm
        simp [h, h2, this]
theorem wipeS_length {is : List Nat} : ∀ {sl : List SV}, (wipeS sl is).length = sl.length := by
  induction is with
  | nil => intro sl; rfl
  | cons i is ih => intro sl; simp only [wipeS]; rw [ih, put_length]
theorem wipe_eq {σ' : L2.St} {vs : List Nat} (hl : σ'.length = σ.length) (h : ∀ j, j ∉ vs → σ'[j]? = σ[j]?) : wipe σ' vs = wipe σ vs := by
  have get : ∀ (τ : L2.St) (vs : List Nat) (j : Nat), (wipe τ vs)[j]? = if j ∈ vs ∧ j < τ.length then some none else τ[j]? := by
    intro τ vs
    induction vs with
    | nil => intro j; simp [wipe]
    | cons v vs ih =>
      intro j
      unfold wipe
      rw [sig_set, wipe_length, ih]
      by_cases h1 : v = j
      · subst h1
        by_cases h2 : v < τ.length
        · simp [h2]
        · simp [h2]
      · have : j ≠ v := fun e => h1 e.symm
        simp [h1, this]
  apply List.ext_getElem?
  intro j
  rw [get, get, hl]
  split
  · rfl
  · rename_i hn
    by_cases hj : j ∈ vs
    · have : ¬ j < σ.length := fun z => hn ⟨hj, z⟩
      rw [List.getElem?_eq_none (by omega), List.getElem?_eq_none (by omega)]
    · exact h j hj

/-! ### a block within -/
def blkG (g : Gh) : Gh := { g with oa := [] }
def blkE (g : Gh) (H : L2.Hp) : Ent := ⟨H, g.W, g.io, [], true, none⟩
theorem Rel.blk (R : Rel T en g s σ H) (is : List Nat) : Rel T (blkE g H) (blkG g) ⟨wipeS (s.sl.map hide) is, s.hp⟩ (wipe σ is) H := by
  have nown : ∀ j d, look (wipeS (s.sl.map hide) is) j ≠ .own d := fun j d e => by
    rw [look_wipeS, look_hide] at e
    split at e
    · cases e
    · cases z : look s.sl j <;> rw [z] at e <;> simp [hide] at e
  refine ⟨R.sub, by rw [wipeS_length, wipe_length, List.length_map]; exact R.len, fun j => ?_, fun j k d e a h1 => absurd h1 (nown j d), R.mem, R.nd, fun i d e => ?_, fun a ha => (nomatch ha), fun a o e _ => e, fun a ha => (nomatch ha), fun a ha => .inl ha, fun a ha => ha, fun a ha => ha, fun a _ e => e, ⟨fun z => (nomatch z), fun _ z => (nomatch z)⟩⟩
  · show SlotR T [] (blkG g) H (wipe σ is)[j]? (look (wipeS (s.sl.map hide) is) j)
    rw [look_wipeS, look_hide]
    split
    · trivial
    · rename_i hj
      rw [wipe_out hj]
      have hs := R.slot j
      cases z : look s.sl j with
      | un => trivial
      | val d => rw [z] at hs; exact hs
      | own d =>
        rw [z] at hs
        obtain ⟨a, e, h1, h2, h3, h4⟩ := hs
        exact ⟨a, e, h1, h3, fun m => nomatch m⟩
      | ro d =>
        rw [z] at hs
        obtain ⟨a, e, h1, h2, h3⟩ := hs
        exact ⟨a, e, h1, h2, fun m => nomatch m⟩
      | exc c ns vs => trivial
  · obtain ⟨a, e1, e2, e3, e4⟩ := R.heap i d e
    exact ⟨a, e1, e2, e3, fun m => nomatch m⟩
theorem Rel.out {gb : Gh} {sb : Sta} {σb : L2.St} {Hb : L2.Hp} (R : Rel T en g s σ H) (B : Rel T (blkE g H) gb sb σb Hb) (S : Step (blkG g) H gb Hb) :
    Rel T en ⟨gb.W, gb.io, g.oa⟩ { s with hp := sb.hp } σ Hb ∧ Step g H ⟨gb.W, gb.io, g.oa⟩ Hb :=
  R.call B.hrel ⟨S.W, S.io, fun a o e n _ => S.kp a o e n, S.tr, S.ioF, fun a e _ w => B.wn a e w⟩
/-- a list that none has is written -/
theorem Rel.wr {p : Addr} {acc acc' : List V} (R : Rel T en g s σ H) (hp : H p = some (.lst acc)) (hW : g.W p = none) (hio : p ∉ g.io) (h0 : en.H0 p = none)
    (hs : ∀ j d, (look s.sl j = .own d ∨ look s.sl j = .ro d) → σ[j]? ≠ some (some (.ref p))) : Rel T en g s σ (upd H p (.lst acc')) := by
  have kp : ∀ a o, a ≠ p → H a = some o → upd H p (.lst acc') a = some o := fun a o n e => by rw [upd_ne n]; exact e
  refine ⟨fun a o e => kp a o (fun z => by rw [z, hW] at e; cases e) (R.sub a o e), R.len, fun i => ?_, R.dist, R.mem, R.nd, fun i d e => ?_, fun a ha => ?_, fun a o e n => kp a o (fun z => by rw [z, h0] at e; cases e) (R.base a o e n), R.oaF, R.ioF, fun a ha => ?_, R.ioP, R.wn, R.roF⟩
  · refine (R.slot i).mono sameR' Pre.rfl' (fun d b e1 e2 => ?_) (fun d b e1 e2 => ?_) fun dx fs e n => ⟨kp dx _ (fun z => by rw [z, hp] at e; cases e) e, n⟩
    · have q := R.slot i
      rw [e1] at q
      obtain ⟨c, e, h1, h2, h3, h4⟩ := q
      rw [e2] at e; cases e
      exact ⟨fun o => kp b o fun z => hs i d (.inl e1) (z ▸ e2), h2, h3, h4⟩
    · have q := R.slot i
      rw [e1] at q
      obtain ⟨c, e, h1, h2⟩ := q
      rw [e2] at e; cases e
      exact ⟨fun o => kp b o fun z => hs i d (.inr e1) (z ▸ e2), h2⟩
  · obtain ⟨b, e1, e2, e3, e4⟩ := R.heap i d e
    exact ⟨b, e1, e2.mono sameR' Pre.rfl' fun o => kp b o fun z => hio (z ▸ List.mem_of_getElem? e1), e3, e4⟩
  · by_cases z : a = p
    · subst z; rw [upd_same]; simp
    · rw [upd_ne z]; exact R.oaT a ha
  · by_cases z : a = p
    · subst z; rw [upd_same]; simp
    · rw [upd_ne z]; exact R.tr a ha
theorem step_wr {p : Addr} {o : HO} (S : Step g1 H1 g H) (h : H1 p = none) : Step g1 H1 g (upd H p o) :=
  ⟨S.W, S.io, S.oa, fun a x e n => by rw [upd_ne (ne_of_none e h)]; exact S.kp a x e n, fun a e => by
    rw [upd_ne (fun z => e (by rw [z]; exact h))]; exact S.tr a e, S.ioF, S.wn⟩
/-- an own thing that is nobody's yet: a value, or shared -/
theorem newV_own {Q : Gh → L2.Hp → RV → Sta → Prop} {g0 : Gh} {H0 : L2.Hp} {rs : Bool} {d : D} {p : Addr} (S : Step g0 H0 g H) (R : Rel T en g s σ H) (h : OKat T en Wx g0 H0 σ (newV rs d s) Q) (ha : At T g.W g.io H p d) (hW : g.W p = none) (h0 : H0 p = none) (hio : p ∉ g.io) (hen : en.H0 p = none) (hoa : p ∉ g.oa)
    (hro : ∀ i d', look s.sl i = .ro d' → σ[i]? ≠ some (some (.ref p))) : ∃ g' r s', Rel T en g' s' σ H ∧ Step g0 H0 g' H ∧ RetR T g' H0 H esc r (.ref p) ∧ Q g' H r s' := by
  unfold newV at h
  cases rs with
  | false => exact ⟨g, ⟨d, true⟩, s, R, S, by unfold RetR; simpa using ⟨ha, hW, h0, hio⟩, h g H R S⟩
  | true =>
    have R2 := R.share ha hW hen hio hoa hro
    have S2 : Step g0 H0 { g with io := g.io ++ [p] } H := ⟨S.W, Pre.tr S.io Pre.app, S.oa, S.kp, S.tr, fun a ha => by
      rcases List.mem_append.mp ha with m | m
      · exact S.ioF a m
      · have : a = p := by simpa using m
        subst this
        exact .inr h0, S.wn⟩
    refine ⟨_, _, _, R2, S2, ?_, h _ H R2 S2⟩
    refine retR_rep ?_
    simp only [Rep]
    refine ⟨p, rfl, ?_⟩
    rw [R.mem]
    simp

/-! ### comprehensions -/
abbrev WxF : WX := fun _ _ _ _ => False
def tTC (T : Tx) (en : Ent) (Wx : WX) (ev : Sta → Res Bool) : TT := fun σ H Q => ∃ g s, Rel T en g s σ H ∧ OKat T en Wx g H σ (ev s) fun g' H' b s' => Q b H'
theorem pts_none : PTs X [] (tTC T en Wx fun s => .ok true s) := ⟨fun pins s σ H Q I ⟨g, t, R, h⟩ => pts_nil.run pins s σ H Q I (h g H R Step.rfl')⟩
theorem pts_some (h : Snd X T en Wx c ec) : PTs X [c] (tTC T en Wx fun s => (ec false s).bind truth) := pts_one h.pt
theorem pg_ex {tg : Expr} {F : Ent → TG} (h : ∀ en, en.xs = [] → PG X tg (F en)) : PG X tg fun v σ H Q => ∃ en, en.xs = [] ∧ F en v σ H Q := ⟨fun pins s σ H v u Q I r ⟨en, z, q⟩ => (h en z).run pins s σ H v u Q I r q⟩
theorem pts_ex {ifs : List Expr} {F : Ent → TT} (h : ∀ en, en.xs = [] → PTs X ifs (F en)) : PTs X ifs fun σ H Q => ∃ en, en.xs = [] ∧ F en σ H Q := ⟨fun pins s σ H Q I ⟨en, z, q⟩ => (h en z).run pins s σ H Q I q⟩
theorem pe_ex {e : Expr} {F : Ent → TE} (h : ∀ en, en.xs = [] → PE X e (F en)) : PE X e fun σ H Q => ∃ en, en.xs = [] ∧ F en σ H Q := ⟨fun pins s σ H Q I ⟨en, z, q⟩ => (h en z).run pins s σ H Q I q⟩

/-- one turn -/
abbrev turnF (t : Tg) (ec : Sta → Res Bool) (ee : Bool → Sta → Res RV) (sl : List SV) : D → Mem → Res (Option D) := fun x h => match asgT t x (wipeS (sl.map hide) (slotsT t)) with
  | some sl => (ec ⟨sl, h⟩).bind fun k s => if k then (ee true s).bind fun y s => .ok (some y.d) s else .ok none s
  | none => .bad
abbrev lcE (rs : Bool) (t : Tg) (ei : Bool → Sta → Res (List D)) (ec : Sta → Res Bool) (ee : Bool → Sta → Res RV) : Bool → Sta → Res RV := fun _ s => (ei false s).bind fun xs s => match lcL (turnF t ec ee s.sl) xs s.hp with
  | some (ds, h) => if ds.length ≤ lim then newV rs (.lst ds) ⟨s.sl, h⟩ else .bad
  | none => .bad
theorem bind_ok_inv {α β : Type} {o : Res α} {k : α → Sta → Res β} {b : β} {s' : Sta} (h : o.bind k = .ok b s') : ∃ a s1, o = .ok a s1 ∧ k a s1 = .ok b s' := by
  cases o with
  | ok a s1 => exact ⟨a, s1, rfl, h⟩
  | exc => cases h
  | bad => cases h
theorem nw_mono {g2 : Gh} {H' : L2.Hp} (n : Nw T g.W g.io H r v H') (hw : Same g.W g2.W) (hi : Pre g.io g2.io) : Nw T g2.W g2.io H r v H' := by
  cases n with
  | same h => exact .same (h.mono hw hi)
  | tup hp hr => exact .tup hp (hr.mono hw hi)
  | lst hp hr => exact .lst hp (hr.mono hw hi)
  | dic hp hd hk hr => exact .dic hp hd (hk.mono hw hi) (hr.mono hw hi)
theorem lc_turns {rs : Bool} {t : Tg} {ei : Bool → Sta → Res (List D)} {et : Sta → Res Bool} {ee : Bool → Sta → Res RV} {vs : List Nat} (hv : vs = slotsT t) {Q : VK} (hR : Rel T en g s σ H) (h : OKat T en Wx g H σ (lcE rs t ei et ee esc s) fun g' H' r s' => ∀ v, RetR T g' H H' esc r v → Q v H') :
    tLc (tI T en Wx false (ei false)) (fun v σ H Q => ∃ en, en.xs = [] ∧ gD T en t v σ H Q) (fun σ H Q => ∃ en, en.xs = [] ∧ tTC T en WxF et σ H Q) (fun σ H Q => ∃ en, en.xs = [] ∧ tD T en WxF true (ee true) σ H Q) vs σ H Q := by
  refine ⟨g, s, hR, OKat.mono (OKat.bind h) fun g1 H1 xs s1 R1 S1 h1 J ps drw hps L hL => ?_⟩
  cases z : lcL (turnF t et ee s1.sl) xs s1.hp with
  | none => rw [z] at h1; exact h1.elim
  | some dh =>
    obtain ⟨ds, h'⟩ := dh
    rw [z] at h1
    dsimp only at h1
    split at h1
    case isFalse => exact h1.elim
    rename_i hlim
    have slotNe : ∀ j d, (look s1.sl j = .own d ∨ look s1.sl j = .ro d) → σ[j]? ≠ some (some (.ref L)) := fun j d e1 e2 => by
      have q := R1.slot j
      rcases e1 with e1 | e1
      · rw [e1] at q
        obtain ⟨c, e, h1, _⟩ := q
        rw [e2] at e; cases e
        exact h1.there hL
      · rw [e1] at q
        obtain ⟨c, e, h1, _⟩ := q
        rw [e2] at e; cases e
        exact h1.there hL
    have en0 : en.H0 L = none := new_0 R1 hL
    refine lc_it (g := fun v σ H Q => ∃ en, en.xs = [] ∧ gD T en t v σ H Q) (tt := fun σ H Q => ∃ en, en.xs = [] ∧ tTC T en WxF et σ H Q) (te := fun σ H Q => ∃ en, en.xs = [] ∧ tD T en WxF true (ee true) σ H Q) (vs := vs) (σ := σ) (H1 := H1) (D := L) (Qd := fun H => Q (.ref L) H) drw (fun i H => ∃ g' hm acc ds1 rest, Rel T en g' ⟨s1.sl, hm⟩ σ H ∧ Step g1 H1 g' H ∧ H L = some (.lst acc) ∧ RepL T g'.W g'.io ds1 acc ∧ L ∉ g'.io ∧ g'.W L = none ∧ lcL (turnF t et ee s1.sl) (xs.drop i) hm = some (rest, h') ∧ ds1 ++ rest = ds) ?_ ?_ ?_ ?_
    · exact ⟨g1, s1.hp, [], [], ds, R1.new hL, step_new hL, upd_same, RepL.nil, new_io R1 hL, new_W R1 hL, z, rfl⟩
    · rintro i H _ ⟨g', hm, acc, ds1, rest, R', S', _⟩
      exact ⟨sameTr S'.W R'.sub, fun p hp => S'.kp _ _ (hps p hp).1 (hps p hp).2.1⟩
    · rintro i x H H' hi ⟨g', hm, acc, ds1, rest, R', S', hLa, rl, nio, nW, ez, eds⟩ ⟨d, ed, nw⟩
      rw [List.drop_eq_getElem_cons hi] at ez
      have ed2 : xs[i] = d := by
        rw [List.getElem?_eq_getElem hi] at ed; cases ed; rfl
      rw [ed2] at ez
      simp only [lcL] at ez
      -- the block
      have RB := R'.blk vs
      obtain ⟨g2, R2, S2, rr⟩ := (nw_mono (g2 := blkG g') nw S'.W S'.io).ret (esc := true) RB
      have rep : Rep T g2.W g2.io d x := by unfold RetR at rr; simpa using rr
      cases zF : turnF t et ee s1.sl d hm with
      | bad => rw [zF] at ez; cases ez
      | exc => rw [zF] at ez; cases ez
      | ok o sF =>
      rw [zF] at ez
      dsimp only at ez
      simp only [turnF] at zF
      cases zt : asgT t d (wipeS (s1.sl.map hide) (slotsT t)) with
      | none => rw [zt] at zF; cases zF
      | some sl' =>
        rw [zt] at zF
        dsimp only at zF
        refine ⟨blkE g' H, rfl, g2, _, d, sl', R2, rep, by rw [hv]; exact zt, fun σ' R3 l3 k3 => ?_⟩
        refine ⟨?_, ?_⟩
        · have := wipe_eq (vs := vs) l3 (fun j hj => k3 j (by rw [← hv]; exact hj))
          rw [this]
          exact wipe_eq (wipe_length ..) fun j hj => wipe_out hj
        -- what comes of it
        have done : ∀ {g5 : Gh} {s5 : Sta} {H5 : L2.Hp}, Rel T (blkE g' H) g5 s5 σ' H5 → Step (blkG g') H g5 H5 →
            Rel T en ⟨g5.W, g5.io, g'.oa⟩ ⟨s1.sl, s5.hp⟩ σ H5 ∧ Step g1 H1 ⟨g5.W, g5.io, g'.oa⟩ H5 ∧ H5 L = some (.lst acc) ∧ RepL T g5.W g5.io ds1 acc ∧ L ∉ g5.io ∧ g5.W L = none := fun {g5 s5 H5} B S => by
          obtain ⟨RO, SO⟩ := R'.out B S
          refine ⟨RO, S'.trans SO, SO.kp _ _ hLa nio, rl.mono S.W S.io, fun m => ?_, B.wn L (show H L ≠ none by rw [hLa]; simp) nW⟩
          rcases S.ioF L m with q | q
          · exact nio q
          · rw [hLa] at q; cases q
        refine ⟨blkE g' H, rfl, g2, ⟨sl', hm⟩, R3, ?_⟩
        obtain ⟨k, s3, e3, e4⟩ := bind_ok_inv zF
        rw [e3]
        intro g3 H3 R4 S3
        cases zr : lcL (turnF t et ee s1.sl) (xs.drop (i + 1)) sF.hp with
        | none => rw [zr] at ez; cases ez
        | some rh =>
          obtain ⟨rest', h''⟩ := rh
          rw [zr] at ez
          simp only [Option.some.injEq, Prod.mk.injEq] at ez
          obtain ⟨er, eh⟩ := ez
          subst eh
          cases k with
          | false =>
            simp only [Bool.false_eq_true, if_false] at e4 ⊢
            cases e4
            obtain ⟨q1, q2, q3, q4, q5, q6⟩ := done R4 (S2.trans S3)
            exact ⟨_, _, acc, ds1, rest', q1, q2, q3, q4, q5, q6, zr, by rw [← eds, ← er]⟩
          | true =>
            simp only [if_true] at e4 ⊢
            obtain ⟨y, s5, e5, e6⟩ := bind_ok_inv e4
            cases e6
            refine ⟨blkE g' H, rfl, g3, s3, R4, ?_⟩
            rw [e5]
            intro g4 H4 R5 S4 v rv
            obtain ⟨g6, R6, S6, rep6, _⟩ := esc_rep R5 S4 (.inr ⟨_, R4⟩) rv
            obtain ⟨q1, q2, q3, q4, q5, q6⟩ := done R6 (S2.trans (S3.trans S6))
            have hlen : acc.length < lim := by
              rw [← rl.length]
              have : ds.length ≤ lim := hlim
              rw [← eds, ← er] at this
              simp only [List.length_append, List.length_cons] at this
              omega
            refine ⟨acc, q3, by rw [← lim_eq]; exact hlen, _, _, acc ++ [v], ds1 ++ [y.d], rest', q1.wr q3 q6 q5 en0 slotNe, step_wr q2 hL, upd_same, RepL.append q4 (RepL.cons rep6 RepL.nil), q5, q6, zr, ?_⟩
            rw [← eds, ← er]
            simp
    · rintro H ⟨g', hm, acc, ds1, rest, R', S', hLa, rl, nio, nW, ez, eds⟩
      rw [List.drop_length] at ez
      simp only [lcL, Option.some.injEq, Prod.mk.injEq] at ez
      obtain ⟨e1, e2⟩ := ez
      subst e1 e2
      rw [List.append_nil] at eds
      subst eds
      obtain ⟨g9, r9, s9, R9, S9, rr9, q9⟩ := newV_own (esc := esc) S' R' h1 ⟨acc, hLa, rl⟩ nW hL nio en0 (by rw [S'.oa]; exact new_oa R1 hL) fun i d' e => slotNe i d' (.inr e)
      exact q9 _ (rr9.step S1)

theorem ev_lc {rs : Bool} {t : Tg} {tg iter elt : Expr} {ifs : List Expr} {scope : Scope} {own : List (Str × Nat)} {ei : Bool → Sta → Res (List D)} {et : Sta → Res Bool} {ee : Bool → Sta → Res RV} (hc : X.calm = true) (hN : X.N.Nodup) (hi : SndI X T en Wx tg iter ei) (ok : BlkOk X.N X.env.scope scope own) (ho : own.map (·.2) = slotsT t)
    (hg : ∀ (en : Ent), en.xs = [] → ∀ (s : Shared) (H : L2.Hp) (C : Addr) (cl : List (Str × Addr)) (fp : List Addr), PG (X.blk s H scope (compEnvC scope cl C X.env) fp) tg (gD T en t)) (ht : ∀ (en : Ent), en.xs = [] → ∀ (s : Shared) (H : L2.Hp) (C : Addr) (cl : List (Str × Addr)) (fp : List Addr), PTs (X.blk s H scope (compEnvC scope cl C X.env) fp) ifs (tTC T en WxF et))
    (he : ∀ (en : Ent), en.xs = [] → ∀ (s : Shared) (H : L2.Hp) (C : Addr) (cl : List (Str × Addr)) (fp : List Addr), Snd (X.blk s H scope (compEnvC scope cl C X.env) fp) T en WxF elt ee) (hs : ∀ x, foldedSetIterable iter X.env x = pure x) :
    Snd X T en Wx (.ListComp elt [⟨tg, iter, ifs, 0⟩] scope pos) (lcE rs t ei et ee) :=
  snd_of fun esc => pe_imp (pe_lc hc hN (hi.pi false) ok (fun s H C cl fp => pg_ex fun en z => hg en z s H C cl fp) (fun s H C cl fp => pts_ex fun en z => ht en z s H C cl fp) (fun s H C cl fp => pe_ex fun en z => (he en z s H C cl fp).pe true) hs) fun σ H Q ⟨g, s, R, h⟩ => by
    rw [ho]
    exact lc_turns rfl R h
end
end Ev
end

section
/-! EvB12: statements. -/
namespace Ev
open PySem PySem.Spec PyProof.Rows L2

/-- the ghosts grow -/
def Gm (g g' : Gh) : Prop := Same g.W g'.W ∧ Pre g.io g'.io
theorem Gm.rfl' {g : Gh} : Gm g g := ⟨sameR', Pre.rfl'⟩
theorem Gm.trans {a b c : Gh} (h : Gm a b) (k : Gm b c) : Gm a c := ⟨sameTr h.1 k.1, Pre.tr h.2 k.2⟩
theorem Step.gm {g g' : Gh} {H H' : L2.Hp} (S : Step g H g' H') : Gm g g' := ⟨S.W, S.io⟩
/-- what is to be had of a statement's end -/
def OOK (T : Tx) (en : Ent) (Wx : WX) (g : Gh) (D : Ends) (o : Out) : Prop := match o with
  | .next s' => ∀ g' σ' H', Rel T en g' s' σ' H' → Gm g g' → D.nx σ' H'
  | .ret d fr s' => ∀ g' σ' H' v, Rel T en g' s' σ' H' → Gm g g' → RetR T g' en.H0 H' true ⟨d, fr⟩ v → D.rt v H'
  | .exc c ns ds s' => ∀ g' σ' H' d, Rel T en g' s' σ' H' → Gm g g' → ExcR T g'.W g'.io H' d ns ds → Wx (.ref (T.xa c)) (some d) σ' H'
  | .bad => False
def tS (T : Tx) (en : Ent) (Wx : WX) (ev : Sta → Out) : TS := fun D σ H => ∃ g s, Rel T en g s σ H ∧ OOK T en Wx g D (ev s)

section
variable {X : Cx} {T : Tx} {P : Prog} {en : Ent} {g g1 : Gh} {H H1 H2 : L2.Hp} {r : RV} {v : V} {σ : L2.St} {s : Sta} {Wx : WX} {esc : Bool} {D D' : Ends}
variable {a b c : Expr} {pos : Pos} {ea eb ec : Bool → Sta → Res RV}

theorem OOK.gm {o : Out} (h : OOK T en Wx g D o) (m : Gm g g1) : OOK T en Wx g1 D o := by
  cases o with
  | next s' => exact fun g' σ' H' R k => h g' σ' H' R (m.trans k)
  | ret d fr s' => exact fun g' σ' H' v R k rr => h g' σ' H' v R (m.trans k) rr
  | exc c ns ds s' => exact fun g' σ' H' d R k x => h g' σ' H' d R (m.trans k) x
  | bad => exact h
/-- the same but for what comes next -/
theorem OOK.ends {o : Out} (h : OOK T en Wx g D o) (hr : D.rt = D'.rt) (hn : ∀ s', o = .next s' → OOK T en Wx g D' o) : OOK T en Wx g D' o := by
  cases o with
  | next s' => exact hn s' rfl
  | ret d fr s' => exact fun g' σ' H' v R k rr => hr ▸ h g' σ' H' v R k rr
  | exc c ns ds s' => exact h
  | bad => exact h
/-- an expression first -/
theorem out_of {α : Type} {o : Res α} {f : α → Sta → Out} (h : OOK T en Wx g D (o.out f)) : OKat T en Wx g H σ o fun g' H' r s' => OOK T en Wx g' D (f r s') := by
  cases o with
  | ok r s1 => exact fun g' H' R S => h.gm S.gm
  | exc c ns ds s1 => exact fun g' H' d R S x => h g' σ H' d R S.gm x
  | bad => exact h
theorem ps_imp {st : Stmt} {t t' : TS} (h : PS X st t) (w : ∀ D σ H, t' D σ H → t D σ H) : PS X st t' := ⟨fun pins s σ H D I q => h.run pins s σ H D I (w D σ H q)⟩
theorem pss_imp {sts : List Stmt} {t t' : TS} (h : PSs X sts t) (w : ∀ D σ H, t' D σ H → t D σ H) : PSs X sts t' := ⟨fun pins s σ H D I q => h.run pins s σ H D I (w D σ H q)⟩
theorem ss_nil : PSs X [] (tS T en Wx fun s => .next s) := pss_imp pss_nil fun D σ H ⟨g, s, R, h⟩ => h g σ H R Gm.rfl'
theorem ss_cons {st : Stmt} {rest : List Stmt} {e1 e2 : Sta → Out} (h1 : PS X st (tS T en Wx e1)) (h2 : PSs X rest (tS T en Wx e2)) : PSs X (st :: rest) (tS T en Wx fun s => match e1 s with
    | .next s => e2 s
    | o => o) := pss_imp (pss_cons h1 h2) fun D σ H ⟨g, s, R, h⟩ => by
  refine ⟨g, s, R, ?_⟩
  dsimp only at h
  cases z : e1 s with
  | next s1 => rw [z] at h; exact fun g' σ' H' R' k => ⟨g', s1, R', h.gm k⟩
  | ret d fr s1 => rw [z] at h; exact h
  | exc c ns ds s1 => rw [z] at h; exact h
  | bad => rw [z] at h; exact h
/-- slots forgotten -/
theorem Rel.killS {is : List Nat} : ∀ {s : Sta}, Rel T en g s σ H → Rel T en g { s with sl := killS s.sl is } σ H := by
  induction is with
  | nil => intro s R; exact R
  | cons i is ih =>
    intro s R
    have R1 : Rel T en g { s with sl := put s.sl i .un } σ H := by
      refine ⟨R.sub, by rw [put_length]; exact R.len, fun j => ?_, fun j k d e b h1 h2 e1 e2 => ?_, R.mem, R.nd, R.heap, R.oaT, R.base, R.oaF, R.ioF, R.tr, R.ioP, R.wn, ⟨fun z => ro_put (R.roF.1 z) (fun _ y => nomatch y), R.roF.2⟩⟩
      · rw [look_put]; split
        · trivial
        · exact R.slot j
      · rw [look_put] at h1 h2
        split at h1
        · cases h1
        · split at h2
          · cases h2
          · exact R.dist j k d e b h1 h2 e1 e2
    exact ih R1
theorem ss_kill {sts : List Stmt} {is : List Nat} {ev : Sta → Out} (h : PSs X sts (tS T en Wx ev)) : PSs X sts (tS T en Wx fun s => ev { s with sl := killS s.sl is }) :=
  pss_imp h fun D σ H ⟨g, s, R, h⟩ => ⟨g, _, R.killS, h⟩
theorem st_pass : PS X (.Pass pos) (tS T en Wx fun s => .next s) := ps_imp ps_pass fun D σ H ⟨g, s, R, h⟩ => h g σ H R Gm.rfl'
theorem st_expr (ha : Snd X T en Wx a ea) (hs : swapsWith a none pos.line X.env = pure false) : PS X (.Expr a pos) (tS T en Wx fun s => (ea false s).out fun _ s => .next s) :=
  ps_imp (ps_expr (ha.pe false) hs) fun D σ H ⟨g, s, R, h⟩ => ⟨g, s, R, OKat.mono (out_of h) fun g' H' r s' R' S' q v rv => q g' σ H' R' Gm.rfl'⟩
theorem st_if {p q : List Stmt} {e1 e2 : Sta → Out} (hc : Snd X T en Wx c ec) (hp : PSs X p (tS T en Wx e1)) (hq : PSs X q (tS T en Wx e2)) :
    PS X (.If c p q pos) (tS T en Wx fun s => ((ec false s).bind truth).out fun k s => if k then e1 s else e2 s) := ps_imp (ps_if hc.pt hp hq) fun D σ H ⟨g, s, R, h⟩ =>
  ⟨g, s, R, OKat.mono (out_of h) fun g' H' k s' R' S' q => by
    cases k with
    | true => exact ⟨g', s', R', q⟩
    | false => exact ⟨g', s', R', q⟩⟩
theorem iter_succ {α β : Type} {f : α → Stp α β} {n : Nat} {x : α} {y : β} (h : iter f n x = some y) : ∃ m, n = m + 1 := by
  cases n with
  | zero => simp [iter] at h
  | succ m => exact ⟨m, rfl⟩
theorem st_while {body : List Stmt} {eb : Sta → Out} (hp : PassesOwn (model X.prog X.w) X.A X.env X.xe) (hc : Snd X T en Wx c ec) (hb : PSs X body (tS T en Wx eb)) :
    PS X (.While c body [] pos) (tS T en Wx fun s => loop (whS (ec false) eb) .bad s) := ps_imp (ps_while hp hc.pt hb) fun D σ H ⟨g, s, R, h⟩ => by
  have h : OOK T en Wx g D (loop (whS (ec false) eb) .bad s) := h
  have hne : loop (whS (ec false) eb) .bad s ≠ .bad := fun e => by rw [e] at h; exact h
  obtain ⟨n, hn⟩ := loop_some hne
  generalize loop (whS (ec false) eb) .bad s = o at hn h
  refine ⟨fun m σ' H' => ∃ g' s', Rel T en g' s' σ' H' ∧ Gm g g' ∧ iter (whS (ec false) eb) m s' = some o, ⟨n, g, s, R, Gm.rfl', hn⟩, ?_⟩
  rintro m σ' H' ⟨g', s', R', k', hm⟩
  obtain ⟨m, rfl⟩ := iter_succ hm
  refine ⟨g', s', R', ?_⟩
  simp only [iter, whS] at hm
  cases z : (ec false s').bind truth with
  | bad =>
    rw [z] at hm
    dsimp only at hm
    cases hm
    exact h
  | exc c ns ds s1 =>
    rw [z] at hm
    dsimp only at hm
    cases hm
    exact fun g2 H2 d R2 S2 x => h g2 σ' H2 d R2 (k'.trans S2.gm) x
  | ok b s1 =>
    rw [z] at hm
    intro g2 H2 R2 S2
    cases b with
    | false =>
      dsimp only at hm
      cases hm
      exact h g2 σ' H2 R2 (k'.trans S2.gm)
    | true =>
      dsimp only at hm
      simp only [if_true]
      refine ⟨fun σ3 H3 => ∃ g3 s3, Rel T en g3 s3 σ3 H3 ∧ Gm g g3 ∧ iter (whS (ec false) eb) m s3 = some o, fun σ3 H3 q => ⟨m, Nat.lt_succ_self _, q⟩, g2, s1, R2, ?_⟩
      cases y : eb s1 with
      | next s2 =>
        rw [y] at hm
        exact fun g3 σ3 H3 R3 k3 => ⟨g3, s2, R3, (k'.trans S2.gm).trans k3, hm⟩
      | ret d fr s2 =>
        rw [y] at hm
        dsimp only at hm
        cases hm
        exact fun g3 σ3 H3 v R3 k3 rr => h g3 σ3 H3 v R3 ((k'.trans S2.gm).trans k3) rr
      | exc c ns ds s2 =>
        rw [y] at hm
        dsimp only at hm
        cases hm
        exact fun g3 σ3 H3 d R3 k3 x => h g3 σ3 H3 d R3 ((k'.trans S2.gm).trans k3) x
      | bad =>
        rw [y] at hm
        dsimp only at hm
        cases hm
        exact h
theorem st_for {t : Tg} {tg iter : Expr} {body : List Stmt} {ei : Bool → Sta → Res (List Ev.D)} {eb : Sta → Out} (hp : PassesOwn (model X.prog X.w) X.A X.env X.xe) (hc : X.calm = true) (hi : SndI X T en Wx tg iter ei) (hg : PG X tg (gD T en t)) (hb : PSs X body (tS T en Wx eb)) (hs : ∀ x, foldedSetIterable iter X.env x = pure x) :
    PS X (.For tg iter body [] pos) (tS T en Wx fun s => (ei true s).out fun xs s => forL t eb xs s) := ps_imp (ps_for hp hc (hi.pi true) hg hb hs) fun D σ H ⟨g, s, R, h⟩ => by
  refine ⟨g, s, R, OKat.mono (out_of h) fun g1 H1 xs s1 R1 S1 h1 J ps drw hps => ?_⟩
  refine for_it drw (fun i σ' H' => ∃ g' s', Rel T en g' s' σ' H' ∧ Gm g1 g' ∧ OOK T en Wx g' D (forL t eb (xs.drop i) s')) ⟨g1, s1, R1, Gm.rfl', h1⟩ ?_ ?_ ?_
  · rintro i σ' H' _ ⟨g', s', R', k', _⟩
    exact ⟨sameTr k'.1 R'.sub, fun p hp => nomatch (hps p hp).2.2⟩
  · rintro i x σ' H' H2 hi ⟨g', s', R', k', h'⟩ ⟨d, ed, nw⟩
    rw [List.drop_eq_getElem_cons hi] at h'
    have ed2 : xs[i] = d := by
      rw [List.getElem?_eq_getElem hi] at ed; cases ed; rfl
    rw [ed2] at h'
    simp only [forL] at h'
    obtain ⟨g2, R2, S2, rr⟩ := (nw_mono nw k'.1 k'.2).ret (esc := true) R'
    have rep : Rep T g2.W g2.io d x := by unfold RetR at rr; simpa using rr
    cases zt : asgT t d s'.sl with
    | none => rw [zt] at h'; exact h'.elim
    | some sl' =>
      rw [zt] at h'
      dsimp only at h'
      refine ⟨g2, s', d, sl', R2, rep, zt, fun σ3 R3 l3 k3 => ⟨g2, _, R3, ?_⟩⟩
      cases y : eb ⟨sl', s'.hp⟩ with
      | next s4 =>
        rw [y] at h'
        exact fun g4 σ4 H4 R4 k4 => ⟨g4, s4, R4, (k'.trans S2.gm).trans k4, h'.gm (S2.gm.trans k4)⟩
      | ret d fr s4 => rw [y] at h'; exact h'.gm S2.gm
      | exc c ns ds s4 => rw [y] at h'; exact h'.gm S2.gm
      | bad => rw [y] at h'; exact h'
  · rintro σ' H' ⟨g', s', R', k', h'⟩
    rw [List.drop_length] at h'
    exact h' g' σ' H' R' Gm.rfl'
/-- a fresh value is nobody's -/
theorem fresh_oa {p : Addr} (R : Rel T en g s σ H) (S : Step g H g1 H1) (h : H p = none) : p ∉ g1.oa := by rw [S.oa]; exact new_oa R h
theorem fresh_ro {p : Addr} {i : Nat} {d : Ev.D} {s1 : Sta} (R : Rel T en g s σ H) (h : H p = none) (e : look s.sl i = .ro d) : σ[i]? ≠ some (some (.ref p)) := fun z => by
  have q := R.slot i
  rw [e] at q
  obtain ⟨c, e3, e4, _⟩ := q
  rw [z] at e3; cases e3
  exact e4.there h
end
end Ev
end

section
/-! EvB13: assignments, returns. -/
namespace Ev
open PySem PySem.Spec PyProof.Rows L2

section
variable {X : Cx} {T : Tx} {P : Prog} {en : Ent} {g g1 : Gh} {H H1 H2 : L2.Hp} {r : RV} {v : V} {σ : L2.St} {s : Sta} {Wx : WX} {esc : Bool}
variable {a b c : Expr} {pos : Pos} {ea eb ec : Bool → Sta → Res RV}

/-- an expression first, what is at hand frozen between -/
theorem out_of' {De : Ends} {α : Type} {o : Res α} {f : α → Sta → Out} (h : OOK T en Wx g De (o.out f)) : OKat T en Wx g H σ o fun g' H' r s' => ∀ g2, Gm g g2 → OOK T en Wx g2 De (f r s') := by
  cases o with
  | ok r s1 => exact fun g' H' R S g2 k => h.gm k
  | exc c ns ds s1 => exact fun g' H' d R S x => h g' σ H' d R S.gm x
  | bad => exact h
/-- a slot gets a value -/
theorem Rel.setRV {i : Nat} {H0 : L2.Hp} (hi0 : i ≠ 0) (R : Rel T en g s σ H) (rr : RetR T g H0 H true r v) (hf : ∀ p, H0 p = none → p ∉ g.oa ∧ en.H0 p = none) (ro : en.ro = false) :
    ∃ g', Rel T en g' { s with sl := put s.sl i (svOf r) } (σ.set i (some v)) H ∧ Gm g g' ∧ g'.W = g.W ∧ g'.io = g.io ∧ (∀ p ∈ g'.oa, p ∈ g.oa ∨ (r.fr = true ∧ v = .ref p)) := by
  unfold RetR at rr
  split at rr
  · rename_i e
    obtain ⟨p, rfl, h1, h2, h3, h4⟩ := rr
    obtain ⟨f1, f2⟩ := hf p h3
    refine ⟨{ g with oa := p :: g.oa }, ?_, Gm.rfl', rfl, rfl, fun q hq => ?_⟩
    · unfold svOf
      rw [if_pos e]
      exact R.setOwn hi0 h1 h2 f2 h4 f1 fun j d' z => absurd z (R.roF.1 ro j d')
    · rcases List.mem_cons.mp hq with z | z
      · subst z; exact .inr ⟨e, rfl⟩
      · exact .inl z
  · rename_i e
    simp only [if_true] at rr
    refine ⟨g, ?_, Gm.rfl', rfl, rfl, fun q hq => .inl hq⟩
    unfold svOf
    rw [if_neg e]
    exact R.setVal hi0 rr
theorem fresh_in {p : Addr} (R : Rel T en g s σ H) (S : Step g H g1 H1) (h : H p = none) : p ∉ g1.oa ∧ en.H0 p = none := ⟨fresh_oa R S h, new_0 R h⟩

abbrev setS (i : Nat) (ea : Bool → Sta → Res RV) : Sta → Out := fun s => (ea true s).out fun x s => .next { s with sl := put s.sl i (svOf x) }
theorem st_set {i : Nat} {st : Stmt} (hi0 : i ≠ 0) (ro : en.ro = false) (h : PS X st (tAsg (tD T en Wx true (ea true)) (gName i))) : PS X st (tS T en Wx (setS i ea)) := ps_imp h fun De σ H ⟨g, s, R, h⟩ => by
  refine ⟨g, s, R, OKat.mono (out_of' h) fun g1 H1 r1 s1 R1 S1 q v rv => ?_⟩
  obtain ⟨g2, R2, k2, _⟩ := R1.setRV (i := i) hi0 rv (fun p hp => fresh_in R S1 hp) ro
  exact q g1 S1.gm g2 _ H1 R2 k2
theorem st_setE {i : Nat} {x : Str} {p : Pos} (hi0 : i ≠ 0) (ro : en.ro = false) (hN : X.N.Nodup) (hi : X.N[i]? = some x) (hx : Loc X.env.scope x) (hf : X.fn x = true ∨ X.env.scope.names.lookup x = some .local) (ha : Snd X T en Wx a ea) (hs : swapsWith a (some (.Name x p)) pos.line X.env = pure false) :
    PS X (.Assign [.Name x p] a pos) (tS T en Wx (setS i ea)) := st_set hi0 ro (ps_set hN hi hx (ha.pe true) hs hf)
theorem st_setLc {i : Nat} {y : Str} {py spos : Pos} {rs : Bool} {t : Tg} {tg iter elt : Expr} {ifs : List Expr} {scope : Scope} {own : List (Str × Nat)} {ei : Bool → Sta → Res (List D)} {et : Sta → Res Bool} {ee : Bool → Sta → Res RV} (hi0 : i ≠ 0) (ro : en.ro = false) (hc : X.calm = true) (hN : X.N.Nodup) (hy : X.N[i]? = some y) (hyl : X.env.scope.names.lookup y = some .local)
    (hsw : swapsWith (.ListComp elt [⟨tg, iter, ifs, 0⟩] scope pos) (some (.Name y py)) spos.line X.env = pure true) (hi : SndI X T en Wx tg iter ei) (ok : BlkOk X.N X.env.scope scope own) (ho : own.map (·.2) = slotsT t)
    (hg : ∀ (en : Ent), en.xs = [] → ∀ (s : Shared) (H : L2.Hp) (C : Addr) (cl : List (Str × Addr)) (fp : List Addr), PG (X.blk s H scope (compEnvC scope cl C X.env) fp) tg (gD T en t)) (ht : ∀ (en : Ent), en.xs = [] → ∀ (s : Shared) (H : L2.Hp) (C : Addr) (cl : List (Str × Addr)) (fp : List Addr), PTs (X.blk s H scope (compEnvC scope cl C X.env) fp) ifs (tTC T en WxF et))
    (he : ∀ (en : Ent), en.xs = [] → ∀ (s : Shared) (H : L2.Hp) (C : Addr) (cl : List (Str × Addr)) (fp : List Addr), Snd (X.blk s H scope (compEnvC scope cl C X.env) fp) T en WxF elt ee) (hs : ∀ x, foldedSetIterable iter X.env x = pure x) :
    PS X (.Assign [.Name y py] (.ListComp elt [⟨tg, iter, ifs, 0⟩] scope pos) spos) (tS T en Wx (setS i (lcE rs t ei et ee))) :=
  st_set hi0 ro (ps_imp (ps_setLc hc hN hy hyl hsw (hi.pi false) ok (fun s H C cl fp => pg_ex fun en z => hg en z s H C cl fp) (fun s H C cl fp => pts_ex fun en z => ht en z s H C cl fp) (fun s H C cl fp => pe_ex fun en z => (he en z s H C cl fp).pe true) hs) fun De σ H ⟨g, s, R, h⟩ => by
    show tLc _ _ _ _ (own.map (·.2)) σ H _
    rw [ho]
    exact lc_turns (esc := true) rfl R h)
/-- a tuple of targets -/
theorem st_asgT {t : Tg} {tg : Expr} (ha : Snd X T en Wx a ea) (hg : PG X tg (gD T en t)) (hs : swapsWithSole [tg] a pos.line X.env = pure false) (hw : swappedStores [tg] a X.env = pure none) (h1 : (assignEach [tg] X.env).map (·.2) = [assign tg X.env]) :
    PS X (.Assign [tg] a pos) (tS T en Wx fun s => (ea true s).out fun x s => match asgT t x.d s.sl with
      | some sl => .next { s with sl := sl }
      | none => .bad) := ps_imp (ps_asg (ha.pe true) hg hs hw h1) fun De σ H ⟨g, s, R, h⟩ => by
  refine ⟨g, s, R, OKat.mono (out_of' h) fun g1 H1 r1 s1 R1 S1 q v rv => ?_⟩
  obtain ⟨g2, R2, S2, rep, _⟩ := esc_rep R1 S1 (.inr ⟨_, R⟩) rv
  have q2 := q g2 S2.gm
  cases zt : asgT t r1.d s1.sl with
  | none => rw [zt] at q2; exact q2.elim
  | some sl' =>
    rw [zt] at q2
    exact ⟨g2, s1, r1.d, sl', R2, rep, zt, fun σ3 R3 _ _ => q2 g2 σ3 H1 R3 Gm.rfl'⟩

/-! ### names, one by one -/
def PendL (T : Tx) (g : Gh) (H H' : L2.Hp) : List RV → List V → Prop
  | [], vs => vs = []
  | r :: rs, vs => ∃ v us, vs = v :: us ∧ RetR T g H H' true r v ∧ PendL T g H H' rs us ∧ ∀ p, r.fr = true → v = .ref p → ∀ (j : Nat) (r' : RV), rs[j]? = some r' → r'.fr = true → us[j]? ≠ some (.ref p)
theorem PendL.retr {rs : List RV} : ∀ {vs : List V} {j : Nat} {r : RV}, PendL T g H H1 rs vs → rs[j]? = some r → ∃ v, vs[j]? = some v ∧ RetR T g H H1 true r v := by
  induction rs with
  | nil => intro vs j r h e; simp at e
  | cons x rs ih =>
    intro vs j r h e
    simp only [PendL] at h
    obtain ⟨v, us, rfl, h1, h2, h3⟩ := h
    cases j with
    | zero => simp at e; subst e; exact ⟨v, rfl, h1⟩
    | succ j =>
      obtain ⟨w, e1, e2⟩ := ih h2 (by simpa using e)
      exact ⟨w, by simpa using e1, e2⟩
theorem RetR.later {H0 : L2.Hp} (R1 : Rel T en g1 s σ H1) (noa : r.fr = true → ∀ p, v = .ref p → p ∉ g1.oa) (h : RetR T g1 H0 H1 true r v) {g2 : Gh} (S : Step g1 H1 g2 H2) : RetR T g2 H0 H2 true r v := by
  unfold RetR at h ⊢
  split at h
  · rename_i e
    rw [if_pos e]
    obtain ⟨p, rfl, h1, h2, h3, h4⟩ := h
    exact ⟨p, rfl, h1.mono S.W S.io fun o z => S.kp p o z h4, S.wn p h1.there (noa e p rfl) h2, h3, fun m => by
      rcases S.ioF p m with z | z
      · exact h4 z
      · exact h1.there z⟩
  · rename_i e
    rw [if_neg e]
    simp only [if_true] at h ⊢
    exact h.mono S.W S.io
theorem PendL.base {rs : List RV} : ∀ {vs : List V}, PendL T g H1 H2 rs vs → (∀ p, H1 p = none → H p = none) → PendL T g H H2 rs vs := by
  induction rs with
  | nil => intro vs h _; exact h
  | cons x rs ih =>
    intro vs h hb
    simp only [PendL] at h ⊢
    obtain ⟨v, us, rfl, h1, h2, h3⟩ := h
    refine ⟨v, us, rfl, ?_, ih h2 hb, h3⟩
    unfold RetR at h1 ⊢
    split at h1
    · rename_i e
      rw [if_pos e]
      obtain ⟨p, e1, e2, e3, e4, e5⟩ := h1
      exact ⟨p, e1, e2, e3, hb p e4, e5⟩
    · rename_i e
      rw [if_neg e]
      exact h1
def tDP (T : Tx) (en : Ent) (Wx : WX) (ev : Sta → Res (List RV)) : TA := fun σ H Q => ∃ g s, Rel T en g s σ H ∧
  OKat T en Wx g H σ (ev s) fun g' H' rs s' => ∀ vs, PendL T g' H H' rs vs → Q vs H'
theorem pa_evalPs_nil : PA X [] (tDP T en Wx fun s => .ok [] s) :=
  pa_imp pa_nil fun σ H Q ⟨g, s, R, h⟩ => h g H R Step.rfl' [] (by simp only [PendL])
theorem pa_evalPs_cons {es : List Expr} {el : Sta → Res (List RV)} (ha : Snd X T en Wx a ea) (hr : PA X es (tDP T en Wx el)) (hs : starEach (a :: es) X.env = (false, eval a X.env) :: starEach es X.env) :
    PA X (a :: es) (tDP T en Wx fun s => (ea true s).bind fun x s => (el s).bind fun xs s => .ok (x :: xs) s) := by
  refine pa_imp (pa_cons (ha.pe true) hr hs) fun σ H Q ⟨g, s, R, h⟩ => ?_
  refine ⟨g, s, R, OKat.mono (OKat.bind h) fun g1 H1 r1 s1 R1 S1 h1 x rx => ?_⟩
  refine ⟨g1, s1, R1, OKat.mono (OKat.bind h1) fun g3 H3 ds s3 R3 S3 h3 vs rvs => ?_⟩
  refine h3 g3 H3 R3 Step.rfl' (x :: vs) ?_
  simp only [PendL]
  have noa : r1.fr = true → ∀ p, x = .ref p → p ∉ g1.oa := fun e p ep => by
    unfold RetR at rx
    rw [if_pos e] at rx
    obtain ⟨q, eq, _, _, h5, _⟩ := rx
    rw [ep] at eq; cases eq
    exact fresh_oa R S1 h5
  refine ⟨x, vs, rfl, rx.later R1 noa S3, rvs.base fun p => S1.none, fun p e ep j r' ej ef ez => ?_⟩
  obtain ⟨w, e1, e2⟩ := rvs.retr ej
  rw [ez] at e1; cases e1
  unfold RetR at e2
  rw [if_pos ef] at e2
  obtain ⟨q, eq, _, _, h5, _⟩ := e2
  cases eq
  unfold RetR at rx
  rw [if_pos e] at rx
  obtain ⟨q, eq, h6, _⟩ := rx
  rw [ep] at eq; cases eq
  exact h6.there h5
/-- slots one by one -/
def sets (σ : L2.St) : List Nat → List V → L2.St
  | i :: is, v :: vs => sets (σ.set i (some v)) is vs
  | _, _ => σ
theorem Rel.setPs {H0 : L2.Hp} (ro : en.ro = false) (h0 : ∀ p, H0 p = none → en.H0 p = none) : ∀ {is : List Nat} {rs : List RV} {vs : List V} {g : Gh} {s : Sta} {σ : L2.St}, Rel T en g s σ H → (∀ i ∈ is, i ≠ 0) → is.length = rs.length → PendL T g H0 H rs vs →
    (∀ (j : Nat) (r : RV) (p : Addr), rs[j]? = some r → r.fr = true → vs[j]? = some (.ref p) → p ∉ g.oa) → ∃ g', Rel T en g' { s with sl := putP is rs s.sl } (sets σ is vs) H ∧ Gm g g'
  | [], [], vs, g, s, σ, R, _, _, _, _ => ⟨g, by simpa [putP, sets] using R, Gm.rfl'⟩
  | i :: is, r :: rs, vs, g, s, σ, R, hz, hl, h, ho => by
    have hi0 : i ≠ 0 := hz i List.mem_cons_self
    simp only [PendL] at h
    obtain ⟨v, us, rfl, h1, h2, h3⟩ := h
    have hf : ∃ g1, Rel T en g1 { s with sl := put s.sl i (svOf r) } (σ.set i (some v)) H ∧ Gm g g1 ∧ g1.W = g.W ∧ g1.io = g.io ∧ (∀ p ∈ g1.oa, p ∈ g.oa ∨ (r.fr = true ∧ v = .ref p)) := by
      by_cases e : r.fr = true
      · have h1' := h1
        unfold RetR at h1'
        rw [if_pos e] at h1'
        obtain ⟨p, rfl, k1, k2, k3, k4⟩ := h1'
        have n1 := ho 0 r p rfl e rfl
        refine ⟨{ g with oa := p :: g.oa }, ?_, Gm.rfl', rfl, rfl, fun q hq => ?_⟩
        · unfold svOf
          rw [if_pos e]
          exact R.setOwn hi0 k1 k2 (h0 p k3) k4 n1 fun j d' z => absurd z (R.roF.1 ro j d')
        · rcases List.mem_cons.mp hq with z | z
          · subst z; exact .inr ⟨e, rfl⟩
          · exact .inl z
      · have h1' := h1
        unfold RetR at h1'
        rw [if_neg e, if_pos rfl] at h1'
        refine ⟨g, ?_, Gm.rfl', rfl, rfl, fun q hq => .inl hq⟩
        unfold svOf
        rw [if_neg e]
        exact R.setVal hi0 h1'
    obtain ⟨g1, R1, k1, eW, eio, eoa⟩ := hf
    have h2' : PendL T g1 H0 H rs us := by
      have : ∀ (rs : List RV) (us : List V), PendL T g H0 H rs us → PendL T g1 H0 H rs us := by
        intro rs
        induction rs with
        | nil => intro us h; exact h
        | cons x rs ih =>
          intro us h
          simp only [PendL] at h ⊢
          obtain ⟨v, us, rfl, h1, h2, h3⟩ := h
          refine ⟨v, us, rfl, ?_, ih us h2, h3⟩
          unfold RetR at h1 ⊢
          rw [eW, eio]
          exact h1
      exact this rs us h2
    obtain ⟨g2, R2, k2⟩ := Rel.setPs ro h0 R1 (fun j m => hz j (List.mem_cons_of_mem _ m)) (by simpa using hl) h2' fun j r' p e1 e2 e3 m => by
      rcases eoa p m with z | ⟨z1, z2⟩
      · exact ho (j + 1) r' p (by simpa using e1) e2 (by simpa using e3) z
      · exact h3 p z1 z2 j r' e1 e2 e3
    exact ⟨g2, by simpa [putP, sets] using R2, k1.trans k2⟩
/-- the store of several -/
abbrev setPS (is : List Nat) (el : Sta → Res (List RV)) : Sta → Out := fun s => (el s).out fun rs s => .next { s with sl := putP is rs s.sl }
theorem par_ok {De : Ends} {is : List Nat} {rs : List RV} {vs : List V} {g1 : Gh} {s1 : Sta} {o : HO} {H2 : L2.Hp} (hz : ∀ i ∈ is, i ≠ 0) (ro : en.ro = false) (R : Rel T en g s σ H) (S1 : Step g H g1 H1) (R1 : Rel T en g1 s1 σ H1) (R2 : Rel T en g1 s1 σ H2) (hat : ∀ a x, H1 a = some x → H2 a = some x) (hl : is.length = rs.length) (rvs : PendL T g1 H H1 rs vs)
    (q : OOK T en Wx g1 De (.next { s1 with sl := putP is rs s1.sl })) : De.nx (sets σ is vs) H2 := by
  have rvs2 : PendL T g1 H H2 rs vs := by
    have : ∀ (rs : List RV) (us : List V), PendL T g1 H H1 rs us → PendL T g1 H H2 rs us := by
      intro rs
      induction rs with
      | nil => intro us h; exact h
      | cons x rs ih =>
        intro us h
        simp only [PendL] at h ⊢
        obtain ⟨v, us, rfl, h1, h2, h3⟩ := h
        refine ⟨v, us, rfl, ?_, ih us h2, h3⟩
        unfold RetR at h1 ⊢
        split at h1
        · rename_i e
          rw [if_pos e]
          obtain ⟨p, e1, e2, e3⟩ := h1
          exact ⟨p, e1, e2.mono sameR' Pre.rfl' (hat p), e3⟩
        · rename_i e
          rw [if_neg e]
          exact h1
    exact this rs vs rvs
  obtain ⟨g2, R3, k3⟩ := Rel.setPs (is := is) ro (fun p hp => new_0 R hp) R2 hz hl rvs2 fun j r p e1 e2 e3 => by
    obtain ⟨w, f1, f2⟩ := rvs.retr e1
    rw [e3] at f1; cases f1
    unfold RetR at f2
    rw [if_pos e2] at f2
    obtain ⟨p', ep, _, _, h5, _⟩ := f2
    cases ep
    exact fresh_oa R S1 h5
  exact q g2 _ H2 R3 k3
theorem evalPs_length {el : Sta → Res (List RV)} {n : Nat} (hn : ∀ s rs s', el s = .ok rs s' → rs.length = n) {De : Ends} {is : List Nat} (h : OOK T en Wx g De (setPS is el s)) :
    OKat T en Wx g H σ (el s) fun g' H' rs s' => rs.length = n ∧ OOK T en Wx g' De (.next { s' with sl := putP is rs s'.sl }) := by
  cases z : el s with
  | bad => unfold setPS at h; rw [z] at h; exact h
  | exc c ns ds s1 =>
    unfold setPS at h; rw [z] at h
    exact fun g' H' d R S x => h g' σ H' d R S.gm x
  | ok rs s1 =>
    unfold setPS at h; rw [z] at h
    exact fun g' H' R S => ⟨hn s rs s1 z, OOK.gm h S.gm⟩
theorem st_par2 {i j : Nat} {x y : Str} {px py pt pt2 : Pos} {kt k2 : Nat} {el : Sta → Res (List RV)} (hz : ∀ k ∈ [i, j], k ≠ 0) (ro : en.ro = false) (hc : X.calm = true) (hN : X.N.Nodup) (hi : X.N[i]? = some x) (hj : X.N[j]? = some y) (hij : i ≠ j)
    (hx : X.env.scope.names.lookup x = some .local) (hy : X.env.scope.names.lookup y = some .local) (ha : PA X [a, b] (tDP T en Wx el)) (hn : ∀ s rs s', el s = .ok rs s' → rs.length = 2)
    (hw : swappedStores [.Tuple [.Name x px, .Name y py] kt pt] (.Tuple [a, b] k2 pt2) X.env = pure (some [x, y])) (hs : swapsWithSole [.Tuple [.Name x px, .Name y py] kt pt] (.Tuple [a, b] k2 pt2) pos.line X.env = pure false) :
    PS X (.Assign [.Tuple [.Name x px, .Name y py] kt pt] (.Tuple [a, b] k2 pt2) pos) (tS T en Wx (setPS [i, j] el)) := ps_imp (ps_par hc hN hi hj hij hx hy ha hw hs) fun De σ H ⟨g, s, R, h⟩ => by
  refine ⟨g, s, R, OKat.mono (evalPs_length hn h) fun g1 H1 rs s1 R1 S1 ⟨hl, q⟩ vs rvs => ?_⟩
  match rs, hl, q, rvs with
  | [r1, r2], _, q, rvs =>
    have := par_ok (o := .lst []) hz ro R S1 R1 R1 (fun _ _ z => z) (by rfl) rvs q
    simp only [PendL] at rvs
    obtain ⟨v1, us, rfl, _, ⟨v2, us2, rfl, _, rfl, _⟩, _⟩ := rvs
    exact ⟨v1, v2, rfl, this⟩
theorem st_par3 {i j l : Nat} {x y z : Str} {px py pz pt pt2 : Pos} {kt k2 : Nat} {el : Sta → Res (List RV)} (hzs : ∀ k ∈ [i, j, l], k ≠ 0) (ro : en.ro = false) (hc : X.calm = true) (hN : X.N.Nodup) (hi : X.N[i]? = some x) (hj : X.N[j]? = some y) (hl : X.N[l]? = some z) (hij : i ≠ j) (hil : i ≠ l) (hjl : j ≠ l)
    (hx : X.env.scope.names.lookup x = some .local) (hy : X.env.scope.names.lookup y = some .local) (hz : X.env.scope.names.lookup z = some .local) (ha : PA X [a, b, c] (tDP T en Wx el)) (hn : ∀ s rs s', el s = .ok rs s' → rs.length = 3)
    (hw : swappedStores [.Tuple [.Name x px, .Name y py, .Name z pz] kt pt] (.Tuple [a, b, c] k2 pt2) X.env = pure (some [x, y, z])) (hs : swapsWithSole [.Tuple [.Name x px, .Name y py, .Name z pz] kt pt] (.Tuple [a, b, c] k2 pt2) pos.line X.env = pure false) :
    PS X (.Assign [.Tuple [.Name x px, .Name y py, .Name z pz] kt pt] (.Tuple [a, b, c] k2 pt2) pos) (tS T en Wx (setPS [i, j, l] el)) := ps_imp (ps_par3 hc hN hi hj hl hij hil hjl hx hy hz ha hw hs) fun De σ H ⟨g, s, R, h⟩ => by
  refine ⟨g, s, R, OKat.mono (evalPs_length hn h) fun g1 H1 rs s1 R1 S1 ⟨hl, q⟩ vs rvs => ?_⟩
  match rs, hl, q, rvs with
  | [r1, r2, r3], _, q, rvs =>
    have := par_ok (o := .lst []) hzs ro R S1 R1 R1 (fun _ _ z => z) (by rfl) rvs q
    simp only [PendL] at rvs
    obtain ⟨v1, us, rfl, _, ⟨v2, us2, rfl, _, ⟨v3, us3, rfl, _, rfl, _⟩, _⟩, _⟩ := rvs
    exact ⟨v1, v2, v3, rfl, this⟩
/-- several targets, names alone -/
def gNames : List Nat → TGs
  | [] => gNil
  | i :: is => gCons (gName i) (gNames is)
theorem gNames_ok : ∀ {is : List Nat} {vs : List V} {σ : L2.St} {H : L2.Hp} {Q : L2.St → L2.Hp → Prop}, is.length = vs.length → Q (sets σ is vs) H → gNames is vs σ H Q
  | [], [], σ, H, Q, _, h => ⟨rfl, h⟩
  | i :: is, v :: vs, σ, H, Q, hl, h => ⟨v, vs, rfl, gNames_ok (is := is) (by simpa using hl) h⟩
theorem PendL.length {rs : List RV} : ∀ {vs : List V}, PendL T g H H1 rs vs → rs.length = vs.length := by
  induction rs with
  | nil => intro vs h; simp only [PendL] at h; subst h; rfl
  | cons x rs ih =>
    intro vs h
    simp only [PendL] at h
    obtain ⟨v, us, rfl, _, h2, _⟩ := h
    simp [ih h2]
theorem st_parN {is : List Nat} {ts es : List Expr} {pt pt2 : Pos} {kt k2 n : Nat} {el : Sta → Res (List RV)} (hz : ∀ k ∈ is, k ≠ 0) (ro : en.ro = false) (hc : X.calm = true) (hg : PGs X ts (gNames is)) (ha : PA X es (tDP T en Wx el)) (hn : ∀ s rs s', el s = .ok rs s' → rs.length = n) (hl : is.length = n) (hsz : n ≤ lim)
    (hn2 : (assignEach ts X.env).length = n) (hst : (assignEach ts X.env).findIdx? (·.1) = none)
    (hw : swappedStores [.Tuple ts kt pt] (.Tuple es k2 pt2) X.env = pure none) (hs : swapsWithSole [.Tuple ts kt pt] (.Tuple es k2 pt2) pos.line X.env = pure false) (h1 : (assignEach [.Tuple ts kt pt] X.env).map (·.2) = [assign (.Tuple ts kt pt) X.env]) :
    PS X (.Assign [.Tuple ts kt pt] (.Tuple es k2 pt2) pos) (tS T en Wx (setPS is el)) := ps_imp (ps_asg (pe_tup ha) (pg_tup hc hg hn2 hst) hs hw h1) fun De σ H ⟨g, s, R, h⟩ => by
  refine ⟨g, s, R, OKat.mono (evalPs_length hn h) fun g1 H1 rs s1 R1 S1 ⟨hrs, q⟩ vs rvs => ?_⟩
  have hlen := rvs.length
  refine ⟨by rw [← hlen, hrs, ← lim_eq]; exact hsz, fun p hp => ?_⟩
  refine ⟨p, vs, rfl, .inl (.inl upd_same), by rw [← hlen, hrs], gNames_ok (by rw [← hlen, hrs, hl]) ?_⟩
  exact par_ok (o := .lst []) hz ro R S1 R1 (R1.new hp) (keep_new hp) (by rw [hl, hrs]) rvs q

/-! ### return -/
theorem st_ret (ha : Snd X T en Wx a ea) : PS X (.Return (some a) pos) (tS T en Wx fun s => (ea true s).out fun x s => .ret x.d x.fr s) := ps_imp (ps_ret (ha.pe true)) fun De σ H ⟨g, s, R, h⟩ => by
  refine ⟨g, s, R, OKat.mono (out_of h) fun g1 H1 r1 s1 R1 S1 q v rv => q g1 σ H1 v R1 Gm.rfl' ?_⟩
  unfold RetR at rv ⊢
  split at rv
  · rename_i e
    rw [if_pos e]
    obtain ⟨p, e1, e2, e3, e4, e5⟩ := rv
    exact ⟨p, e1, e2, e3, new_0 R e4, e5⟩
  · rename_i e
    rw [if_neg e]
    exact rv
theorem st_retN : PS X (.Return none pos) (tS T en Wx fun s => .ret .non false s) := ps_imp ps_retN fun De σ H ⟨g, s, R, h⟩ => h g σ H .non R Gm.rfl' (by
  unfold RetR
  simp [Rep])
theorem st_retNm {i : Nat} {x : Str} {p : Pos} (hN : X.N[i]? = some x) (hv : Vis X.env.scope x) (hd : (x == ("__debug__" : Str)) = false) (hcd : (x == ("__classdict__" : Str)) = false) :
    PS X (.Return (some (.Name x p)) pos) (tS T en Wx fun s => match look s.sl i with
      | .own d => .ret d true s
      | .val d => .ret d false s
      | _ => .bad) := ps_imp (ps_ret (pe_var hN hv hd hcd)) fun De σ H ⟨g, s, R, h⟩ => by
  have hs := R.slot i
  dsimp only at h
  split at h
  · rename_i d e
    rw [e] at hs
    obtain ⟨a, e1, e2, e3, e4, e5⟩ := hs
    refine ⟨.ref a, e1, h g σ H _ R Gm.rfl' ?_⟩
    unfold RetR
    simp only [if_true]
    exact ⟨a, rfl, e2, e5, R.oaF a e3, e4⟩
  · rename_i d e
    rw [e] at hs
    obtain ⟨u, e1, e2⟩ := hs
    refine ⟨u, e1, h g σ H _ R Gm.rfl' ?_⟩
    unfold RetR
    simpa using e2
  · exact h.elim

/-! ### i += e -/
theorem st_aug {op : BOp} {bop : Operator} {f : Int → Int → Int} {i : Nat} {x : Str} {p : Pos} (hi0 : i ≠ 0) (hN : X.N.Nodup) (hi : X.N[i]? = some x) (hx : Loc X.env.scope x) (hf : X.fn x = true ∨ X.env.scope.names.lookup x = some .local) (ha : Snd X T en Wx a ea) (hop : PIp X bop (ipI f)) (hf2 : ∀ u w z, aug2 op u w = some z → ∃ i j, u = .int i ∧ w = .int j ∧ z = .int (f i j)) :
    PS X (.AugAssign (.Name x p) bop a pos) (tS T en Wx fun s => match look s.sl i with
    | .val x => (ea false s).out fun y s => match aug2 op x y.d with
      | some v => .next { s with sl := put s.sl i (.val v) }
      | none => .bad
    | _ => .bad) := ps_imp (ps_aug hN hi hx (ha.pe false) hop hf) fun De σ H ⟨g, s, R, h⟩ => by
  have hs := R.slot i
  dsimp only at h
  split at h
  · rename_i d e
    rw [e] at hs
    obtain ⟨u, e1, e2⟩ := hs
    refine ⟨u, e1, g, s, R, OKat.mono (out_of h) fun g1 H1 r1 s1 R1 S1 q v rv => ?_⟩
    cases z : aug2 op d r1.d with
    | none => rw [z] at q; exact q.elim
    | some w =>
      rw [z] at q
      obtain ⟨k, j, rfl, er, rfl⟩ := hf2 _ _ _ z
      simp only [Rep] at e2
      have ev := rv.view (W := g1.W)
      rw [er] at ev
      exact ⟨k, j, e2, ev.int, q g1 _ H1 (R1.setVal hi0 (by simp only [Rep])) Gm.rfl'⟩
  · exact h.elim
end
end Ev
end

section
/-! EvB14: things changed in their place. -/
namespace Ev
open PySem PySem.Spec PyProof.Rows L2

section
variable {X : Cx} {T : Tx} {P : Prog} {en : Ent} {g g1 : Gh} {H H1 H2 : L2.Hp} {r : RV} {v : V} {σ : L2.St} {s : Sta} {Wx : WX} {esc : Bool}
variable {a b c : Expr} {pos : Pos} {ea eb ec : Bool → Sta → Res RV}

/-- a shared one written -/
theorem Rel.memSet {i : Nat} {p : Addr} {d d' : D} {o : HO} (R : Rel T en g s σ H) (hd : s.hp[i]? = some d) (hp : g.io[i]? = some p) (hat : At T g.W g.io (upd H p o) p d') :
    Rel T en g { s with hp := s.hp.set i d' } σ (upd H p o) := by
  obtain ⟨q, e1, e2, e3, e4⟩ := R.heap i d hd
  rw [hp] at e1; cases e1
  have mp : p ∈ g.io := List.mem_of_getElem? hp
  have kp : ∀ a x, a ≠ p → H a = some x → upd H p o a = some x := fun a x n e => by rw [upd_ne n]; exact e
  have hne : upd H p o p ≠ none := by rw [upd_same]; simp
  refine ⟨fun a x e => kp a x (fun z => by rw [z, e3] at e; cases e) (R.sub a x e), R.len, fun j => ?_, R.dist, by simp [R.mem], R.nd, fun j d1 e => ?_, fun a ha => ?_, fun a x e n => kp a x (fun z => ?_) (R.base a x e n), R.oaF, R.ioF, fun a ha => ?_, R.ioP, R.wn, R.roF⟩
  · refine (R.slot j).mono sameR' Pre.rfl' (fun d1 b f1 f2 => ?_) (fun d1 b f1 f2 => ?_) fun dx fs f n => ⟨kp dx _ (fun z => n (z ▸ mp)) f, n⟩
    · have q := R.slot j
      rw [f1] at q
      obtain ⟨c, e, h1, h2, h3, h4⟩ := q
      rw [f2] at e; cases e
      exact ⟨fun x => kp b x fun z => h3 (z ▸ mp), h2, h3, h4⟩
    · have q := R.slot j
      rw [f1] at q
      obtain ⟨c, e, h1, h2, h3⟩ := q
      rw [f2] at e; cases e
      exact ⟨fun x => kp b x fun z => h2 (z ▸ mp), h2, h3⟩
  · by_cases hj : i = j
    · subst hj
      have hl : i < s.hp.length := (List.getElem?_eq_some_iff.mp hd).1
      rw [List.getElem?_set_self hl] at e
      cases e
      exact ⟨p, hp, hat, e3, e4⟩
    · rw [List.getElem?_set_ne hj] at e
      obtain ⟨q, f1, f2, f3, f4⟩ := R.heap j d1 e
      refine ⟨q, f1, f2.mono sameR' Pre.rfl' fun x => kp q x fun z => ?_, f3, f4⟩
      subst z
      have hi : i < g.io.length := (List.getElem?_eq_some_iff.mp hp).1
      have hj2 : j < g.io.length := (List.getElem?_eq_some_iff.mp f1).1
      have := (List.getElem?_inj hi R.nd).mp (hp.trans f1.symm)
      exact hj this
  · by_cases z : a = p
    · rw [z]; exact hne
    · rw [upd_ne z]; exact R.oaT a ha
  · subst z
    rcases R.ioF a mp with y | y
    · exact n y
    · rw [e] at y; cases y
  · by_cases z : a = p
    · rw [z]; exact hne
    · rw [upd_ne z]; exact R.tr a ha
/-- an own one written -/
theorem Rel.ownSet {i : Nat} {p : Addr} {d d' : D} {o : HO} (R : Rel T en g s σ H) (hd : look s.sl i = .own d) (hp : σ[i]? = some (some (.ref p))) (hx : ∀ fs, H p ≠ some (.xd fs)) (hat : At T g.W g.io (upd H p o) p d') :
    Rel T en g { s with sl := put s.sl i (.own d') } σ (upd H p o) := by
  have q := R.slot i
  rw [hd] at q
  obtain ⟨c, e, h1, h2, h3, h4⟩ := q
  rw [hp] at e; cases e
  have h0 := R.oaF p h2
  have kp : ∀ a x, a ≠ p → H a = some x → upd H p o a = some x := fun a x n e => by rw [upd_ne n]; exact e
  have hne : upd H p o p ≠ none := by rw [upd_same]; simp
  have hi : i < s.sl.length := look_lt (by rw [hd]; simp)
  refine ⟨fun a x e => kp a x (fun z => by rw [z, h4] at e; cases e) (R.sub a x e), by rw [put_length]; exact R.len, fun j => ?_, fun j k d1 d2 b f1 f2 e1 e2 => ?_, R.mem, R.nd, fun j d1 e => ?_, fun a ha => ?_, fun a x e n => kp a x (fun z => by rw [z, h0] at e; cases e) (R.base a x e n), R.oaF, R.ioF, fun a ha => ?_, R.ioP, R.wn, ⟨fun z => ro_put (R.roF.1 z) (fun _ y => nomatch y), R.roF.2⟩⟩
  · rw [look_put]
    split
    · rename_i hj
      obtain ⟨rfl, _⟩ := hj
      exact ⟨p, hp, hat, h2, h3, h4⟩
    · rename_i hj
      have hij : i ≠ j := fun z => hj ⟨z, hi⟩
      refine (R.slot j).mono sameR' Pre.rfl' (fun d1 b f1 f2 => ?_) (fun d1 b f1 f2 => ?_) fun dx fs f n => ⟨kp dx _ (fun z => hx fs (z ▸ f)) f, n⟩
      · have q := R.slot j
        rw [f1] at q
        obtain ⟨c, e, k1, k2, k3, k4⟩ := q
        rw [f2] at e; cases e
        exact ⟨fun x => kp b x fun z => hij (R.dist i j d d1 p hd f1 hp (z ▸ f2)), k2, k3, k4⟩
      · have q := R.slot j
        rw [f1] at q
        obtain ⟨c, e, k1, k2, k3⟩ := q
        rw [f2] at e; cases e
        exact ⟨fun x => kp b x fun z => k3 (z ▸ h2), k2, k3⟩
  · rw [look_put] at f1 f2
    split at f1
    · rename_i n1
      split at f2
      · rename_i n2
        exact n1.1.symm.trans n2.1
      · rename_i n2
        obtain ⟨rfl, _⟩ := n1
        exact R.dist i k d d2 b hd f2 e1 e2
    · split at f2
      · rename_i n2
        obtain ⟨rfl, _⟩ := n2
        exact R.dist j i d1 d b f1 hd e1 e2
      · exact R.dist j k d1 d2 b f1 f2 e1 e2
  · obtain ⟨q, f1, f2, f3, f4⟩ := R.heap j d1 e
    exact ⟨q, f1, f2.mono sameR' Pre.rfl' fun x => kp q x fun z => h3 (z ▸ List.mem_of_getElem? f1), f3, f4⟩
  · by_cases z : a = p
    · rw [z]; exact hne
    · rw [upd_ne z]; exact R.oaT a ha
  · by_cases z : a = p
    · rw [z]; exact hne
    · rw [upd_ne z]; exact R.tr a ha

/-- what an object's expression points at -/
def DesV (io : List Addr) (σ : L2.St) (o : E) (r : RV) (v : V) : Prop := match r.d with
  | .ref i => ∃ p, v = .ref p ∧ io[i]? = some p
  | _ => ∀ i, o = .nm i → σ[i]? = some (some v)
def tDes (T : Tx) (en : Ent) (Wx : WX) (o : E) (ev : Sta → Res RV) : TE := fun σ H Q => ∃ g s, Rel T en g s σ H ∧
  OKat T en Wx g H σ (ev s) fun g' H' r s' => ∀ v, View T g'.W g'.io H' r.d v → DesV g'.io σ o r v → Q v H'
theorem des_gen {o : E} (ha : Snd X T en Wx a ea) (hn : ∀ i, o ≠ .nm i) : PE X a (tDes T en Wx o (ea false)) := pe_imp (ha.pe false) fun σ H Q ⟨g, s, R, h⟩ =>
  ⟨g, s, R, OKat.mono h fun g1 H1 r1 s1 R1 S1 q v rv => q v (rv.view (W := g1.W)) (by
    unfold DesV
    split
    · rename_i i e
      have vw := rv.view (W := g1.W)
      rw [e] at vw
      rcases vw with vw | ⟨_, _, z⟩
      · simpa only [Rep] using vw
      · exact z.elim
    · exact fun i e => absurd e (hn i))⟩
theorem des_nm {i : Nat} {x : Str} (hN : X.N[i]? = some x) (hv : Vis X.env.scope x) (hd : (x == ("__debug__" : Str)) = false) (hcd : (x == ("__classdict__" : Str)) = false) : PE X (.Name x pos) (tDes T en Wx (.nm i) (nmE false i)) :=
  pe_imp (pe_var hN hv hd hcd) fun σ H Q ⟨g, s, R, h⟩ => by
    obtain ⟨v, r, g', s', e, R', S', rr, q⟩ := nm_ok R h
    refine ⟨v, e, q v (rr.view (W := g'.W)) ?_⟩
    unfold DesV
    split
    · rename_i j ej
      have vw := rr.view (W := g'.W)
      rw [ej] at vw
      rcases vw with vw | ⟨_, _, z⟩
      · simpa only [Rep] using vw
      · exact z.elim
    · intro k ek
      cases ek
      exact e
/-- a change -/
theorem chg_ok {io0 : List Addr} {o : E} {f : D → Option D} {De : Ends} (R : Rel T en g s σ H) (dv : DesV io0 σ o r v) (hio : Pre io0 g.io) (h : OOK T en Wx g De (chg o r s f)) :
    ∃ p d d', v = .ref p ∧ At T g.W g.io H p d ∧ f d = some d' ∧ ∀ ob, At T g.W g.io (upd H p ob) p d' → De.nx σ (upd H p ob) := by
  unfold DesV at dv
  unfold chg at h
  split at dv
  · rename_i i e
    obtain ⟨p, rfl, hp⟩ := dv
    rw [e] at h
    dsimp only at h
    have hp := hio _ _ hp
    have hi : i < s.hp.length := by rw [R.mem]; exact (List.getElem?_eq_some_iff.mp hp).1
    obtain ⟨q, e1, e2, e3, e4⟩ := R.heap i _ (List.getElem?_eq_getElem hi)
    rw [hp] at e1; cases e1
    rw [List.getElem?_eq_getElem hi] at h
    simp only [Option.getD_some] at h
    cases z : f s.hp[i] with
    | none => rw [z] at h; exact h.elim
    | some d' =>
      rw [z] at h
      exact ⟨p, _, d', rfl, e2, z, fun ob hat => h g σ _ (R.memSet (List.getElem?_eq_getElem hi) hp hat) Gm.rfl'⟩
  · rename_i nr
    split at h
    · rename_i i e
      exact absurd e (nr i)
    · split at h
      · rename_i i
        have es := dv i rfl
        split at h
        · rename_i d ed
          have q := R.slot i
          rw [ed] at q
          obtain ⟨p, e, h1, h2, h3, h4⟩ := q
          rw [es] at e; cases e
          cases z : f d with
          | none => rw [z] at h; exact h.elim
          | some d' =>
            rw [z] at h
            refine ⟨p, d, d', rfl, h1, z, fun ob hat => h g σ _ (R.ownSet ed es (fun fs ex => ?_) hat) Gm.rfl'⟩
            cases d with
            | lst => obtain ⟨_, y, _⟩ := h1; rw [ex] at y; cases y
            | dic => obtain ⟨_, _, ⟨_, y, _⟩, _⟩ := h1; rw [ex] at y; cases y
            | obj => obtain ⟨_, _, y, _⟩ := h1; rw [ex] at y; cases y
            | _ => exact h1.elim
        · exact h.elim
      · exact h.elim

/-! ### o.f = e -/
theorem st_fld {o : E} {f : Nat} {eo : Sta → Res RV} {p : Pos} (F : Facts X T P) (hb : PE X b (tDes T en Wx o eo)) (ha : Snd X T en Wx a ea) (hs : swapsWith a (some (.Attribute b (T.fld f) p)) pos.line X.env = pure false) :
    PS X (.Assign [.Attribute b (T.fld f) p] a pos) (tS T en Wx fun s => (ea true s).out fun v s => (eo s).out fun x s => chg o x s fun d => setFD P d f v.d) := ps_imp (ps_fld hb (ha.pe true) hs) fun De σ H ⟨g, s, R, h⟩ => by
  refine ⟨g, s, R, OKat.mono (out_of' h) fun g1 H1 r1 s1 R1 S1 q v rv => ?_⟩
  obtain ⟨g2, R2, S2, rep, _⟩ := esc_rep R1 S1 (.inr ⟨_, R⟩) rv
  refine ⟨g2, s1, R2, OKat.mono (out_of (q g2 S2.gm)) fun g3 H3 r3 s3 R3 S3 q3 x _ dx => ?_⟩
  obtain ⟨p, d, d', rfl, hat, hf, fin⟩ := chg_ok R3 dx Pre.rfl' q3
  cases d with
  | obj c ns ws =>
    simp only [setFD] at hf
    split at hf
    · rename_i hc
      rw [Bool.and_eq_true] at hc
      cases hf
      obtain ⟨dx', fvs, e1, e2, e3⟩ := hat
      obtain ⟨k1, k2⟩ := F.fl c f hc.1
      obtain ⟨vs', z1, z2, z3⟩ := zipF_put F.inj (rep.mono S3.W S3.io) e2 e3
      refine ⟨p, _, dx', _, rfl, e1, k1, k2, ?_, ?_⟩
      · have := of_decide_eq_true hc.2
        unfold zipF
        rw [List.length_zip, List.length_map]
        omega
      · rw [z1]
        exact fin _ ⟨dx', vs', upd_same, z2, z3⟩
    · cases hf
  | _ => simp [setFD] at hf

/-! ### methods that change a list -/
theorem isL_at {K : PySem.W.Frag} (R : Rel T en g s σ H) (hK : K = T.K) (vw : View T g.W g.io H r.d v) (h : isL (deref s.hp r.d) = true) : tyV K "list" v H := by
  have vd := view_deref R vw
  cases z : deref s.hp r.d with
  | lst ds =>
    rw [z] at vd
    obtain ⟨p, xs, rfl, h1, h2⟩ := vd.lst R.sub
    exact .inl ⟨rfl, xs, .inl (.inl h1)⟩
  | _ => rw [z] at h; cases h
theorem if_in {De : Ends} {k : Bool} {x : Out} (h : OOK T en Wx g De (if k = true then x else .bad)) : k = true ∧ OOK T en Wx g De x := by
  cases k with
  | true => exact ⟨rfl, h⟩
  | false => exact h.elim
theorem st_app {o : E} {eo : Sta → Res RV} {apos p : Pos} (F : Facts X T P) (hb : PE X b (tDes T en Wx o eo)) (ha : Snd X T en Wx a ea) (hbase : attributeBase b "append" X.env (eval b X.env) = eval b X.env) (hline : (apos.endLine == p.line) = true) (hst : starEach [a] X.env = [(false, eval a X.env)])
    (hs : swapsWith (.Call (.Attribute b "append" apos) [a] [] p) none pos.line X.env = pure false) :
    PS X (.Expr (.Call (.Attribute b "append" apos) [a] [] p) pos) (tS T en Wx fun s => (eo s).out fun x s => if isL (deref s.hp x.d) then (ea true s).out fun v s => chg o x s fun d => appD d v.d else .bad) :=
  ps_imp (ps_expr (pe_bm PySem.F.plainAttrs_list PySem.F.slot_list_append PySem.F.type_list_append (show MtR X "list.append" rAppend from mt_append) hb (pa_val (ha.pe true) hst) hbase (by rw [hst]; rfl) hline (by rw [hst]; rfl) (by rfl)) hs) fun De σ H ⟨g, s, R, h⟩ => by
    refine ⟨g, s, R, OKat.mono (out_of h) fun g1 H1 r1 s1 R1 S1 q v vw dv => ?_⟩
    obtain ⟨hl, q⟩ := if_in q
    refine ⟨isL_at R1 F.K vw hl, g1, s1, R1, OKat.mono (out_of' q) fun g2 H2 r2 s2 R2 S2 q2 u ru => ?_⟩
    obtain ⟨g3, R3, S3, rep, _⟩ := esc_rep R2 S2 (.inr ⟨_, R1⟩) ru
    obtain ⟨p, d, d', rfl, hat, hf, fin⟩ := chg_ok R3 dv S3.io (q2 g3 S3.gm)
    cases d with
    | lst xs =>
      simp only [appD] at hf
      split at hf
      · rename_i hlen
        cases hf
        obtain ⟨vs, e1, e2⟩ := hat
        refine ⟨p, vs, u, rfl, rfl, e1, by rw [← e2.length, ← lim_eq]; exact hlen, fin _ ⟨vs ++ [u], upd_same, RepL.append e2 (RepL.cons rep RepL.nil)⟩⟩
      · cases hf
    | _ => simp [appD] at hf
theorem st_ext {o : E} {eo : Sta → Res RV} {apos p : Pos} (F : Facts X T P) (hb : PE X b (tDes T en Wx o eo)) (ha : Snd X T en Wx a ea) (hbase : attributeBase b "extend" X.env (eval b X.env) = eval b X.env) (hline : (apos.endLine == p.line) = true) (hst : starEach [a] X.env = [(false, eval a X.env)])
    (hs : swapsWith (.Call (.Attribute b "extend" apos) [a] [] p) none pos.line X.env = pure false) :
    PS X (.Expr (.Call (.Attribute b "extend" apos) [a] [] p) pos) (tS T en Wx fun s => (eo s).out fun x s => if isL (deref s.hp x.d) then (ea false s).out fun v s => chg o x s fun d => extD d (deref s.hp v.d) else .bad) :=
  ps_imp (ps_expr (pe_bm PySem.F.plainAttrs_list PySem.F.slot_list_extend PySem.F.type_list_extend (show MtR X "list.extend" rExtend from mt_extend) hb (pa_val (ha.pe false) hst) hbase (by rw [hst]; rfl) hline (by rw [hst]; rfl) (by rfl)) hs) fun De σ H ⟨g, s, R, h⟩ => by
    refine ⟨g, s, R, OKat.mono (out_of h) fun g1 H1 r1 s1 R1 S1 q v vw dv => ?_⟩
    obtain ⟨hl, q⟩ := if_in q
    refine ⟨isL_at R1 F.K vw hl, g1, s1, R1, OKat.mono (out_of q) fun g2 H2 r2 s2 R2 S2 q2 u ru => ?_⟩
    have vu := view_deref R2 (ru.view (W := g2.W))
    obtain ⟨p, d, d', rfl, hat, hf, fin⟩ := chg_ok R2 dv S2.io q2
    cases d with
    | lst xs =>
      cases y : deref s2.hp r2.d with
      | lst ys =>
        rw [y] at vu hf
        simp only [extD] at hf
        split at hf
        · rename_i hlen
          cases hf
          obtain ⟨vs, e1, e2⟩ := hat
          obtain ⟨q', us, rfl, e3, e4⟩ := vu.lst R2.sub
          exact ⟨p, q', vs, us, rfl, rfl, e1, e3, by rw [← e2.length, ← e4.length, ← lim_eq]; exact hlen, fin _ ⟨vs ++ us, upd_same, RepL.append e2 e4⟩⟩
        · cases hf
      | _ => rw [y] at hf; simp [extD] at hf
    | _ => simp [extD] at hf
theorem slot_list_insert' : Slot "list" "insert" "list.insert" := PySem.F.slot_list_insert
theorem st_ins {o : E} {eo : Sta → Res RV} {apos p : Pos} (F : Facts X T P) (hb : PE X b (tDes T en Wx o eo)) (hc : Snd X T en Wx c ec) (ha : Snd X T en Wx a ea) (hbase : attributeBase b "insert" X.env (eval b X.env) = eval b X.env) (hline : (apos.endLine == p.line) = true) (hst : starEach [c, a] X.env = [(false, eval c X.env), (false, eval a X.env)]) (hst2 : starEach [a] X.env = [(false, eval a X.env)])
    (hs : swapsWith (.Call (.Attribute b "insert" apos) [c, a] [] p) none pos.line X.env = pure false) :
    PS X (.Expr (.Call (.Attribute b "insert" apos) [c, a] [] p) pos) (tS T en Wx fun s => (eo s).out fun x s => if isL (deref s.hp x.d) then (ec false s).out fun k s => (ea true s).out fun v s => chg o x s fun d => insD d k.d v.d else .bad) :=
  ps_imp (ps_expr (pe_bm PySem.F.plainAttrs_list PySem.F.slot_list_insert PySem.F.type_list_insert mt_insert hb (pa_cons (hc.pe false) (pa_val (ha.pe true) hst2) (by rw [hst, hst2])) hbase (by rw [hst]; rfl) hline (by rw [hst, hst2]) (by rw [hst2]; rfl)) hs) fun De σ H ⟨g, s, R, h⟩ => by
    refine ⟨g, s, R, OKat.mono (out_of h) fun g1 H1 r1 s1 R1 S1 q v vw dv => ?_⟩
    obtain ⟨hl, q⟩ := if_in q
    refine ⟨isL_at R1 F.K vw hl, g1, s1, R1, OKat.mono (out_of q) fun g2 H2 r2 s2 R2 S2 q2 w rw' => ?_⟩
    refine ⟨g2, s2, R2, OKat.mono (out_of' q2) fun g4 H4 r4 s4 R4 S4 q4 u ru => ?_⟩
    obtain ⟨g3, R3, S3, rep, _⟩ := esc_rep R4 S4 (.inr ⟨_, R2⟩) ru
    obtain ⟨p, d, d', rfl, hat, hf, fin⟩ := chg_ok R3 dv (Pre.tr S2.io S3.io) (q4 g3 S3.gm)
    cases d with
    | lst xs =>
      cases y : r2.d with
      | int k =>
        rw [y] at hf
        have vk := rw'.view (W := g2.W)
        rw [y] at vk
        have ek := vk.int
        subst ek
        simp only [insD] at hf
        split at hf
        · rename_i hlen
          obtain ⟨l1, l2, l3⟩ := hlen
          cases hf
          obtain ⟨vs, e1, e2⟩ := hat
          have hlim : lim = 16777216 := rfl
          refine ⟨p, vs, k, u, rfl, rfl, e1, by rw [← e2.length, ← lim_eq]; exact l3, l1, by omega, ?_⟩
          refine fin _ ⟨_, upd_same, ?_⟩
          rw [List.append_assoc]
          exact RepL.append (RepL.take _ e2) (RepL.cons rep (RepL.drop _ e2))
        · cases hf
      | _ => rw [y] at hf; simp [insD] at hf
    | _ => simp [insD] at hf

/-! ### o[i] = e -/
theorem drep_ok {W : L2.Hp} {io : List Addr} (k : Key) {d : D} {v : V} (rv : Rep T W io d v) : ∀ {kvs : List (Key × V)} {ks ds : List D}, RepL T W io ks (kvs.map fun p => kV p.1) → RepL T W io ds (kvs.map (·.2)) →
    RepL T W io (drep ks ds (keyD k) d) ((kvs.map fun kv => if kv.1 = k then (kv.1, v) else kv).map (·.2)) ∧ ((kvs.map fun kv => if kv.1 = k then (kv.1, v) else kv).map fun p => kV p.1) = kvs.map fun p => kV p.1
  | [], ks, ds, h1, h2 => by
    have l1 := h1.length
    simp at l1
    subst l1
    exact ⟨by simp [drep, RepL], rfl⟩
  | p :: kvs, ks, ds, h1, h2 => by
    cases ks with
    | nil => simp [RepL] at h1
    | cons kd ks =>
      cases ds with
      | nil => simp [RepL] at h2
      | cons vd ds =>
        simp only [RepL, List.map_cons] at h1 h2
        obtain ⟨v1, r1, e1, h1, h1'⟩ := h1
        obtain ⟨v2, r2, e2, h2, h2'⟩ := h2
        cases e1; cases e2
        have ek := rep_key h1
        subst ek
        obtain ⟨i1, i2⟩ := drep_ok k rv h1' h2'
        have hk : D.eqv (keyD p.1) (keyD k) = decide (p.1 = k) := by
          obtain ⟨q, w⟩ := p
          cases q with
          | inl i =>
            cases k with
            | inl j => simp only [keyD, D.eqv]; rw [key_ll]
            | inr y => simp [keyD, D.eqv]
          | inr x =>
            cases k with
            | inl j => simp [keyD, D.eqv]
            | inr y =>
              simp only [keyD, D.eqv]; rw [key_rr, Bool.eq_iff_iff, beq_iff_eq, decide_eq_true_eq]
              constructor
              · intro e; cases x; cases y; simp only [Str.mk.injEq]; exact Array.toList_inj.mp e
              · rintro rfl; rfl
        simp only [drep, hk, List.map_cons]
        by_cases e : p.1 = k
        · simp only [e, decide_true, if_true]
          exact ⟨RepL.cons rv i1, by rw [i2]⟩
        · simp only [e, decide_false, Bool.false_eq_true, if_false]
          exact ⟨RepL.cons h2 i1, by rw [i2]⟩
theorem dput_ok {W : L2.Hp} {io : List Addr} {p : Addr} {kv vs : List V} {ks ds : List D} {k d : D} {x v : V} (h : DicO H p kv vs) (hl : ks.length < 1000000) (rk : RepL T W io ks kv) (rd : RepL T W io ds vs) (hk : D.keyed k = true) (vk : View T W io H k x) (rv : Rep T W io d v) (hf : ∀ o u, H p ≠ some (.frz o u)) :
    ∃ kvs', DPut H p x v (upd H p (.dK kvs')) ∧ RepL T W io (dput ks ds k d).1 (kvs'.map fun p => kV p.1) ∧ RepL T W io (dput ks ds k d).2 (kvs'.map (·.2)) := by
  obtain ⟨kvs, e, h1, h2⟩ := h
  subst h1 h2
  have hl2 : kvs.length < sizeLine := by
    rw [← lim_eq]
    have := rk.length
    rw [List.length_map] at this
    have : lim = 16777216 := rfl
    omega
  have main : ∀ q : Key, k = keyD q → x = kV q → Rep T W io k x → ∃ kvs', DPut H p x v (upd H p (.dK kvs')) ∧ RepL T W io (dput ks ds k d).1 (kvs'.map fun p => kV p.1) ∧ RepL T W io (dput ks ds k d).2 (kvs'.map (·.2)) := fun q e1 e2 rq => by
    subst e1 e2
    refine ⟨putK kvs q v, DPut.k e hl2, ?_⟩
    have f := dfind_key q rk rd
    unfold putK dput
    rw [valV_any]
    cases z : dfind ks ds (keyD q) with
    | none =>
      rw [f.2 z]
      simp only [Option.isSome_none, Bool.false_eq_true, if_false]
      refine ⟨?_, ?_⟩
      · rw [List.map_append]; exact RepL.append rk (RepL.cons rq RepL.nil)
      · rw [List.map_append]; exact RepL.append rd (RepL.cons rv RepL.nil)
    | some w =>
      obtain ⟨v', hv, _⟩ := f.1 w z
      rw [hv]
      simp only [Option.isSome_some, if_true]
      obtain ⟨i1, i2⟩ := drep_ok q rv rk rd
      exact ⟨by rw [i2]; exact rk, i1⟩
  cases k with
  | int i => have e := vk.int; exact main (.inl i) rfl e (by simpa only [Rep] using e)
  | str cs => obtain ⟨e, el⟩ := vk.str; exact main (.inr (sOf cs)) (by simp [keyD, sOf]) e (by simp only [Rep]; exact ⟨e, el⟩)
  | _ => exact nomatch hk
def rSetD : V → V → V → L2.Hp → (L2.Hp → Prop) → Prop := fun o i v H Q => ∃ a H', o = .ref a ∧ DPut H a i v H' ∧ Q H'
theorem set_any (F : Facts X T P) : PSet X fun o i v H Q => rSetL o i v H Q ∨ rSetD o i v H Q := by
  intro pins s σ H o i v ov iv u Q I ro ri rv h
  rcases h with h | ⟨a, H', rfl, hd, q⟩
  · exact set_list pins s σ H o i v ov iv u Q I ro ri rv h
  · obtain rfl : ov = Value.ref a := ro
    have hu := F.un
    exact d_setItem (by omega) I hd ri rv fun s' I' => ⟨H', I', q⟩
theorem st_setI {o : E} {eo : Sta → Res RV} {p : Pos} (F : Facts X T P) (hb : PE X b (tDes T en Wx o eo)) (hc : Snd X T en Wx c ec) (ha : Snd X T en Wx a ea)
    (hsub : ∀ v, assign (.Subscript b c p) X.env v = (do
      let ov ← holding [v] (eval b X.env)
      let iv ← holding [v, ov] (eval c X.env)
      standAt p
      holding [v, ov, iv] (setItem ov iv v)
      release [v, ov, iv] []))
    (hs : swapsWithSole [.Subscript b c p] a pos.line X.env = pure false) (hw : swappedStores [.Subscript b c p] a X.env = pure none) (h1 : (assignEach [.Subscript b c p] X.env).map (·.2) = [assign (.Subscript b c p) X.env]) :
    PS X (.Assign [.Subscript b c p] a pos) (tS T en Wx fun s => (ea true s).out fun v s => (eo s).out fun x s => (ec true s).out fun y s => chg o x s fun d => putI d y.d v.d) :=
  ps_imp (ps_asg (ha.pe true) (pg_sub hb (hc.pe true) (set_any F) hsub) hs hw h1) fun De σ H ⟨g, s, R, h⟩ => by
    refine ⟨g, s, R, OKat.mono (out_of' h) fun g1 H1 r1 s1 R1 S1 q v rv => ?_⟩
    obtain ⟨g2, R2, S2, rep, _⟩ := esc_rep R1 S1 (.inr ⟨_, R⟩) rv
    refine ⟨g2, s1, R2, OKat.mono (out_of (q g2 S2.gm)) fun g3 H3 r3 s3 R3 S3 q3 x vx dx => ?_⟩
    refine ⟨g3, s3, R3, OKat.mono (out_of' q3) fun g4 H4 r4 s4 R4 S4 q4 w rw' => ?_⟩
    obtain ⟨g5, R5, S5, repk, _⟩ := esc_rep R4 S4 (.inr ⟨_, R3⟩) rw'
    obtain ⟨p, d, d', rfl, hat, hf, fin⟩ := chg_ok R5 dx S5.io (q4 g5 S5.gm)
    have rep5 := (rep.mono S3.W S3.io).mono S5.W S5.io
    cases d with
    | lst xs =>
      cases y : r4.d with
      | int k =>
        rw [y] at hf repk
        simp only [Rep] at repk
        subst repk
        simp only [putI, Option.map_eq_some_iff] at hf
        obtain ⟨n, hn, rfl⟩ := hf
        obtain ⟨vs, e1, e2⟩ := hat
        exact .inl ⟨p, vs, k, n, rfl, rfl, e1, by rw [← ixOf_ixN, ← e2.length]; exact hn, fin _ ⟨_, upd_same, RepL.set _ e2 rep5⟩⟩
      | _ => rw [y] at hf; simp [putI] at hf
    | dic ks ds =>
      simp only [putI] at hf
      split at hf
      · rename_i hk
        cases hf
        obtain ⟨kv, vs, e1, e2, e3⟩ := hat
        obtain ⟨kvs', f1, f2, f3⟩ := dput_ok e1 hk.2 e2 e3 hk.1 (.inl repk) rep5 fun o u z => by
          obtain ⟨_, y, _⟩ := e1
          rw [z] at y; cases y
        exact .inr ⟨p, _, rfl, f1, fin _ ⟨_, _, ⟨kvs', upd_same, rfl, rfl⟩, f2, f3⟩⟩
      · cases hf
    | _ => cases y : r4.d <;> rw [y] at hf <;> simp [putI] at hf
end
end Ev
end

section
/-! EvB15: built-in functions. -/
namespace Ev
open PySem PySem.Spec PyProof.Rows L2

def ViewL (T : Tx) (W : L2.Hp) (io : List Addr) (H : L2.Hp) : List D → List V → Prop
  | [], vs => vs = []
  | d :: ds, vs => ∃ v r, vs = v :: r ∧ View T W io H d v ∧ ViewL T W io H ds r
/-- a built-in by values -/
def rBlt (T : Tx) (rp : D → Option (List Nat)) (b : Bf) : List V → L2.Hp → VK → Prop := fun vs H Q => ∃ W io ds rv, Same W H ∧ ViewL T W io H ds vs ∧ runB rp b ds = some rv ∧ ∀ v H', Nw T W io H rv v H' → Q v H'
abbrev bltE (rp : D → Option (List Nat)) (b : Bf) (el : Sta → Res (List D)) : Bool → Sta → Res RV := fun _ s => (el s).bind fun ds s => ofO (runB rp b (ds.map (deref s.hp))) s
section
variable {X : Cx} {T : Tx} {P : Prog} {en : Ent} {g g1 : Gh} {H H1 H2 : L2.Hp} {r : RV} {v : V} {σ : L2.St} {s : Sta} {Wx : WX} {esc : Bool}
variable {a b c : Expr} {pos : Pos} {ea eb ec : Bool → Sta → Res RV}
variable {rp : D → Option (List Nat)}

theorem viewL_deref (R : Rel T en g s σ H) : ∀ {ds : List D} {vs : List V}, SeesL T g.W g.io H ds vs → ViewL T g.W g.io H (ds.map (deref s.hp)) vs
  | [], vs, h => by simpa only [SeesL, ViewL, List.map_nil] using h
  | d :: ds, vs, h => by
    simp only [SeesL] at h
    obtain ⟨v, r, rfl, h1, h2⟩ := h
    simp only [List.map_cons, ViewL]
    exact ⟨v, r, rfl, view_deref R h1.view, viewL_deref R h2⟩
theorem blt_in {b : Bf} {el : Sta → Res (List D)} {Q : VK} (R : Rel T en g s σ H) (h : OKat T en Wx g H σ (bltE rp b el esc s) fun g' H' r s' => ∀ v, RetR T g' H H' esc r v → Q v H') :
    tDB T en Wx el σ H fun vs H1 => rBlt T rp b vs H1 Q := by
  refine ⟨g, s, R, OKat.mono (OKat.bind h) fun g1 H1 ds s1 R1 S1 h1 vs sl => ?_⟩
  obtain ⟨rv, e, q⟩ := ret_nw S1 R1 h1
  exact ⟨g1.W, g1.io, _, rv, R1.sub, viewL_deref R1 sl, e, q⟩
theorem ev_bltB {bf : Bf} {x : Str} {id : String} {p : Pos} {e : Expr} {es : List Expr} {el : Sta → Res (List D)} (hc : CallR X (.builtin id) (rBlt T rp bf)) (hg : Gl X x) (hm : X.mg x = none) (hv : bootBuiltins x = some (.builtin id)) (ha : PA X (e :: es) (tDB T en Wx el)) (hn : x ≠ "__name__") (hdb : (x == ("__debug__" : Str)) = false)
    (he : starEach (e :: es) X.env = (false, eval e X.env) :: starEach es X.env) (hpl : (backTo pos (starEach es X.env)).any (·.1) = false) : Snd X T en Wx (.Call (.Name x p) (e :: es) [] pos) (bltE rp bf el) :=
  snd_of fun esc => pe_imp (pe_callB hc hg hm hv ha hn hdb he hpl) fun σ H Q ⟨g, s, R, h⟩ => blt_in R h
theorem ev_bltT {bf : Bf} {x : Str} {id : String} {p : Pos} {e : Expr} {es : List Expr} {el : Sta → Res (List D)} (hc : CallR X (.type id) (rBlt T rp bf)) (hg : Gl X x) (hm : X.mg x = none) (hv : bootBuiltins x = some (.type id)) (ha : PA X (e :: es) (tDB T en Wx el)) (hn : x ≠ "__name__") (hdb : (x == ("__debug__" : Str)) = false)
    (he : starEach (e :: es) X.env = (false, eval e X.env) :: starEach es X.env) (hpl : (backTo pos (starEach es X.env)).any (·.1) = false) : Snd X T en Wx (.Call (.Name x p) (e :: es) [] pos) (bltE rp bf el) :=
  snd_of fun esc => pe_imp (pe_callTy hc hg hm hv ha hn hdb he hpl) fun σ H Q ⟨g, s, R, h⟩ => blt_in R h

/-- one argument -/
theorem blt_one {b : Bf} {vs : List V} {Q : VK} {k : D → Option RV} (h : rBlt T rp b vs H Q) (h1 : ∀ d, runB rp b [d] = k d) (h0 : runB rp b [] = none) (h2 : ∀ d d' r, runB rp b (d :: d' :: r) = none) :
    ∃ W io d v rv, vs = [v] ∧ Same W H ∧ View T W io H d v ∧ k d = some rv ∧ ∀ v H', Nw T W io H rv v H' → Q v H' := by
  obtain ⟨W, io, ds, rv, hs, hv, e, q⟩ := h
  cases ds with
  | nil => rw [h0] at e; cases e
  | cons d ds =>
    cases ds with
    | nil =>
      rw [h1] at e
      simp only [ViewL] at hv
      obtain ⟨v, _, rfl, hv, rfl⟩ := hv
      exact ⟨W, io, d, v, rv, rfl, hs, hv, e, q⟩
    | cons d' r => rw [h2] at e; cases e
theorem blt_abs : CallR X (.builtin "abs") (rBlt T rp .abs) := by
  intro pins s σ H vs us Q I rv h
  obtain ⟨W, io, d, v, r, rfl, hs, hv, e, q⟩ := blt_one (k := fun d => match d with | .int i => pv (.int (if i < 0 then -i else i)) | _ => none) h (fun d => by cases d <;> rfl) rfl (fun d d' r => by cases d <;> rfl)
  split at e
  · rename_i i
    cases e
    have := hv.int
    subst this
    exact call_abs pins s σ H _ us Q I rv ⟨i, rfl, q _ H (.same (by simp only [Rep]))⟩
  · cases e
theorem blt_int : CallR X (.type "int") (rBlt T rp .int) := by
  intro pins s σ H vs us Q I rv h
  obtain ⟨W, io, d, v, r, rfl, hs, hv, e, q⟩ := blt_one (k := fun d => match d with | .int i => pv (.int i) | .bl b => pv (.int (if b then 1 else 0)) | _ => none) h (fun d => by cases d <;> rfl) rfl (fun d d' r => by cases d <;> rfl)
  split at e
  · rename_i i
    cases e
    have := hv.int
    subst this
    exact call_int1 pins s σ H _ us Q I rv (.inl ⟨i, rfl, q _ H (.same (by simp only [Rep]))⟩)
  · rename_i k
    cases e
    have := hv.bl
    subst this
    exact call_int1 pins s σ H _ us Q I rv (.inr ⟨k, rfl, q _ H (.same (by simp only [Rep]))⟩)
  · cases e
theorem blt_len (hK : X.K = T.K) : CallR X (.builtin "len") (rBlt T rp .len) := by
  intro pins s σ H vs us Q I rv h
  obtain ⟨W, io, d, v, r, rfl, hs, hv, e, q⟩ := blt_one (k := fun d => (lenD d).map fun n => ⟨.int n, false⟩) h (fun d => rfl) rfl (fun d d' r => rfl)
  have done : ∀ n : Nat, r = ⟨.int n, false⟩ → Q (.int n) H := fun n er => by subst er; exact q _ H (.same (by simp only [Rep]))
  cases d with
  | lst xs =>
    cases e
    obtain ⟨p, ys, rfl, e1, e2⟩ := hv.lst hs
    exact call_len pins s σ H _ us Q I rv ⟨_, ys.length, rfl, .inl ⟨ys, .inl (.inl e1), rfl⟩, by rw [← e2.length]; exact done _ rfl⟩
  | tup xs =>
    cases e
    obtain ⟨p, ys, rfl, e1, e2⟩ := hv.tup hs
    exact call_len pins s σ H _ us Q I rv ⟨_, ys.length, rfl, .inr ⟨ys, by rw [hK]; exact e1, rfl⟩, by rw [← e2.length]; exact done _ rfl⟩
  | str cs =>
    cases e
    obtain ⟨rfl, e2⟩ := hv.str
    refine call_len pins s σ H _ us Q I rv ⟨_, cs.length, rfl, ⟨by rw [sOf_length, ← lim_eq]; exact e2, (sOf_length cs).symm⟩, done _ rfl⟩
  | dic ks ds =>
    cases e
    obtain ⟨p, kv, ys, rfl, ⟨kvs, e1, e2, e3⟩, e4, e5⟩ := hv.dic hs
    refine call_lenD pins s σ H _ us Q I rv ⟨p, kvs, rfl, e1, ?_⟩
    have : kvs.length = ks.length := by rw [e4.length, ← e2, List.length_map]
    rw [this]; exact done _ rfl
  | scr ns =>
    cases e
    obtain ⟨p, rfl, e1⟩ := hv.scr hs
    refine call_len pins s σ H _ us Q I rv ⟨_, ns.length, rfl, .inl ⟨_, by rw [hK]; exact e1, by simp⟩, done _ rfl⟩
  | _ => cases e
theorem blt_tuple (hK : X.K = T.K) : CallR X (.type "tuple") (rBlt T rp .tuple) := by
  intro pins s σ H vs us Q I rv h
  obtain ⟨W, io, d, v, r, rfl, hs, hv, e, q⟩ := blt_one (k := fun d => (seqs? d).map fun xs => ⟨.tup xs, false⟩) h (fun d => rfl) rfl (fun d d' r => rfl)
  cases d with
  | lst xs =>
    cases e
    obtain ⟨p, ys, rfl, e1, e2⟩ := hv.lst hs
    exact call_tuple_of pins s σ H _ us Q I rv ⟨p, ys, rfl, .inl ⟨.inl (.inl e1), fun l hl => q _ _ (.tup hl e2)⟩⟩
  | tup xs =>
    cases e
    obtain ⟨p, ys, rfl, e1, e2⟩ := hv.tupW
    refine call_tuple_of pins s σ H _ us Q I rv ⟨p, ys, rfl, .inr ⟨by rw [hK]; exact sameT hs e1, q _ _ (.same ?_)⟩⟩
    simp only [Rep]
    exact ⟨p, ys, rfl, e1, e2⟩
  | _ => cases e
theorem blt_list (hK : X.K = T.K) : CallR X (.type "list") (rBlt T rp .list) := by
  intro pins s σ H vs us Q I rv h
  obtain ⟨W, io, d, v, r, rfl, hs, hv, e, q⟩ := blt_one (k := fun d => (seqs? d).map fun xs => ⟨.lst xs, true⟩) h (fun d => rfl) rfl (fun d d' r => rfl)
  cases d with
  | lst xs =>
    cases e
    obtain ⟨p, ys, rfl, e1, e2⟩ := hv.lst hs
    exact call_list_of pins s σ H _ us Q I rv ⟨p, ys, rfl, .inl (.inl (.inl e1)), fun l hl => q _ _ (.lst hl e2)⟩
  | tup xs =>
    cases e
    obtain ⟨p, ys, rfl, e1, e2⟩ := hv.tup hs
    exact call_list_of pins s σ H _ us Q I rv ⟨p, ys, rfl, .inr (by rw [hK]; exact e1), fun l hl => q _ _ (.lst hl e2)⟩
  | _ => cases e
theorem ints_rep {W : L2.Hp} {io : List Addr} : ∀ {xs : List D} {vs : List V} {is : List Int}, ints? xs = some is → RepL T W io xs vs → vs = is.map V.int
  | [], vs, is, e, h => by simp only [ints?] at e; cases e; simp only [RepL] at h; subst h; rfl
  | x :: xs, vs, is, e, h => by
    cases x with
    | int i =>
      simp only [ints?, Option.map_eq_some_iff] at e
      obtain ⟨is', e1, rfl⟩ := e
      simp only [RepL] at h
      obtain ⟨v, r, rfl, h1, h2⟩ := h
      simp only [Rep] at h1
      rw [h1, ints_rep e1 h2]; rfl
    | _ => simp [ints?] at e
theorem bls_rep {W : L2.Hp} {io : List Addr} : ∀ {xs : List D} {vs : List V} {is : List Bool}, bls? xs = some is → RepL T W io xs vs → vs = is.map V.bl
  | [], vs, is, e, h => by simp only [bls?] at e; cases e; simp only [RepL] at h; subst h; rfl
  | x :: xs, vs, is, e, h => by
    cases x with
    | bl i =>
      simp only [bls?, Option.map_eq_some_iff] at e
      obtain ⟨is', e1, rfl⟩ := e
      simp only [RepL] at h
      obtain ⟨v, r, rfl, h1, h2⟩ := h
      simp only [Rep] at h1
      rw [h1, bls_rep e1 h2]; rfl
    | _ => simp [bls?] at e
theorem blt_all (hc : X.calm = true) : CallR X (.builtin "all") (rBlt T rp .all) := by
  intro pins s σ H vs us Q I rv h
  obtain ⟨W, io, d, v, r, rfl, hs, hv, e, q⟩ := blt_one (k := fun d => match d with | .lst xs => (bls? xs).map fun bs => ⟨.bl (bs.all id), false⟩ | _ => none) h (fun d => by cases d <;> rfl) rfl (fun d d' r => by cases d <;> rfl)
  split at e
  · rename_i xs
    simp only [Option.map_eq_some_iff] at e
    obtain ⟨bs, e0, rfl⟩ := e
    obtain ⟨p, ys, rfl, e1, e2⟩ := hv.lst hs
    have := bls_rep e0 e2
    subst this
    exact cr_all hc pins s σ H _ us Q I rv ⟨p, bs, rfl, .inl (.inl e1), q _ H (.same (by simp only [Rep]))⟩
  · cases e
theorem blt_any (hc : X.calm = true) : CallR X (.builtin "any") (rBlt T rp .any) := by
  intro pins s σ H vs us Q I rv h
  obtain ⟨W, io, d, v, r, rfl, hs, hv, e, q⟩ := blt_one (k := fun d => match d with | .lst xs => (bls? xs).map fun bs => ⟨.bl (bs.any id), false⟩ | _ => none) h (fun d => by cases d <;> rfl) rfl (fun d d' r => by cases d <;> rfl)
  split at e
  · rename_i xs
    simp only [Option.map_eq_some_iff] at e
    obtain ⟨bs, e0, rfl⟩ := e
    obtain ⟨p, ys, rfl, e1, e2⟩ := hv.lst hs
    have := bls_rep e0 e2
    subst this
    exact cr_any hc pins s σ H _ us Q I rv ⟨p, bs, rfl, .inl (.inl e1), q _ H (.same (by simp only [Rep]))⟩
  · cases e
theorem blt_sum (hc : X.calm = true) : CallR X (.builtin "sum") (rBlt T rp .sum) := by
  intro pins s σ H vs us Q I rv h
  obtain ⟨W, io, d, v, r, rfl, hs, hv, e, q⟩ := blt_one (k := fun d => match d with | .lst xs => (ints? xs).map fun bs => ⟨.int bs.sum, false⟩ | _ => none) h (fun d => by cases d <;> rfl) rfl (fun d d' r => by cases d <;> rfl)
  split at e
  · rename_i xs
    simp only [Option.map_eq_some_iff] at e
    obtain ⟨bs, e0, rfl⟩ := e
    obtain ⟨p, ys, rfl, e1, e2⟩ := hv.lst hs
    have := ints_rep e0 e2
    subst this
    exact cr_sum hc pins s σ H _ us Q I rv ⟨p, bs, rfl, .inl (.inl e1), q _ H (.same (by simp only [Rep]))⟩
  · cases e
theorem blt_two {b : Bf} {vs : List V} {Q : VK} {k : D → D → Option RV} (h : rBlt T rp b vs H Q) (h1 : ∀ d d', runB rp b [d, d'] = k d d') (h0 : runB rp b [] = none) (h00 : ∀ d, runB rp b [d] = none) (h2 : ∀ d d' d'' r, runB rp b (d :: d' :: d'' :: r) = none) :
    ∃ W io d d' v v' rv, vs = [v, v'] ∧ Same W H ∧ View T W io H d v ∧ View T W io H d' v' ∧ k d d' = some rv ∧ ∀ v H', Nw T W io H rv v H' → Q v H' := by
  obtain ⟨W, io, ds, rv, hs, hv, e, q⟩ := h
  match ds, hv, e with
  | [], _, e => rw [h0] at e; cases e
  | [d], _, e => rw [h00] at e; cases e
  | [d, d'], hv, e =>
    rw [h1] at e
    simp only [ViewL] at hv
    obtain ⟨v, _, rfl, hv1, v', _, rfl, hv', rfl⟩ := hv
    exact ⟨W, io, d, d', v, v', rv, rfl, hs, hv1, hv', e, q⟩
  | d :: d' :: d'' :: r, _, e => rw [h2] at e; cases e
theorem blt_min2 (hc : X.calm = true) : CallR X (.builtin "min") (rBlt T rp .min2) := by
  intro pins s σ H vs us Q I rv h
  obtain ⟨W, io, d, d', v, v', r, rfl, hs, hv, hv', e, q⟩ := blt_two (k := fun d d' => match d, d' with | .int i, .int j => pv (.int (if j < i then j else i)) | _, _ => none) h (fun d d' => by cases d <;> cases d' <;> rfl) rfl (fun d => by cases d <;> rfl) (fun d d' d'' r => by cases d <;> cases d' <;> rfl)
  split at e
  · rename_i i j
    cases e
    have := hv.int
    have h2 := hv'.int
    subst this h2
    exact call_min2 hc pins s σ H _ us Q I rv ⟨i, j, rfl, q _ H (.same (by simp only [Rep]))⟩
  · cases e
theorem blt_max2 (hc : X.calm = true) : CallR X (.builtin "max") (rBlt T rp .max2) := by
  intro pins s σ H vs us Q I rv h
  obtain ⟨W, io, d, d', v, v', r, rfl, hs, hv, hv', e, q⟩ := blt_two (k := fun d d' => match d, d' with | .int i, .int j => pv (.int (if j > i then j else i)) | _, _ => none) h (fun d d' => by cases d <;> cases d' <;> rfl) rfl (fun d => by cases d <;> rfl) (fun d d' d'' r => by cases d <;> cases d' <;> rfl)
  split at e
  · rename_i i j
    cases e
    have := hv.int
    have h2 := hv'.int
    subst this h2
    exact call_max2 hc pins s σ H _ us Q I rv ⟨i, j, rfl, q _ H (.same (by simp only [Rep]))⟩
  · cases e

/-! ### the least, the greatest, the sorted -/
theorem sOf_inj {a b : List Nat} (h : sOf a = sOf b) : a = b := by
  have := sOf_beq a b
  rw [h, beq_self_eq_true] at this
  exact eq_of_beq this.symm
mutual
theorem toP_inj : ∀ (n m : Nat) (a b : D), D.pl n a = true → D.pl m b = true → toP a = toP b → a = b
  | n, m, a, b, ha, hb, e => by
    cases a <;> cases b <;> first
      | (exfalso; cases n <;> simp [D.pl] at ha; done)
      | (exfalso; cases m <;> simp [D.pl] at hb; done)
      | (exfalso; simp only [toP] at e; cases e; done)
      | rfl
      | (simp only [toP, PyData.bool.injEq] at e; rw [e]; done)
      | (simp only [toP, PyData.int.injEq] at e; rw [e]; done)
      | (simp only [toP, PyData.str.injEq] at e
         rw [sOf_inj e]; done)
      | (cases n with
         | zero => exact nomatch ha
         | succ n =>
           cases m with
           | zero => exact nomatch hb
           | succ m =>
             simp only [D.pl] at ha hb
             simp only [toP, PyData.tuple.injEq, PyData.list.injEq] at e
             rw [toPL_inj n m _ _ ha hb e])
theorem toPL_inj : ∀ (n m : Nat) (xs ys : List D), plL n xs = true → plL m ys = true → toPL xs = toPL ys → xs = ys
  | _, _, [], [], _, _, _ => rfl
  | _, _, [], _ :: _, _, _, e => by simp [toPL] at e
  | _, _, _ :: _, [], _, _, e => by simp [toPL] at e
  | n, m, x :: xs, y :: ys, ha, hb, e => by
    simp only [plL, Bool.and_eq_true] at ha hb
    simp only [toPL, List.cons.injEq] at e
    rw [toP_inj n m x y ha.1 hb.1 e.1, toPL_inj n m xs ys ha.2 hb.2 e.2]
end
theorem plL_mem {n : Nat} : ∀ {xs : List D}, plL n xs = true → ∀ x ∈ xs, D.pl n x = true
  | [], _, x, h => nomatch h
  | y :: ys, hp, x, h => by
    simp only [plL, Bool.and_eq_true] at hp
    rcases List.mem_cons.mp h with z | z
    · subst z; exact hp.1
    · exact plL_mem hp.2 x z
theorem allAlike_mem {xs : List D} (h : allAlike xs = true) {x y : D} (hx : x ∈ xs) (hy : y ∈ xs) : D.alike x y = true := by
  unfold allAlike at h
  exact List.all_eq_true.mp (List.all_eq_true.mp h x hx) y hy
theorem toP_non {n : Nat} {x : D} (hp : D.pl n x = true) (h : isNon x = false) : toP x ≠ .none := by
  cases x <;> first
    | (exfalso; cases n <;> simp [D.pl] at hp; done)
    | (exfalso; simp [isNon] at h; done)
    | (intro z; simp [toP] at z; done)
structure Srt (xs : List D) : Prop where
  al : ∀ x ∈ xs, ∀ y ∈ xs, D.alike x y = true
  pl : ∀ x ∈ xs, D.pl 59 x = true
  non : ∀ x ∈ xs, isNon x = false
  nil : ∀ x ∈ xs, isNil x = false
theorem srt_of {xs : List D} (h : sortable xs = true) : Srt xs := by
  unfold sortable at h
  simp only [Bool.and_eq_true, Bool.not_eq_true'] at h
  obtain ⟨⟨⟨h1, h2⟩, h3⟩, h4⟩ := h
  refine ⟨fun x hx y hy => allAlike_mem h1 hx hy, plL_mem h2, fun x hx => ?_, fun x hx => ?_⟩
  · cases z : isNon x with
    | false => rfl
    | true => exact absurd (List.any_eq_true.mpr ⟨x, hx, z⟩) (by rw [h3]; simp)
  · cases z : isNil x with
    | false => rfl
    | true => exact absurd (List.any_eq_true.mpr ⟨x, hx, z⟩) (by rw [h4]; simp)
theorem alikeAll_of {xs : List D} (h : Srt xs) : PySem.W.AlikeAll (toPL xs) := by
  rw [toPL_map]
  refine ⟨fun x hx y hy => ?_, fun x hx => ?_⟩
  · obtain ⟨a, ha, rfl⟩ := List.mem_map.mp hx
    obtain ⟨b, hb, rfl⟩ := List.mem_map.mp hy
    exact alike_toP _ _ (h.al a ha b hb)
  · obtain ⟨a, ha, rfl⟩ := List.mem_map.mp hx
    exact toP_non (h.pl a ha) (h.non a ha)
theorem minD_toP : ∀ (xs : List D) (m : D), Srt (m :: xs) → PySem.W.minD (toP m) (toPL xs) = toP (minD m xs) ∧ minD m xs ∈ m :: xs
  | [], m, _ => ⟨rfl, List.mem_cons_self⟩
  | x :: xs, m, h => by
    have hx : x ∈ m :: x :: xs := by simp
    have hm : m ∈ m :: x :: xs := by simp
    have e : PySem.W.dataLt (toP x) (toP m) = D.ltv x m := ltv_toP 59 59 x m (h.pl x hx) (h.pl m hm) (h.al x hx m hm)
    have hs : Srt ((if D.ltv x m then x else m) :: xs) := by
      have sub : ∀ y ∈ (if D.ltv x m then x else m) :: xs, y ∈ m :: x :: xs := fun y hy => by
        rcases List.mem_cons.mp hy with z | z
        · subst z; split
          · exact hx
          · exact hm
        · simp [z]
      exact ⟨fun a ha b hb => h.al a (sub a ha) b (sub b hb), fun a ha => h.pl a (sub a ha), fun a ha => h.non a (sub a ha), fun a ha => h.nil a (sub a ha)⟩
    obtain ⟨i1, i2⟩ := minD_toP xs (if D.ltv x m then x else m) hs
    refine ⟨?_, ?_⟩
    · simp only [minD]
      rw [← i1]
      simp only [toPL, PySem.W.minD, List.foldl_cons, e]
      split <;> rfl
    · simp only [minD]
      rcases List.mem_cons.mp i2 with z | z
      · rw [z]; split
        · exact hx
        · exact hm
      · simp [z]
theorem maxD_toP : ∀ (xs : List D) (m : D), Srt (m :: xs) → PySem.W.maxD (toP m) (toPL xs) = toP (maxD m xs) ∧ maxD m xs ∈ m :: xs
  | [], m, _ => ⟨rfl, List.mem_cons_self⟩
  | x :: xs, m, h => by
    have hx : x ∈ m :: x :: xs := by simp
    have hm : m ∈ m :: x :: xs := by simp
    have e : PySem.W.dataLt (toP m) (toP x) = D.ltv m x := ltv_toP 59 59 m x (h.pl m hm) (h.pl x hx) (h.al m hm x hx)
    have hs : Srt ((if D.ltv m x then x else m) :: xs) := by
      have sub : ∀ y ∈ (if D.ltv m x then x else m) :: xs, y ∈ m :: x :: xs := fun y hy => by
        rcases List.mem_cons.mp hy with z | z
        · subst z; split
          · exact hx
          · exact hm
        · simp [z]
      exact ⟨fun a ha b hb => h.al a (sub a ha) b (sub b hb), fun a ha => h.pl a (sub a ha), fun a ha => h.non a (sub a ha), fun a ha => h.nil a (sub a ha)⟩
    obtain ⟨i1, i2⟩ := maxD_toP xs (if D.ltv m x then x else m) hs
    refine ⟨?_, ?_⟩
    · simp only [maxD]
      rw [← i1]
      simp only [toPL, PySem.W.maxD, List.foldl_cons, e]
      split <;> rfl
    · simp only [maxD]
      rcases List.mem_cons.mp i2 with z | z
      · rw [z]; split
        · exact hx
        · exact hm
      · simp [z]
theorem depth_le {xs : List D} (h : plL 59 xs = true) : PyData.depthAll (toPL xs) ≤ 59 := (plainL_toP 59 xs h).2
theorem plL_of {n : Nat} : ∀ {xs : List D}, (∀ x ∈ xs, D.pl n x = true) → plL n xs = true
  | [], _ => rfl
  | x :: xs, h => by
    simp only [plL, Bool.and_eq_true]
    exact ⟨h x (by simp), plL_of fun y hy => h y (by simp [hy])⟩
/-- one of the items, told by its data -/
theorem pick_ok {W : L2.Hp} {io : List Addr} {pins : List (Addr × Obj)} {sh : Shared} {xs : List D} {vs : List V} {its : List Value} {d : D} (hK : X.K = T.K) (I : Inv X pins σ H sh) (hs : Same W H) (rl : RepL T W io xs vs) (rv : Vals vs its) (hp : ∀ x ∈ xs, D.pl 59 x = true) (hd : d ∈ xs) {i : Nat} {u : Value} {h' : Heap} {bs : List Addr}
    (hu : its[i]? = some u) (hr : Reads h' u (toP d) bs) (hk : ∀ b o, sh.heap.get? b = some o → h'.get? b = some o) : ∃ v, RelV v u ∧ Rep T W io d v := by
  have hv : ∃ v, vs[i]? = some v := by
    have : i < its.length := (List.getElem?_eq_some_iff.mp hu).1
    rw [← rv.length] at this
    exact ⟨vs[i], List.getElem?_eq_getElem this⟩
  obtain ⟨v, hv⟩ := hv
  obtain ⟨u', hu', ru⟩ := rv.get hv
  rw [hu] at hu'; cases hu'
  obtain ⟨d', hd', rep⟩ := rl.getV hv
  have dp := dp_rep hs 59 d' v (hp d' (List.mem_of_getElem? hd')) rep
  rw [← hK] at dp
  obtain ⟨as, rd⟩ := Dp.reads I _ _ _ dp ru
  have := (PyProof.Rows.reads_det (fun b o e _ => hk b o e) rd hr).1
  have := toP_inj 59 59 d d' (hp d hd) (hp d' (List.mem_of_getElem? hd')) this
  subst this
  exact ⟨v, ru, rep⟩
theorem blt_min (F : Facts X T P) (hc : X.calm = true) : CallR X (.builtin "min") (rBlt T rp .min) := by
  intro pins s σ H vs us Q I rv h
  obtain ⟨W, io, d, v, r, rfl, hs, hv, e, q⟩ := blt_one (k := fun d => (seqs? d).bind fun xs => match xs with | x :: r => if sortable xs then pv (minD x r) else none | [] => none) h (fun d => rfl) rfl (fun d d' r => rfl)
  have hun := F.un
  have fin : ∀ (x : D) (xs : List D) (ys : List V) (its : List Value), sortable (x :: xs) = true → r = ⟨minD x xs, false⟩ → RepL T W io (x :: xs) ys → Vals ys its → ∀ (i : Nat) u h' tk bs, its.toArray[i]? = some u → Reads h' u (PySem.W.minD (toP x) (toPL xs)) bs → (∀ b o, s.heap.get? b = some o → h'.get? b = some o) → EP X pins σ Q u { s with heap := h', toks := tk } := fun x xs ys its hso er rl rvs i u h' tk bs hu hr hk => by
    have S := srt_of hso
    obtain ⟨m1, m2⟩ := minD_toP xs x S
    rw [m1] at hr
    obtain ⟨w, rw', rep⟩ := pick_ok F.K I hs rl rvs S.pl m2 (by simpa using hu) hr hk
    subst er
    exact ⟨w, H, I.kept hk, rw', q _ H (.same rep)⟩
  cases d with
  | lst xs =>
    cases xs with
    | nil => cases e
    | cons x xs =>
      simp only [seqs?, Option.bind_some] at e
      split at e
      · rename_i hso
        cases e
        obtain ⟨p, ys, rfl, e1, e2⟩ := hv.lst hs
        obtain ⟨its, rvs, pl, hz⟩ := I.list (.inl (.inl e1) : SqL X.K H p ys)
        have S := srt_of hso
        have dp := dpL_rep hs 59 (x :: xs) ys (plL_of S.pl) e2
        rw [← F.K] at dp
        obtain ⟨as, rds⟩ := Dp.readsAll I _ _ _ dp rvs
        have hd := depth_le (plL_of S.pl)
        rw [Vals.ref1 rv]
        exact PySem.W.min_list_data (I.ok.hd hc) pl.isList (x := toP x) (xs := toPL xs) (by simpa [toPL] using rds) (by simpa [toPL] using alikeAll_of S) (by simp only [toPL] at hd; omega) (fin x xs ys its hso rfl e2 rvs)
      · cases e
  | tup xs =>
    cases xs with
    | nil => cases e
    | cons x xs =>
      simp only [seqs?, Option.bind_some] at e
      split at e
      · rename_i hso
        cases e
        obtain ⟨p, ys, rfl, e1, e2⟩ := hv.tup hs
        rw [← F.K] at e1
        obtain ⟨its, rvs, pl, hz⟩ := I.tuple e1
        have S := srt_of hso
        have dp := dpL_rep hs 59 (x :: xs) ys (plL_of S.pl) e2
        rw [← F.K] at dp
        obtain ⟨as, rds⟩ := Dp.readsAll I _ _ _ dp rvs
        have hd := depth_le (plL_of S.pl)
        rw [Vals.ref1 rv]
        exact PySem.W.min_tuple_data (I.ok.hd hc) (show s.heap.IsTuple p its.toArray from pl) (x := toP x) (xs := toPL xs) (by simpa [toPL] using rds) (by simpa [toPL] using alikeAll_of S) (by simp only [toPL] at hd; omega) (fin x xs ys its hso rfl e2 rvs)
      · cases e
  | _ => cases e
theorem blt_max (F : Facts X T P) (hc : X.calm = true) : CallR X (.builtin "max") (rBlt T rp .max) := by
  intro pins s σ H vs us Q I rv h
  obtain ⟨W, io, d, v, r, rfl, hs, hv, e, q⟩ := blt_one (k := fun d => (seqs? d).bind fun xs => match xs with | x :: r => if sortable xs then pv (maxD x r) else none | [] => none) h (fun d => rfl) rfl (fun d d' r => rfl)
  have hun := F.un
  have fin : ∀ (x : D) (xs : List D) (ys : List V) (its : List Value), sortable (x :: xs) = true → r = ⟨maxD x xs, false⟩ → RepL T W io (x :: xs) ys → Vals ys its → ∀ (i : Nat) u h' tk bs, its.toArray[i]? = some u → Reads h' u (PySem.W.maxD (toP x) (toPL xs)) bs → (∀ b o, s.heap.get? b = some o → h'.get? b = some o) → EP X pins σ Q u { s with heap := h', toks := tk } := fun x xs ys its hso er rl rvs i u h' tk bs hu hr hk => by
    have S := srt_of hso
    obtain ⟨m1, m2⟩ := maxD_toP xs x S
    rw [m1] at hr
    obtain ⟨w, rw', rep⟩ := pick_ok F.K I hs rl rvs S.pl m2 (by simpa using hu) hr hk
    subst er
    exact ⟨w, H, I.kept hk, rw', q _ H (.same rep)⟩
  cases d with
  | lst xs =>
    cases xs with
    | nil => cases e
    | cons x xs =>
      simp only [seqs?, Option.bind_some] at e
      split at e
      · rename_i hso
        cases e
        obtain ⟨p, ys, rfl, e1, e2⟩ := hv.lst hs
        obtain ⟨its, rvs, pl, hz⟩ := I.list (.inl (.inl e1) : SqL X.K H p ys)
        have S := srt_of hso
        have dp := dpL_rep hs 59 (x :: xs) ys (plL_of S.pl) e2
        rw [← F.K] at dp
        obtain ⟨as, rds⟩ := Dp.readsAll I _ _ _ dp rvs
        have hd := depth_le (plL_of S.pl)
        rw [Vals.ref1 rv]
        exact PySem.W.max_list_data (I.ok.hd hc) pl.isList (x := toP x) (xs := toPL xs) (by simpa [toPL] using rds) (by simpa [toPL] using alikeAll_of S) (by simp only [toPL] at hd; omega) (fin x xs ys its hso rfl e2 rvs)
      · cases e
  | tup xs =>
    cases xs with
    | nil => cases e
    | cons x xs =>
      simp only [seqs?, Option.bind_some] at e
      split at e
      · rename_i hso
        cases e
        obtain ⟨p, ys, rfl, e1, e2⟩ := hv.tup hs
        rw [← F.K] at e1
        obtain ⟨its, rvs, pl, hz⟩ := I.tuple e1
        have S := srt_of hso
        have dp := dpL_rep hs 59 (x :: xs) ys (plL_of S.pl) e2
        rw [← F.K] at dp
        obtain ⟨as, rds⟩ := Dp.readsAll I _ _ _ dp rvs
        have hd := depth_le (plL_of S.pl)
        rw [Vals.ref1 rv]
        exact PySem.W.max_tuple_data (I.ok.hd hc) (show s.heap.IsTuple p its.toArray from pl) (x := toP x) (xs := toPL xs) (by simpa [toPL] using rds) (by simpa [toPL] using alikeAll_of S) (by simp only [toPL] at hd; omega) (fin x xs ys its hso rfl e2 rvs)
      · cases e
  | _ => cases e
end
end Ev
end

section
/-! EvB16: chains, isinstance, more built-ins. -/
namespace Ev
open PySem PySem.Spec PyProof.Rows L2

section
variable {X : Cx} {T : Tx} {P : Prog} {en : Ent} {g g1 : Gh} {H H1 H2 : L2.Hp} {r : RV} {v : V} {σ : L2.St} {s : Sta} {Wx : WX} {esc : Bool}
variable {a b c : Expr} {pos : Pos} {ea eb ec : Bool → Sta → Res RV}
variable {rp : D → List Nat}

/-! ### a < b < c -/
abbrev cmp2E (op op' : COp) (ea eb ec : Bool → Sta → Res RV) : Bool → Sta → Res RV := fun _ s => (ea false s).bind fun x s => (eb false s).bind fun y s => (ofO (cmpop op x.d y.d) s).bind fun k s =>
      if k then (ec false s).bind fun z s => (ofO (cmpop op' y.d z.d) s).bind fun k s => .ok ⟨.bl k, false⟩ s else .ok ⟨.bl false, false⟩ s
theorem chain_in {op op' : COp} {Q : VK} (R : Rel T en g s σ H) (h : OKat T en Wx g H σ (cmp2E op op' ea eb ec esc s) fun g' H' r s' => ∀ v, RetR T g' H H' esc r v → Q v H') :
    tChain (rC T op) (rC T op') (tD T en Wx false (ea false)) (tD T en Wx false (eb false)) (tD T en Wx false (ec false)) σ H Q := by
  refine ⟨g, s, R, OKat.mono (OKat.bind h) fun g1 H1 r1 s1 R1 S1 h1 x rx => ?_⟩
  refine ⟨g1, s1, R1, OKat.mono (OKat.bind h1) fun g2 H2 r2 s2 R2 S2 h2 y ry => ?_⟩
  cases e : cmpop op r1.d r2.d with
  | none => rw [e] at h2; exact h2.elim
  | some k =>
    rw [e] at h2
    refine ⟨g2.W, g2.io, _, _, k, R2.sub, (rx.sees.step S2).view, ry.sees.view, e, k, rfl, ?_⟩
    cases k with
    | false =>
      simp only [Bool.false_eq_true, if_false]
      exact h2 g2 H2 R2 Step.rfl' _ retR_bl
    | true =>
      simp only [if_true]
      have h2 : OKat T en Wx g2 H2 σ ((ec false s2).bind fun z s => (ofO (cmpop op' r2.d z.d) s).bind fun k s => (.ok ⟨.bl k, false⟩ s : Res RV)) fun g' H' r s' => ∀ v, RetR T g' H H' esc r v → Q v H' := h2
      refine ⟨g2, s2, R2, OKat.mono (OKat.bind h2) fun g3 H3 r3 s3 R3 S3 h3 z rz => ?_⟩
      cases e' : cmpop op' r2.d r3.d with
      | none => rw [e'] at h3; exact h3.elim
      | some k' =>
        rw [e'] at h3
        exact ⟨g3.W, g3.io, _, _, k', R3.sub, (ry.sees.step S3).view, rz.sees.view, e', h3 g3 H3 R3 Step.rfl' _ retR_bl⟩
theorem ev_cmp2 {op op' : COp} (F : Facts X T P) (ha : Snd X T en Wx a ea) (hb : Snd X T en Wx b eb) (hc : Snd X T en Wx c ec) (hm : lastMarks [copOf op, copOf op'] [b, c] = false) :
    Snd X T en Wx (.Compare a [copOf op, copOf op'] [b, c] pos) (cmp2E op op' ea eb ec) := by
  refine ⟨fun esc => pe_imp (pe_chain (op_cmp F.K F.un op) (op_cmp F.K F.un op') (ha.pe false) (hb.pe false) (hc.pe false) hm) fun σ H Q ⟨g, s, R, h⟩ => chain_in R h, ?_, fun _ _ _ z => nomatch z⟩
  refine pt_imp (pt_chain (op_cmp F.K F.un op) (op_cmp F.K F.un op') (ha.pe false) (hb.pe false) (hc.pe false) hm) fun σ H Q ⟨g, s, R, h⟩ => ?_
  refine chain_in (esc := false) R (OKat.mono (truth_ok h) fun g1 H1 r1 s1 R1 S1 ⟨b, e, q⟩ v rv => ?_)
  have := rv.view (W := g1.W)
  rw [e] at this
  exact ⟨b, this.bl, q g1 R1 Step.rfl'⟩

/-! ### isinstance -/
/-- a kind as a value -/
def kdV (T : Tx) : Kd → V
  | .int => .ty "int"
  | .bool => .ty "bool"
  | .str => .ty "str"
  | .list => .ty "list"
  | .tuple => .ty "tuple"
  | .dict => .ty "dict"
  | .cls c => .ref (T.ca c)
  | .bexc c => .ref (T.xa c)
def kdU (T : Tx) : Kd → Value
  | .int => .type "int"
  | .bool => .type "bool"
  | .str => .type "str"
  | .list => .type "list"
  | .tuple => .type "tuple"
  | .dict => .type "dict"
  | .cls c => .ref (T.ca c)
  | .bexc c => .ref (T.xa c)
theorem kd_cls (k : Kd) : ClsV (kdV T k) (kdU T k) := by
  cases k <;> first
    | exact .ty _
    | exact .own _
/-- the type of a datum -/
def tyD (T : Tx) : D → Value
  | .non => .type "NoneType"
  | .bl _ => .type "bool"
  | .int _ => .type "int"
  | .str _ => .type "str"
  | .tup _ => .type "tuple"
  | .lst _ => .type "list"
  | .dic _ _ => .type "dict"
  | .obj c _ _ => .ref (T.ca c)
  | _ => .none
/-- what is to be known of the classes for isinstance: the data's kinds by samples -/
structure IsiF (X : Cx) (T : Tx) (P : Prog) (ks : List Kd) : Prop where
  cls : ∀ c, c < P.flds.length → Cls X.K (T.ca c) ∧ PySem.W.findIn X.K (.ref (T.ca c)) "__class__" = some (some (.builtin "object.__class__")) ∧ PySem.W.mroIn X.K (T.ca c) (.type "object") = some true
  g1 : PySem.W.specialIn X.K (.builtin "object.__class__") "__get__" = some (some (.builtin "getset_descriptor.__get__"))
  g2 : PySem.W.takesIn X.K (.builtin "object.__class__") = some true
  kit : ∀ d k, kdOk P d = true → k ∈ ks → PySem.W.kitOne X.K (tyD T d) (kdU T k) = some (isKd d k)
theorem ty_of {W : L2.Hp} {io : List Addr} {d : D} {ks : List Kd} (F : Facts X T P) (I : IsiF X T P ks) (hs : Same W H) (hk : kdOk P d = true) (h : View T W io H d v) : TyX X.K H v (tyD T d) := by
  cases d with
  | non => have := h.non; subst this; exact .base .non
  | bl b => have := h.bl; subst this; exact .base (.bl _)
  | int i => have := h.int; subst this; exact .base (.int _)
  | str cs => obtain ⟨rfl, _⟩ := h.str; exact .base (.str _)
  | tup xs =>
    obtain ⟨p, vs, rfl, e, _⟩ := h.tup hs
    rcases e with (e | ⟨o, e⟩) | e
    · exact .base (.tup e)
    · exact .fTuple e
    · obtain ⟨o, its, n, e1, e2, _⟩ := e
      rw [← F.K] at e1
      exact .kTuple e1 e2
  | lst xs => obtain ⟨p, vs, rfl, e, _⟩ := h.lst hs; exact .base (.lst e)
  | dic ks ds => obtain ⟨p, kv, vs, rfl, ⟨kvs, e, _⟩, _⟩ := h.dic hs; exact .base (.dK e)
  | obj c ns ds =>
    obtain ⟨p, dx, fvs, rfl, e, _⟩ := h.obj hs
    obtain ⟨k1, k2, k3⟩ := I.cls c (of_decide_eq_true hk)
    exact .base (.ins e k1 k2 I.g1 I.g2 k3)
  | _ => cases hk

theorem kit_any {d : D} {t : Value} {K : PySem.W.Frag} : ∀ {ks : List Kd}, (∀ k ∈ ks, PySem.W.kitOne K t (kdU T k) = some (isKd d k)) → PySem.W.kitAny K t (ks.map (kdU T)) = some (ks.any (isKd d))
  | [], _ => rfl
  | k :: ks, h => by
    rw [List.map_cons]
    unfold PySem.W.kitAny
    rw [h k (by simp), List.any_cons]
    cases isKd d k with
    | true => rfl
    | false => exact kit_any fun k' hk => h k' (by simp [hk])
abbrev isiE (P : Prog) (ks : List Kd) (ea : Bool → Sta → Res RV) : Bool → Sta → Res RV := fun _ s => (ea false s).bind fun x s => (ofO (isiD P (deref s.hp x.d) ks) s).bind fun k s => .ok ⟨.bl k, false⟩ s
theorem isi_in {ks : List Kd} {H0 : L2.Hp} {Q : VK} (R : Rel T en g s σ H) (h : OKat T en Wx g H σ ((ofO (isiD P (deref s.hp r.d) ks) s).bind fun k s => (.ok ⟨.bl k, false⟩ s : Res RV)) fun g' H' r s' => ∀ v, RetR T g' H0 H' esc r v → Q v H') :
    kdOk P (deref s.hp r.d) = true ∧ Q (.bl (ks.any (isKd (deref s.hp r.d)))) H := by
  unfold isiD at h
  split at h
  · rename_i hk
    exact ⟨hk, h g H R Step.rfl' _ retR_bl⟩
  · exact h.elim
theorem ev_isi1 {p : Pos} {k : Kd} {ks' : List Kd} (F : Facts X T P) (I : IsiF X T P ks') (hk : k ∈ ks') (ha : Snd X T en Wx a ea) (hb : PE X b (tC (kdV T k))) (hg : Gl X "isinstance") (hm : X.mg "isinstance" = none)
    (hst : starEach [a, b] X.env = [(false, eval a X.env), (false, eval b X.env)]) (hst2 : starEach [b] X.env = [(false, eval b X.env)]) : Snd X T en Wx (.Call (.Name "isinstance" p) [a, b] [] pos) (isiE P [k] ea) :=
  snd_of fun esc => pe_imp (pe_callB (call_isi (X := X)) hg hm (by rfl) (pa_cons (ha.pe false) (pa_val hb hst2) (by rw [hst, hst2])) (by decide) (by decide) (by rw [hst, hst2]) (by rw [hst2]; rfl)) fun σ H Q ⟨g, s, R, h⟩ => by
    refine ⟨g, s, R, OKat.mono (OKat.bind h) fun g1 H1 r1 s1 R1 S1 h1 x rx => ?_⟩
    obtain ⟨k1, q⟩ := isi_in R1 h1
    refine ⟨x, kdV T k, tyD T (deref s1.hp r1.d), kdU T k, _, rfl, kd_cls k, ty_of F I R1.sub k1 (view_deref R1 (rx.view (W := g1.W))), I.kit _ k k1 hk, ?_⟩
    simpa using q
theorem paired_kd : ∀ {ks : List Kd}, Paired ClsV (ks.map (kdV T)) (ks.map (kdU T))
  | [] => .nil
  | k :: ks => .cons (kd_cls k) paired_kd
def tKs (T : Tx) (ks : List Kd) : TA := fun _ H Q => Q (ks.map (kdV T)) H
theorem ev_isiT {p p2 : Pos} {ks ks' : List Kd} {es : List Expr} {kt : Nat} (F : Facts X T P) (I : IsiF X T P ks') (hk : ∀ k ∈ ks, k ∈ ks') (ha : Snd X T en Wx a ea) (hb : PA X es (tKs T ks)) (hl : ks.length ≤ sizeLine) (hg : Gl X "isinstance") (hm : X.mg "isinstance" = none)
    (hst : starEach [a, .Tuple es kt p2] X.env = [(false, eval a X.env), (false, eval (.Tuple es kt p2) X.env)]) (hst2 : starEach [.Tuple es kt p2] X.env = [(false, eval (.Tuple es kt p2) X.env)]) : Snd X T en Wx (.Call (.Name "isinstance" p) [a, .Tuple es kt p2] [] pos) (isiE P ks ea) :=
  snd_of fun esc => pe_imp (pe_callB (call_isiT (X := X)) hg hm (by rfl) (pa_cons (ha.pe false) (pa_val (pe_tup hb) hst2) (by rw [hst, hst2])) (by decide) (by decide) (by rw [hst, hst2]) (by rw [hst2]; rfl)) fun σ H Q ⟨g, s, R, h⟩ => by
    refine ⟨g, s, R, OKat.mono (OKat.bind h) fun g1 H1 r1 s1 R1 S1 h1 x rx => ?_⟩
    refine ⟨by rw [List.length_map]; exact hl, fun q hq => ?_⟩
    have R2 := R1.new (o := .tup (ks.map (kdV T))) hq
    obtain ⟨k1, q⟩ := isi_in R2 (OKat.step (step_new hq) h1)
    have vx := view_deref R2 ((rx.sees.step (step_new hq)).view)
    refine ⟨x, _, _, tyD T (deref s1.hp r1.d), ks.map (kdU T), _, rfl, upd_same, paired_kd, ty_of F I R2.sub k1 vx, kit_any fun k hk' => I.kit _ k k1 (hk k hk'), q⟩

/-! ### list(range(..)) -/
theorem rgV_rep {W : L2.Hp} {io : List Addr} {m n : Int} : RepL T W io (rangeD m n) (rgV m n) := by
  unfold rangeD rgV
  generalize (n - m).toNat = k
  suffices ∀ l : List Nat, RepL T W io (l.map fun (k : Nat) => D.int (m + (k : Int))) (l.map fun (i : Nat) => V.int (m + (i : Nat))) from this _
  intro l
  induction l with
  | nil => exact RepL.nil
  | cons x l ih => exact RepL.cons (by simp only [Rep]) ih
abbrev lrg1E (ea : Bool → Sta → Res RV) : Bool → Sta → Res RV := fun _ s => (ea false s).bind fun x s => match x.d with
  | .int n => if smaller 0 n then .ok ⟨.lst (rangeD 0 n), true⟩ s else .bad
  | _ => .bad
abbrev lrg2E (ea eb : Bool → Sta → Res RV) : Bool → Sta → Res RV := fun _ s => (ea false s).bind fun x s => (eb false s).bind fun y s => match x.d, y.d with
  | .int m, .int n => if smaller m n then .ok ⟨.lst (rangeD m n), true⟩ s else .bad
  | _, _ => .bad
theorem smaller_ok {m n : Int} (h : smaller m n = true) : RgOk m n := by
  have := of_decide_eq_true h
  unfold RgOk
  omega
theorem ev_lrg1 {p p2 pos2 : Pos} (hc : X.calm = true) (ha : Snd X T en Wx a ea) (hg : Gl X "list") (hm : X.mg "list" = none) (hg2 : Gl X "range") (hm2 : X.mg "range" = none) (hst : starEach [a] X.env = [(false, eval a X.env)])
    (hst2 : starEach [.Call (.Name "range" p2) [a] [] pos2] X.env = [(false, eval (.Call (.Name "range" p2) [a] [] pos2) X.env)]) : Snd X T en Wx (.Call (.Name "list" p) [.Call (.Name "range" p2) [a] [] pos2] [] pos) (lrg1E ea) :=
  snd_of fun esc => pe_imp (pe_listRg hc hg hm (prg_1 hg2 hm2 (ha.pe false) (by rw [hst]; rfl)) (by rw [hst2]; rfl)) fun σ H Q ⟨g, s, R, h⟩ => by
    refine ⟨g, s, R, OKat.mono (OKat.bind h) fun g1 H1 r1 s1 R1 S1 h1 x rx => ?_⟩
    split at h1
    · rename_i n e
      have vx := rx.view (W := g1.W)
      rw [e] at vx
      have := vx.int
      subst this
      split at h1
      · rename_i hs
        refine ⟨n, rfl, smaller_ok hs, fun q hq => ?_⟩
        obtain ⟨g', R', S', rr⟩ := (Nw.lst (T := T) (W := g1.W) (io := g1.io) hq rgV_rep).ret (esc := esc) R1
        exact h1 g' _ R' S' _ (rr.step S1)
      · exact h1.elim
    · exact h1.elim
theorem ev_lrg2 {p p2 pos2 : Pos} (hc : X.calm = true) (ha : Snd X T en Wx a ea) (hb : Snd X T en Wx b eb) (hg : Gl X "list") (hm : X.mg "list" = none) (hg2 : Gl X "range") (hm2 : X.mg "range" = none) (hst : starEach [a, b] X.env = [(false, eval a X.env), (false, eval b X.env)]) (hstb : starEach [b] X.env = [(false, eval b X.env)])
    (hst2 : starEach [.Call (.Name "range" p2) [a, b] [] pos2] X.env = [(false, eval (.Call (.Name "range" p2) [a, b] [] pos2) X.env)]) : Snd X T en Wx (.Call (.Name "list" p) [.Call (.Name "range" p2) [a, b] [] pos2] [] pos) (lrg2E ea eb) :=
  snd_of fun esc => pe_imp (pe_listRg hc hg hm (prg_2 hg2 hm2 (ha.pe false) (hb.pe false) (by rw [hst, hstb]) (by rw [hstb]; rfl) (by rw [hstb]; rfl)) (by rw [hst2]; rfl)) fun σ H Q ⟨g, s, R, h⟩ => by
    refine ⟨g, s, R, OKat.mono (OKat.bind h) fun g1 H1 r1 s1 R1 S1 h1 x rx => ?_⟩
    refine ⟨g1, s1, R1, OKat.mono (OKat.bind h1) fun g2 H2 r2 s2 R2 S2 h2 y ry => ?_⟩
    split at h2
    · rename_i m n e e'
      have vx := (rx.sees.step S2).view
      rw [e] at vx
      have vy := ry.view (W := g2.W)
      rw [e'] at vy
      have := vx.int
      have := vy.int
      subst_vars
      split at h2
      · rename_i hs
        refine ⟨m, n, rfl, rfl, smaller_ok hs, fun q hq => ?_⟩
        obtain ⟨g', R', S', rr⟩ := (Nw.lst (T := T) (W := g2.W) (io := g2.io) hq rgV_rep).ret (esc := esc) R2
        exact h2 g' _ R' S' _ (rr.step (S1.trans S2))
      · exact h2.elim
    · exact h2.elim

/-! ### xs[::-1] -/
theorem RepL.rev {W : L2.Hp} {io : List Addr} {ds : List D} {vs : List V} (r : RepL T W io ds vs) : RepL T W io ds.reverse vs.reverse := r.reverse
abbrev revE (ea : Bool → Sta → Res RV) : Bool → Sta → Res RV := fun _ s => (ea false s).bind fun x s => match deref s.hp x.d with
    | .lst xs => .ok ⟨.lst xs.reverse, true⟩ s
    | _ => .bad
theorem ev_rev {k : Nat} {p1 p2 p3 : Pos} (F : Facts X T P) (ha : Snd X T en Wx a ea) : Snd X T en Wx (.Subscript a (.Slice none none (some (.UnaryOp .USub (.Constant (.int 1) k p1) p2)) p3) pos) (revE ea) :=
  snd_of fun esc => pe_imp (pe_revL (ha.pe false)) fun σ H Q ⟨g, s, R, h⟩ => by
    refine ⟨g, s, R, OKat.mono (OKat.bind h) fun g1 H1 r1 s1 R1 S1 h1 x rx => ?_⟩
    have vx := view_deref R1 (rx.view (W := g1.W))
    split at h1
    · rename_i xs e
      rw [e] at vx
      obtain ⟨p, vs, rfl, e1, e2⟩ := vx.lst R1.sub
      refine ⟨p, vs, rfl, .inl (.inl e1), fun q hq => ?_⟩
      obtain ⟨g', R', S', rr⟩ := (Nw.lst (T := T) (W := g1.W) (io := g1.io) hq e2.rev).ret (esc := esc) R1
      exact h1 g' _ R' S' _ (rr.step S1)
    · exact h1.elim
end
end Ev
end

section
/-! EvC1: __init__ of an own exception class whose first row says super().__init__(..). -/
namespace Ev
open PySem PySem.Spec PySem.W PyProof.Rows L2

/-- the context of such a body -/
def cxS (CX : CXT) (P : Program) (w : World) (K : PySem.W.Frag) (mg : Str → Option Value) (base : Heap) (N : List Str) (qual : Str) (scope : Scope) (f : Addr) (cd : Value) (cc : Addr) (A : Around) (outer : List Env) (s : Shared) (H : L2.Hp) (E : XK) : Cx where
  prog := P
  w := w
  K := K
  mg := mg
  base := base
  A := A.deeper (ksEnv qual scope s.heap.objs.size f cd cc)
  s_0 := s
  H_0 := H
  N := N
  env := ksEnv qual scope s.heap.objs.size f cd cc
  outer := outer
  stack := ksEnv qual scope s.heap.objs.size f cd cc :: outer
  ex := []
  calm := true
  fn := fun _ => false
  pn := []
  xe := fun e s' => wpAny (model P w) (A.deeper (ksEnv qual scope s.heap.objs.size f cd cc)) (leaving (ksEnv qual scope s.heap.objs.size f cd cc) e) (fun _ s'' => CX outer H s E e s'') (fun e' s'' => CX outer H s E e' s'') s'
structure SupScope (N ps : List Str) (scope : Scope) : Prop where
  nd : N.Nodup
  pre : N.take ps.length = ps
  kind : scope.kind = .function
  co : scope.isCoroutine = false
  gen : scope.isGenerator = false
  par : ∀ n ∈ ps, scope.names.lookup n = some .local
  nocell : ∀ y ∈ scope.names, y.2 ≠ .cell
  free : ∀ y ∈ scope.names, y.2 = .free → y.1 = ("__class__" : Str)
  cls : scope.names.lookup ("__class__" : Str) = some .free
  sup : scope.names.lookup ("super" : Str) = some .globalImplicit
/-- what is known of the class and of the def's own records -/
structure SupK (P : Program) (K : PySem.W.Frag) (mg : Str → Option Value) (C : Addr) (cdv : Value) (cc : Addr) : Prop where
  oex : OexC K C
  code : ∃ cda ccl cdd vs ccs file tf, cdv = .ref cda ∧ K.lookup cda = some ⟨ccl, cdd, .fields vs, ccs⟩ ∧ vs[2]? = some (.str file tf) ∧ ((P.main.file : Str) == file) = true
  cell : ∃ cl cld csl, K.lookup cc = some ⟨cl, cld, .cell (some (.ref C)), csl⟩
  cd : ∃ cd, PySem.W.clsIn K C = some cd
  sub : PySem.W.mroIn K C (.ref C) = some true
  gsup : mg "super" = none
  top : (P.main.scope.names.lookup ("super" : Str)).isSome = false
  along : ks_superIn K C C "__init__" = some (some (.builtin "ValueError.__init__"))
  subV : PySem.W.subIn K (.ref C) (.type "ValueError") = some true
  any : PySem.W.nsIn K cStatics "thirdparty.any" = some none
section
variable {X : Cx} {pins : List (Addr × Obj)} {σ : L2.St} {H : L2.Hp} {s : Shared} {a C dx : Addr} {E : Value → Shared → Prop} {A : Around}
/-- the bound ValueError.__init__ called -/
theorem sup_call {u : Addr} {us : List Value} {Q : Value → Shared → Prop} (T : OexC X.K C) (I : Inv X pins σ H s) (e : H a = some (exo a C none)) (hu : s.heap.get? u = some (kxs_mw "ValueError.__init__" a)) (hl : us.length ≤ sizeLine) (h : ∀ s', Inv X pins σ H s' → Q .none s') :
    wpAny (model X.prog X.w) A (call (.ref u) us) Q E s := by
  obtain ⟨nm, q, N, bs, bm, sn, sub, ab, col, dd, k0, k1, k2, k3, k5, hC, hbm⟩ := T.cls
  obtain ⟨t1, ho⟩ := exo_at I.hok e
  have fin : ∀ h', (∀ b o, b ≠ a → s.heap.get? b = some o → h'.get? b = some o) → (∃ t, h'.get? a = some ({ cls := .ref C, dict := none, data := .fields #[.ref t, .none, .none, .none, .bool false, .none] } : Obj)) → Q .none { s with heap := h' } := fun h' k ⟨t, hx⟩ => by
    have J := I.write (t' := s.toks) (x := a) (e := a) (o := exo a C none) (by rw [e]; exact True.intro) (.inl rfl) k ⟨_, hx⟩ (exo_ok hx)
    have eu : upd H a (exo a C none) = H := by
      funext b
      by_cases hb : b = a
      · rw [hb, upd_same, e]
      · rw [upd_ne hb]
    rw [eu] at J
    exact h _ J
  have hK := I.kIn _ _ hC
  obtain ⟨hh, g, d, tk, os⟩ := s
  refine wpAny_call (codeAny_of_tree ?_)
  show wpAny _ A.in1 (callAny (.ref u) ⟨us, []⟩) _ _ _
  simp only [callAny]
  refine wpAny_bind (wpAny_load hu ?_)
  simp only [kxs_mw, show (Value.type "method-wrapper" == Value.type "method" || Value.type "method-wrapper" == Value.type "builtin_function_or_method" || Value.type "method-wrapper" == Value.type "method-wrapper") = true by decide, if_true]
  refine KFB.if_so (by decide) ?_
  refine wpAny_bind (check_bound_init F.excBase_ValueError.toExcCallFacts hK ho rfl ?_)
  refine wpAny_bind (wpAny_pure (wpAny_pure ?_))
  refine ⟨plainId_quiet F.excBase_ValueError.init.plain _, codeAny_builtin F.excBase_ValueError.initEntry ?_⟩
  exact exc_init_tree (cls := .ref C) (t0 := t1) (dv := none) (c2 := .none) (c3 := .none) (b4 := .bool false) ho hl fun h' k e' t' => fin h' k ⟨_, e'⟩
end

theorem lookup_nodup {α : Type} {y : Str} {u : α} : ∀ {l : List (Str × α)}, (l.map (·.1)).Nodup → (y, u) ∈ l → l.lookup y = some u
  | (z, w) :: l, hn, hm => by
    rw [List.map_cons, List.nodup_cons] at hn
    rw [List.lookup_cons]
    rcases List.mem_cons.mp hm with e | hm
    · cases e; rw [beq_self_eq_true]
    · have : (y == z) = false := beq_eq_false_iff_ne.mpr fun e => hn.1 (by rw [← e]; exact List.mem_map.mpr ⟨_, hm, rfl⟩)
      rw [this]
      exact lookup_nodup hn.2 hm
theorem zip_fst_sub {α : Type} : ∀ (xs : List Str) (ys : List α), List.Sublist ((xs.zip ys).map (·.1)) xs
  | [], _ => by simp
  | _ :: _, [] => by simp
  | x :: xs, y :: ys => by
    rw [List.zip_cons_cons, List.map_cons]
    exact (zip_fst_sub xs ys).cons₂ _
/-- the state at such a body's start -/
theorem inv_startS {CX : CXT} {P : Program} {w : World} {K : PySem.W.Frag} {mg : Str → Option Value} {base : Heap} {N ps : List Str} {qual : Str} {scope : Scope} {f cc C : Addr} {cd : Value} {A : Around} {outer : List Env} {s : Shared} {h1 : Heap} {tk : Nat} {H : L2.Hp} {E : XK} {us : List Value} {vs : List V}
    (S : SupScope N ps scope) (hd : A.handled = none) (e0 : Env0 P w K mg base A outer s H) (hl : vs.length = ps.length) (r : Vals vs us) (SK : SupK P K mg C cd cc)
    (hns : h1.Ns s.heap.objs.size (fun x => (ps.zip us).reverse.lookup x)) (hk : ∀ b o, s.heap.get? b = some o → h1.get? b = some o) :
    Inv (cxS CX P w K mg base N qual scope f cd cc A outer s H E) [] (L2.start N vs) H { s with heap := h1, toks := tk } := by
  have hpl : ps.length ≤ N.length := by have := congrArg List.length S.pre; rw [List.length_take] at this; omega
  have noA : ∀ b : Addr, b ∉ (cxS CX P w K mg base N qual scope f cd cc A outer s H E).ex := fun b z => absurd (show b ∈ ([] : List Addr) from z) (by simp)
  obtain ⟨cl, cld, csl, hcell⟩ := SK.cell
  have KB : K.In base := e0.mod.kin
  have cells : ∀ {y : Str} {c : Addr}, (cxS CX P w K mg base N qual scope f cd cc A outer s H E).env.cells.lookup y = some c → c = cc ∧ y = ("__class__" : Str) := fun {y c} h => by
    have h : List.lookup y [(("__class__" : Str), cc)] = some c := h
    rw [List.lookup_cons] at h
    split at h
    · rename_i z
      cases h
      exact ⟨rfl, by simpa using z⟩
    · simp at h
  refine ⟨⟨e0.mod, S.kind, rfl, rfl, Nat.le_refl _, fun y z c h1 h2 => ?_, fun y hy => ?_, fun y c z h => (nomatch z), fun _ => hd, Around.frames_deeper e0.frames, .inr ⟨rfl, rfl⟩, fun b z => absurd z (noA b), e0.bs, e0.bsz, fun b _ _ => noA b, fun b z => absurd z (noA b), e0.funs, e0.frf⟩,
    rfl, e0.bare, Un.kept hk, ⟨_, hns, fun i y v h1 h2 h3 => ?_⟩, fun y c h => ?_, e0.hok.fresh (Nat.le_refl _), fun y c h => ?_, fun p hp => absurd (show p ∈ ([] : List (Addr × Obj)) from hp) (by simp), e0.hok.kept hk, ?_⟩
  · rw [(cells h1).2, (cells h2).2]
  · have hy : scope.names.lookup y = some .cell ∨ scope.names.lookup y = some .free := hy
    rcases hy with hy | hy
    · exact absurd rfl (S.nocell _ (PySem.mem_of_lookup hy))
    · have := S.free _ (PySem.mem_of_lookup hy) rfl
      have this : y = ("__class__" : Str) := this
      subst this
      exact ⟨cc, by show List.lookup _ [(("__class__" : Str), cc)] = some cc; simp [List.lookup]⟩
  · have hi : i < vs.length := by
      unfold L2.start at h2
      by_cases hi : i < vs.length
      · exact hi
      · rw [List.getElem?_append_right (by simpa using hi)] at h2
        rw [List.getElem?_replicate] at h2
        split at h2 <;> cases h2
    have ha : vs[i]? = some v := by
      unfold L2.start at h2
      rw [List.getElem?_append_left (by simpa using hi), List.getElem?_map] at h2
      cases e : vs[i]? with
      | none => rw [e] at h2; cases h2
      | some a => rw [e] at h2; cases h2; rfl
    obtain ⟨u, hu, rv⟩ := r.get ha
    have hp : ps[i]? = some y := by
      rw [← S.pre, List.getElem?_take_of_lt (by omega)]; exact h1
    have ndP : ps.Nodup := by rw [← S.pre]; exact S.nd.sublist (List.take_sublist _ _)
    have hloc := S.par y (List.mem_of_getElem? hp)
    refine ⟨u, rv, .inl ⟨hloc, ?_⟩⟩
    refine lookup_nodup ?_ (List.mem_reverse.mpr (List.mem_of_getElem? (i := i) ?_))
    · rw [List.map_reverse]
      exact (List.reverse_perm _).nodup_iff.mpr (ndP.sublist (zip_fst_sub ps us))
    · rw [List.getElem?_zip_eq_some]
      exact ⟨hp, hu⟩
  · obtain ⟨rfl, rfl⟩ := cells h
    exact ⟨_, _, hk _ _ ((e0.bs _ _ (KB _ _ hcell)).1), rfl⟩
  · obtain ⟨rfl, rfl⟩ := cells h
    exact (e0.bs _ _ (KB _ _ hcell)).2
  · unfold L2.start
    show _ = N.length
    rw [List.length_append, List.length_map, List.length_replicate]
    omega

/-- THE RULE: a def whose first row is super().__init__(..) of ValueError's, the rest by its reading -/
theorem fn_super {CX : CXT} {P : Program} {w : World} {K : PySem.W.Frag} {mg : Str → Option Value} {base : Heap} {k : Nat} {f : Addr} {name qual : Str} {params : Arguments} {rest : List Stmt} {scope : Scope} {dV kV doc pm cdv ct oc : Value} {an od : Option Addr} {cc C : Addr}
    {osl : Array (Option Value)} {N ps : List Str} {sp : Sp} {p0 p1 p2 p3 p4 : Pos} {e : Expr} {es : List Expr} {ar : Arg} {pl : Sem Bool} (lk : K.lookup f = some ⟨oc, od, .func (ksFn name qual params (.Expr (.Call (.Attribute (.Call (.Name "super" p0) [] [] p1) "__init__" p2) (e :: es) [] p3) p4 :: rest) scope dV kV doc pm an cdv ct cc), osl⟩)
    (hcd : PySem.W.codeIn K cdv qual = true) (S : SupScope N ps scope) (SK : SupK P K mg C cdv cc) (hpar : (params.posonlyargs ++ params.args).head? = some ar) (hN0 : N[0]? = some ar.arg) (hp0 : ar.arg ∈ ps)
    (len : ∀ vs H Q E, sp vs H Q E → vs.length = ps.length)
    (hform : ∀ env : Env, env.scope = scope → eval (.Call (.Attribute (.Call (.Name "super" p0) [] [] p1) "__init__" p2) (e :: es) [] p3) env = (do
      let ov ← attributeBase (.Call (.Name "super" p0) [] [] p1) "__init__" env (eval (.Call (.Name "super" p0) [] [] p1) env)
      standAt p2.atName
      let (f, first) ← holding [ov] (getMethod ov "__init__" pl)
      callWith p3 f first (backTo p3 (starEach (e :: es) env)) []))
    (hst : ∀ env : Env, starEach (e :: es) env = (false, eval e env) :: starEach es env) (hpl : ∀ env : Env, (backTo p3 (starEach es env)).any (·.1) = false)
    (hbody : ∀ (A : Around) (outer : List Env) (s : Shared) (H : L2.Hp) (vs : List V) (Q : VK) (E : XK), Room k (A.deeper (ksEnv qual scope s.heap.objs.size f cdv cc)) → sp vs H Q E →
      ∃ x us ta t, vs = .ref x :: us ∧ H x = some (exo x C none) ∧ PA (cxS CX P w K mg base N qual scope f cdv cc A outer s H E) (e :: es) ta ∧ ta (L2.start N vs) H (fun ws H' => ws.length ≤ 1000 ∧ H' = H) ∧
        PSs (cxS CX P w K mg base N qual scope f cdv cc A outer s H E) rest t ∧ t { nx := fun _ H' => Q .non H', rt := Q } (L2.start N vs) H) :
    FnOk P w K mg base CX (k + 1) f (ksFn name qual params (.Expr (.Call (.Attribute (.Call (.Name "super" p0) [] [] p1) "__init__" p2) (e :: es) [] p3) p4 :: rest) scope dV kV doc pm an cdv ct cc) ps sp := by
  refine ⟨len, fun A outer s H args us vs Q E hr e0 hb r hsp => ?_⟩
  have hl := len _ _ _ _ hsp
  have KX : K.In s.heap := e0.mod.kin.keeps fun b o e => (e0.bs b o e).1
  have lim : s.heap.NoLimit := e0.mod.nolimit.keeps fun b o e => (e0.bs b o e).1
  refine ks_codeAny_call_defAt hr.depth (KX _ _ lk) rfl lim (PySem.W.codeRec_of KX hcd) rfl hb S.nocell (fun y hy => S.par _ (List.of_mem_zip hy).1) (fun h1 hns hk1 => ?_) S.co S.gen S.kind
  obtain ⟨x, us', ta, t, evs, hx, ha, hta, ht, hq⟩ := hbody A outer s H vs Q E (hr.deeper _) hsp
  have I := inv_startS (CX := CX) (P := P) (w := w) (qual := qual) (f := f) (E := E) (tk := s.toks + (ps.zip us).length) S hr.hd e0 hl r SK hns hk1
  -- the end, as it is for every def
  have fin : ∀ fl s', SP (cxS CX P w K mg base N qual scope f cdv cc A outer s H E) [] { nx := fun _ H' => Q .non H', rt := Q } fl s' → CR CX outer P w H s Q E (.ok (.ret (match fl with | .ret v => v | _ => .none))) s' := fun fl s' hs => by
    cases fl with
    | ret u => obtain ⟨v, σ', H', J, rv, q⟩ := hs; exact ⟨v, H', J.os, J.bare, J.base, J.hok, rv, q⟩
    | next => obtain ⟨σ', H', J, q⟩ := hs; exact ⟨V.non, H', J.os, J.bare, J.base, J.hok, rfl, q⟩
    | brk => obtain ⟨_, _, _, q⟩ := hs; exact False.elim q
    | cont => obtain ⟨_, _, _, q⟩ := hs; exact False.elim q
  generalize hs1 : ({ s with heap := h1, toks := s.toks + (ps.zip us).length } : Shared) = s1 at I
  have hns1 : s1.heap.Ns s.heap.objs.size (fun x => (ps.zip us).reverse.lookup x) := by rw [← hs1]; exact hns
  -- the first row
  have first : ∀ {Q' : Flow → Shared → Prop}, (∀ s', Inv (cxS CX P w K mg base N qual scope f cdv cc A outer s H E) [] (L2.start N vs) H s' → Q' .next s') →
      PySem.wpAt (model P w) (A.deeper (ksEnv qual scope s.heap.objs.size f cdv cc)) (.func (.Expr (.Call (.Attribute (.Call (.Name "super" p0) [] [] p1) "__init__" p2) (e :: es) [] p3) p4 :: rest) (ksEnv qual scope s.heap.objs.size f cdv cc))
        (exec (.Expr (.Call (.Attribute (.Call (.Name "super" p0) [] [] p1) "__init__" p2) (e :: es) [] p3) p4) (ksEnv qual scope s.heap.objs.size f cdv cc)) Q' (cxS CX P w K mg base N qual scope f cdv cc A outer s H E).xe s1 := fun {Q'} done => by
    obtain ⟨cda, ccl, cdd, vsc, ccs, file, tf, rfl, hcode, hvs, hfile⟩ := SK.code
    obtain ⟨cl, cld, csl, hcell⟩ := SK.cell
    obtain ⟨cdC, hcdC⟩ := SK.cd
    have hkind : interactive (ksEnv qual scope s.heap.objs.size f (.ref cda) cc) = false := by
      unfold interactive
      show (scope.kind == .module && _) = false
      rw [S.kind]; rfl
    refine ks_wpAt_Expr_any (hi := hkind) (hs := ?hs) ?_
    case hs => rfl
    refine ks_wpAt_MethodCall (pl := pl) ?_ (hform _ rfl)
    -- self
    have hself : ∃ i, ps[i]? = some ar.arg := List.getElem?_of_mem hp0
    have KI : K.In s1.heap := I.kIn
    obtain ⟨oD, hD1, hD2⟩ : ∃ oD, s1.heap.get? C = some oD ∧ oD.data = .cls cdC := by
      unfold PySem.W.clsIn at hcdC
      split at hcdC
      · rename_i c d cd' sl ho
        cases hcdC
        exact ⟨_, KI _ _ ho, rfl⟩
      · cases hcdC
    obtain ⟨t1, hox⟩ := exo_at I.hok hx
    -- the value of the first parameter
    have hval : List.lookup ar.arg (ps.zip us).reverse = some (.ref x) := by
      have hlen : 0 < ps.length := by rw [← hl, evs]; simp
      have h0 : ps[0]? = some ar.arg := by rw [← S.pre, List.getElem?_take_of_lt hlen]; exact hN0
      have hu0 : us[0]? = some (.ref x) := by
        rw [evs] at r
        cases r with
        | cons r1 _ => obtain rfl : _ = Value.ref x := r1; rfl
      refine lookup_nodup ?_ (List.mem_reverse.mpr (List.mem_of_getElem? (i := 0) ?_))
      · rw [List.map_reverse]
        have ndP : ps.Nodup := by rw [← S.pre]; exact S.nd.sublist (List.take_sublist _ _)
        exact (List.reverse_perm _).nodup_iff.mpr (ndP.sublist (zip_fst_sub ps us))
      · rw [List.getElem?_zip_eq_some]
        exact ⟨h0, hu0⟩
    refine ks_wpAt_super_base (env := ksEnv qual scope s.heap.objs.size f (.ref cda) cc) S.sup S.cls (by decide) rfl (KI _ _ lk) rfl hpar rfl (KI _ _ hcode) rfl hvs hfile SK.top ?_
    obtain ⟨mb, hb1, hb2⟩ := I.mod.blt
    refine ks_loadName_global S.kind S.sup (Calls.loadGlobal_builtin (by exact I.mod.glob.keeps I.bk) SK.gsup (by exact hb1.keeps I.bk) ((hb2 _ (by decide)).trans PyProof.Rows.Boot.«super») ⟨rfl, ?_⟩)
    refine wpAny_loadName_free S.kind S.cls rfl ⟨_, KI _ _ hcell, rfl⟩ ?_
    refine wpAny_loadName_local S.kind (S.par _ hp0) hns1 hval ?_
    refine ks_wpAny_isType_cls hD1 hD2 ⟨rfl, ?_⟩
    have hxC : x ≠ C := fun z => by
      rw [z, hD1] at hox
      have := Option.some.inj hox
      rw [this] at hD2
      cases hD2
    obtain ⟨hh, gg, dd, tt, oos⟩ := s1
    refine ks_wpAny_call_super hD1 hD2 hox rfl (fun c z => nomatch z) (looks_mroIn KI SK.sub) fun h2 hso hk2 => ?_
    have I2 : Inv (cxS CX P w K mg base N qual scope f (.ref cda) cc A outer s H E) [] (L2.start N vs) H ⟨h2, gg, dd, tt, oos⟩ := I.kept (h' := h2) (t' := tt) hk2
    have hox2 := hk2 _ _ hox
    have KI2 : K.In h2 := I2.kIn
    have hal := SK.along
    unfold ks_superIn at hal
    rw [hcdC] at hal
    have hI : PySem.W.Looks (model P w) h2 (isInstance (.ref x) (.type "ValueError")) true := (PySem.W.InstAt.type (C := C) (od := none) ⟨hox2, rfl, rfl, trivial⟩).andThen (PySem.W.looks_subIn KI2 SK.subV)
    refine kxs_getMethod kxs_ValueError hso (PySem.W.looks_opaque KI2 SK.any) (l₀ := cdC.mro) ((PySem.W.looks_clsIn KI2 hcdC).andThen .now) rfl KI2 hal hI hxC (by decide) ?_
    have I3 : Inv (cxS CX P w K mg base N qual scope f (.ref cda) cc A outer s H E) [] (L2.start N vs) H ⟨h2.push (kxs_mw "ValueError.__init__" x), gg, dd, tt + 1, oos⟩ := I2.kept (t' := tt + 1) fun b o q => Heap.get?_push_of_some _ q
    have hu : (h2.push (kxs_mw "ValueError.__init__" x)).get? h2.objs.size = some (kxs_mw "ValueError.__init__" x) := Heap.get?_push_size _ rfl
    have fp := I2.fpOk (Nat.le_refl _) (I2.hok.fresh (Nat.le_refl _))
    have I4 : Inv (cxS CX P w K mg base N qual scope f (.ref cda) cc A outer s H E) [(h2.objs.size, kxs_mw "ValueError.__init__" x)] (L2.start N vs) H ⟨h2.push (kxs_mw "ValueError.__init__" x), gg, dd, tt + 1, oos⟩ := by
      refine I3.pins_of fun p hp => ?_
      have z := List.mem_singleton.mp hp
      subst z
      exact ⟨hu, fp.1, fp.2.1, fp.2.2.1, fun v z => nomatch z⟩
    have hargs := ha.run p3 [(h2.objs.size, kxs_mw "ValueError.__init__" x)] _ (L2.start N vs) H _ I4 hta
    rw [hst] at hargs ⊢
    refine kxs_callWith (i := "ValueError.__init__") (x := x) (by show (false || (backTo p3 (starEach es _)).any (·.1)) = false; rw [hpl]; rfl) (PySem.Calls.evalArgs_plain (wpAny_mono hargs (fun ws s5 hs5 => ?_) fun _ _ z => z))
    obtain ⟨wvs, H5, I5, r5, hz5, e5⟩ := hs5
    subst e5
    have hp5 := (I5.pin (h2.objs.size, kxs_mw "ValueError.__init__" x) (by simp)).1
    refine ⟨hp5, ?_⟩
    refine sup_call (X := cxS CX P w K mg base N qual scope f (.ref cda) cc A outer s H5 E) SK.oex I5 hx hp5 ?_ fun s6 I6 => done s6 ?_
    · have := r5.length
      rw [sizeLine_eq]; simp; omega
    · exact I6.pins_of fun p hp => I6.pin p (List.mem_append_left _ (by simpa using hp))
  have hrow := first (Q' := fun fl s' => match fl with
    | .next => PySem.wpAt (model P w) (A.deeper (ksEnv qual scope s.heap.objs.size f cdv cc)) (.func (.Expr (.Call (.Attribute (.Call (.Name "super" p0) [] [] p1) "__init__" p2) (e :: es) [] p3) p4 :: rest) (ksEnv qual scope s.heap.objs.size f cdv cc))
        (execs rest (ksEnv qual scope s.heap.objs.size f cdv cc)) (fun f s' => CR CX outer P w H s Q E (.ok (.ret (match f with | .ret v => v | _ => .none))) s') (cxS CX P w K mg base N qual scope f cdv cc A outer s H E).xe s'
    | fl => CR CX outer P w H s Q E (.ok (.ret (match fl with | .ret v => v | _ => .none))) s') fun s' I' =>
      wpAt_of_wpAny (wpAny_mono (ht.run [] s' (L2.start N vs) H _ I' hq) (fun fl s2 hs => fin fl s2 hs) fun _ _ z => z)
  exact ks_wpAt_execs_cons hrow
end Ev
end

section
/-! EvC2: several except clauses, each with or without a name. -/
namespace L2
open PySem PySem.Spec PyProof.Rows
abbrev TsX := Addr → Value → Option Addr → TS
/-- what the clauses wish of an exception of the body, one after the other; with a slot: its name's -/
def wAll (K : PySem.W.Frag) (Wout : WX) (D : Ends) : List (Value × Option Nat × TsX) → WX
  | [] => Wout
  | (c, o, ts) :: r => fun cls d σ H => ∃ b, PySem.W.exmOne K cls c = some b ∧ (b = true → ∀ a, H a = none → match o with
      | none => ts a cls d D σ H
      | some i => ts a cls d { nx := fun σ' H' => D.nx (σ'.set i none) H', rt := D.rt, bk := fun σ' H' => D.bk (σ'.set i none) H', ct := fun σ' H' => D.ct (σ'.set i none) H' } (σ.set i (some (.ref a))) H) ∧
      (b = false → wAll K Wout D r cls d σ H)
/-- a clause's name -/
def HdNm (X : Cx) : Option Str → Option Nat → Prop
  | none, none => True
  | some n, some i => X.N[i]? = some n ∧ X.env.kindOf n = some .local
  | _, _ => False
inductive HdsA (X : Cx) : List ExceptHandler → List (Value × Option Nat × TsX) → Prop
  | nil : HdsA X [] []
  | cons {x : Str} {c : Value} {n : Option Str} {o : Option Nat} {ts : TsX} {b₀ : Stmt} {suite : List Stmt} {np pos' : Pos} {hds : List ExceptHandler} {l : List (Value × Option Nat × TsX)} (hc : Names X x c) (hn : HdNm X n o)
      (hsu : ∀ (a : Addr) (oe : Obj) (cls : Value) (d : Option Addr) (pn : List (Addr × Obj)), Zc cls d oe → (∃ vs, oe.data = .fields vs) → PSs (X.suite a ((a, oe) :: pn)) (b₀ :: suite) (ts a cls d)) (r : HdsA X hds l) :
      HdsA X (.ExceptHandler (some (.Name x np)) n (b₀ :: suite) pos' :: hds) ((c, o, ts) :: l)
section
variable {X : Cx} {body : List Stmt} {h₀ : ExceptHandler} {hds : List ExceptHandler} {l : List (Value × Option Nat × TsX)} {pos : Pos} {tb : WX → TS} {Wout : WX}
theorem ps_try_all (hs : X.stack = X.env :: X.outer) (hf : X.env.frame = some X.env.locals) (hN : X.N.Nodup) (tk : Takes X Wout)
    (hb : ∀ (W : WX) (pn : List (Addr × Obj)) (xe : Value → Shared → Prop), Takes (X.tr pn xe) W → PassesOwn (model X.prog X.w) X.A X.env xe → PSs (X.tr pn xe) body (tb W))
    (hh : HdsA X (h₀ :: hds) l) : PS X (.Try body (h₀ :: hds) [] [] pos) (fun D σ H => tb (wAll X.K Wout D l) D σ H) := by
  refine ⟨fun pins s σ H D I h => ?_⟩
  have ok := I.ok
  have hfr : X.A.frames = some (X.env :: X.outer) := by rw [ok.frames, hs]
  refine wpAny_Try_except ?_
  refine wpAny_mono ((hb (wAll X.K Wout D l) (X.pn ++ pins) (fun e s₁ => wpAny (model X.prog X.w) X.A (noteFrame e X.env) (fun _ s₂ => wpAny (model X.prog X.w) X.A (setFlight e none) (fun _ s₃ =>
    wpAny (model X.prog X.w) X.A (handleBy e X.env (h₀ :: hds)) (SP X pins D) X.xe s₃) X.xe s₂) X.xe s₁) (fun u s' xx => ?_) PassesOwn.looking).run [] s σ H D (I.toTry _) h) (fun f s1 hsp => ?_) (fun e s1 he => he)
  · -- the catch
    obtain ⟨a, B, sI, pins', σ', H', cls, d, rfl, J', nb, up, sky, na, os, ag, w⟩ := xx
    have J : Inv X pins σ' H' sI := J'.ofTry ok
    have sky' : Sky B (X.env :: X.outer) a (Zc cls d) X.env.locals s'.heap := by rw [← hs]; exact sky
    show wpAny (model X.prog X.w) X.A (noteFrame (.ref a) X.env) _ _ _
    refine Sky.land Zc.steady hfr hf sky' fun h3 fl3 up3 => ?_
    have J3 : Inv X pins σ' H' { s' with heap := h3 } := J.landed nb fl3.1 (up.trans up3) os ag
    obtain ⟨oe3, vs3, he3, hz3, hd3⟩ := fl3.there
    have notFr : ∀ {h : Heap} {o : Obj} {vs : Array Value}, h.FunFrames B (X.env :: X.outer) → h.get? a = some o → o.data = .fields vs → a ∉ frs (X.env :: X.outer) := fun {h o vs} ff e dd hm => by
      obtain ⟨_, o', e', hnf⟩ := ff.mem hm
      rw [e] at e'; cases e'
      exact hnf _ dd
    have nfr := notFr fl3.2.2.1 he3 hd3
    have nL : a ≠ X.env.locals := fun z => nfr (List.mem_filterMap.mpr ⟨X.env, List.mem_cons_self, by rw [hf, z]⟩)
    have nF : a ∉ X.fs := fun hm => by
      obtain ⟨e, he, q⟩ := List.mem_filterMap.mp hm
      exact nfr (List.mem_filterMap.mpr ⟨e, List.mem_cons_of_mem _ he, q⟩)
    have S3 := J3.suite he3 hd3 na nL nF
    have go : ∀ {hds' : List ExceptHandler} {l' : List (Value × Option Nat × TsX)}, HdsA X hds' l' → wAll X.K Wout D l' cls d σ' H' →
        wpAny (model X.prog X.w) X.A (handleBy (.ref a) X.env hds') (SP X pins D) X.xe { s' with heap := h3 } := by
      intro hds' l' hk
      induction hk with
      | nil =>
        intro w
        refine wpAny_handleBy_nil ?_
        obtain ⟨k1, k2, k3, oe, vs, T, oT, ts', he, hz, hd, h1, hr⟩ := id fl3
        unfold PySem.passOn
        refine wpAny_bind (wpAny_field he hd h1 ?_)
        rw [if_neg (show ¬ ((Value.ref T == Value.none) = true) from by simp)]
        have fin : wpAny (model X.prog X.w) X.A (setFlight (.ref a) X.env.frame) (fun _ s4 => wpAny (model X.prog X.w) X.A (throw (.ref a) : Sem Flow) (SP X pins D) X.xe s4) X.xe { s' with heap := h3 } := by
          rw [hf]
          refine HandSPX.setFlight_upZ fl3 fun h4 hh4 up4 => wpAny_throw (tk _ _ ?_)
          exact ⟨a, B, sI, pins, σ', H', cls, d, rfl, J, nb, (up.trans up3).trans up4, .inr (.inr (by rw [hs]; exact hh4)), na, os, ag, w⟩
        first
          | exact wpAny_bind (wpAny_pure (wpAny_bind fin))
          | exact wpAny_bind fin
      | @cons x c n o ts b₀ suite np pos' hds2 l2 hc hn hsu r ih =>
        intro w
        obtain ⟨b, hb1, hyes, hno⟩ := w
        refine wpAny_handleBy_cons (codeAny_handlers_test ?_) (by intro q; cases q)
        have LT : PySem.W.Looks (model X.prog X.w) h3 (typeOf (.ref a)) cls := fun A Q E s k q => wpAny_typeOf_ref (k _ _ he3) (by rw [hz3.1]; exact q)
        have LM := PySem.W.exm_one (M := model X.prog X.w) (J3.kIn) LT hb1
        have test : ∀ {Q : Value → Shared → Prop} {E : Value → Shared → Prop}, Q c { s' with heap := h3 } → wpAny (model X.prog X.w) (X.A.mark (some (.ref a))) (eval (.Name x np) X.env) Q E { s' with heap := h3 } := fun {Q E} q => by
          obtain ⟨hg, hdbg, hm | ⟨hm, hv, hnn⟩⟩ := hc
          · exact ld_glob (X := X.suite a ((a, oe3) :: (X.pn ++ pins))) S3 hg hm q hdbg
          · exact ld_blt (X := X.suite a ((a, oe3) :: (X.pn ++ pins))) S3 hg hm hv q hnn hdbg
        refine test (LM.here ?_)
        cases b with
        | false =>
          show wpAny _ X.A (handleBy (.ref a) X.env hds2) _ _ _
          exact ih (hno rfl)
        | true =>
          have w2 := hyes rfl a na
          cases n with
          | none =>
            cases o with
            | some i => exact hn.elim
            | none =>
              refine codeAny_handlers_suite ?_
              refine HandSPX.lands_againZ fl3 fun h4 fl4 up4 => ?_
              have J4 : Inv X pins σ' H' { s' with heap := h4 } := J.landed nb fl4.1 ((up.trans up3).trans up4) os ag
              obtain ⟨oe4, vs4, he4, hz4, hd4⟩ := fl4.there
              have S4 := J4.suite he4 hd4 na nL nF
              refine wpAny_mono ((hsu a oe4 cls d (X.pn ++ pins) hz4 ⟨_, hd4⟩).run [] _ _ H' _ S4 w2) (fun f s6 hsp => ?_) (fun _ _ z => False.elim z)
              cases f with
              | next => obtain ⟨σ6, H6, S6, q6⟩ := hsp; exact ⟨_, _, S6.unsuite ok, q6⟩
              | brk => obtain ⟨σ6, H6, S6, q6⟩ := hsp; exact ⟨_, _, S6.unsuite ok, q6⟩
              | cont => obtain ⟨σ6, H6, S6, q6⟩ := hsp; exact ⟨_, _, S6.unsuite ok, q6⟩
              | ret u => obtain ⟨v6, σ6, H6, S6, r6, q6⟩ := hsp; exact ⟨_, _, _, S6.unsuite ok, r6, q6⟩
          | some n =>
            cases o with
            | none => exact hn.elim
            | some i =>
              obtain ⟨hi, hln⟩ := hn
              refine codeAny_handlers_suite_as ?_
              refine HandSPX.lands_againZ fl3 fun h4 fl4 up4 => ?_
              have J4 : Inv X pins σ' H' { s' with heap := h4 } := J.landed nb fl4.1 ((up.trans up3).trans up4) os ag
              obtain ⟨oe4, vs4, he4, hz4, hd4⟩ := fl4.there
              have S4 := J4.suite he4 hd4 na nL nF
              refine store_ok (X := X.suite a ((a, oe4) :: (X.pn ++ pins))) (v := .ref a) S4 hN hi (.inl hln) rfl (fun s5 S5 => ?_) (.inr hln)
              refine wpAny_mono ((hsu a oe4 cls d (X.pn ++ pins) hz4 ⟨_, hd4⟩).run [] s5 _ H' _ S5 w2) (fun f s6 hsp => ?_) (fun _ _ z => False.elim z)
              have end_ : ∀ {σ6 : St} {H6 : Hp} {Q : Shared → Prop}, Inv (X.suite a ((a, oe4) :: (X.pn ++ pins))) [] σ6 H6 s6 → (∀ s7, Inv X pins (σ6.set i none) H6 s7 → Q s7) →
                  wpAny (model X.prog X.w) X.A (do bindName X.env n .none; unbindBehindTheSuite X.env n pos') (fun _ s7 => Q s7) X.xe s6 := fun {σ6 H6 Q} S6 hq => gone_ok (S6.unsuite ok) hN hi hln hq
              cases f with
              | next => obtain ⟨σ6, H6, S6, q6⟩ := hsp; exact end_ S6 fun s7 J7 => ⟨_, _, J7, q6⟩
              | brk => obtain ⟨σ6, H6, S6, q6⟩ := hsp; exact end_ S6 fun s7 J7 => ⟨_, _, J7, q6⟩
              | cont => obtain ⟨σ6, H6, S6, q6⟩ := hsp; exact end_ S6 fun s7 J7 => ⟨_, _, J7, q6⟩
              | ret u => obtain ⟨v6, σ6, H6, S6, r6, q6⟩ := hsp; exact end_ S6 fun s7 J7 => ⟨_, _, _, J7, r6, q6⟩
    exact go hh w
  · cases f with
    | next => obtain ⟨σ', H', J', q⟩ := hsp; exact wpAny_execs_nil ⟨σ', H', J'.ofTry ok, q⟩
    | brk => obtain ⟨σ', H', J', q⟩ := hsp; exact ⟨σ', H', J'.ofTry ok, q⟩
    | cont => obtain ⟨σ', H', J', q⟩ := hsp; exact ⟨σ', H', J'.ofTry ok, q⟩
    | ret u => obtain ⟨v, σ', H', J', r, q⟩ := hsp; exact ⟨v, σ', H', J'.ofTry ok, r, q⟩
end
end L2
end

section
/-! EvB17: exceptions: raise, try, the fields. -/
namespace Ev
open PySem PySem.Spec PyProof.Rows L2

section
variable {X : Cx} {T : Tx} {P : Prog} {en : Ent} {g g1 : Gh} {H H1 H2 : L2.Hp} {r : RV} {v : V} {σ : L2.St} {s : Sta} {Wx : WX} {esc : Bool}
variable {a b c : Expr} {pos : Pos} {ea eb ec : Bool → Sta → Res RV}

/-! ### raise -/
/-- the promise of an own exception's __init__, one field -/
def spX1 (C : Addr) (f : Str) : Sp := fun vs H Q _ => ∃ x y, vs = [.ref x, y] ∧ H x = some (exo x C none) ∧ ∀ d, H d = none → d ≠ x → Q .non (upd (upd H d (exd d [(f, y)])) x (exo x C (some d)))
/-- an own exception that may be made -/
structure Exc1 (X : Cx) (x : Str) (C : Addr) (f : Str) : Prop where
  oex : OexC X.K C
  ex : ∃ k fI fd ps, PySem.W.findIn X.K (.ref C) "__init__" = some (some (.ref fI)) ∧ PySem.W.typeIn X.K (.ref fI) = some (.type "function") ∧ FnOk X.prog X.w X.K X.mg X.base (L2.CX X.prog X.w) k fI fd ps (spX1 C f) ∧ Room (k + 1) X.A ∧ Binds X.K fd ps []
  called : Called X x C
theorem heap_xd {p d : Addr} {C : Addr} {f : Str} {y : V} (hp : H p = none) (hd : upd H p (exo p C none) d = none) (hn : d ≠ p) :
    upd (del (upd (upd (upd H p (exo p C none)) d (exd d [(f, y)])) p (exo p C (some d))) p) d (.xd [(f, y)]) = upd H d (.xd [(f, y)]) := by
  funext b
  by_cases hb : b = d
  · subst hb; rw [upd_same, upd_same]
  · rw [upd_ne hb, upd_ne hb]
    by_cases hc : b = p
    · subst hc; rw [del_same, hp]
    · rw [del_ne hc, upd_ne hc, upd_ne hb, upd_ne hc]
theorem passesF (h : ∀ e s', ¬ XE X WxF e s') : True := trivial
theorem st_raise {x : Str} {C : Addr} {ci f : Nat} {p pos' : Pos} {e : Expr} {el : Sta → Res (List D)} (E1 : Exc1 X x C (T.fld f)) (hx : T.xa ci = C) (hc : X.calm = true) (tk : Takes X Wx) (hf : Passes (L2.CX X.prog X.w) X (fun _ _ _ => False)) (ha : PA X [e] (tDL T en Wx el)) (hn : ∀ s ds s', el s = .ok ds s' → ds.length = 1)
    (he : starEach [e] X.env = (false, eval e X.env) :: starEach [] X.env) :
    PS X (.Raise (some (.Call (.Name x p) [e] [] pos)) none pos') (tS T en Wx fun s => (el s).out fun ds s => .exc ci [f] ds s) := by
  obtain ⟨k, fI, fd, ps, i1, i2, F1, hr, hb⟩ := E1.ex
  refine ps_imp (ps_raise hc tk (pmk_oex (dvs := []) E1.oex i1 i2 F1 hr hb .nil hf E1.called.gl E1.called.mg ha E1.called.nd he rfl)) fun De σ H ⟨g, s, R, h⟩ => ?_
  refine ⟨g, s, R, ?_⟩
  cases z : el s with
  | bad => dsimp only at h; rw [z] at h; exact h
  | exc c ns vs s' => dsimp only at h; rw [z] at h; exact fun g' H' d R' S' xr => h g' σ H' d R' S'.gm xr
  | ok ds s' =>
    dsimp only at h
    rw [z] at h
    intro g1 H1 R1 S1 vs rvs
    have hlen := hn s ds s' z
    match ds, hlen, rvs, h with
    | [d], _, rvs, h =>
      simp only [RepL] at rvs
      obtain ⟨y, _, rfl, ry, rfl⟩ := rvs
      refine ⟨by simp, fun p hp => ⟨p, y, rfl, upd_same, fun dx hdx hne => ⟨rfl, dx, [(T.fld f, y)], upd_same, ?_, ?_, ?_⟩⟩⟩
      · rw [upd_ne hne, upd_same]
      · rw [upd_ne hne] at hdx; exact hdx
      · rw [heap_xd hp hdx hne, ← hx]
        have hd1 : H1 dx = none := by rw [upd_ne hne] at hdx; exact hdx
        refine h g1 σ _ dx (R1.new hd1) S1.gm ⟨[y], ?_, new_io R1 hd1, rfl, RepL.cons ry RepL.nil⟩
        rw [upd_same]; rfl

/-! ### the exception in hand -/
theorem Rel.xs0 {l : List (Addr × Addr × Nat)} (R : Rel T en g s σ H) (h : en.xs = []) : Rel T { en with xs := l } g s σ H := by
  refine ⟨R.sub, R.len, fun i => ?_, R.dist, R.mem, R.nd, R.heap, R.oaT, R.base, R.oaF, R.ioF, R.tr, R.ioP, R.wn, R.roF⟩
  have q := R.slot i
  cases z : look s.sl i with
  | exc c ns ds =>
    rw [z] at q
    obtain ⟨a, dx, fvs, _, m, _⟩ := q
    rw [h] at m
    exact nomatch m
  | _ => rw [z] at q; exact q
theorem look_drop {sl : List SV} {j : Nat} : look (sl.map dropX) j = dropX (look sl j) := by
  unfold look
  rw [List.getElem?_map]
  cases sl[j]? <;> rfl
theorem Rel.drop {l : List (Addr × Addr × Nat)} (R : Rel T en g s σ H) : Rel T { en with xs := l } g { s with sl := s.sl.map dropX } σ H := by
  have same : ∀ {j d}, look (s.sl.map dropX) j = .own d → look s.sl j = .own d := fun {j d} e => by
    rw [look_drop] at e
    cases z : look s.sl j <;> rw [z] at e <;> simp [dropX] at e
    rw [e]
  refine ⟨R.sub, by simp [R.len], fun i => ?_, fun j k d e a h1 h2 => R.dist j k d e a (same h1) (same h2), R.mem, R.nd, R.heap, R.oaT, R.base, R.oaF, R.ioF, R.tr, R.ioP, R.wn, ⟨fun z i d e => ?_, R.roF.2⟩⟩
  · have q := R.slot i
    show SlotR T l g H σ[i]? (look (s.sl.map dropX) i)
    rw [look_drop]
    cases z : look s.sl i <;> rw [z] at q <;> simp only [dropX] <;> first
      | exact q
      | trivial
  · have e : look (s.sl.map dropX) i = .ro d := e
    rw [look_drop] at e
    cases y : look s.sl i <;> rw [y] at e <;> simp [dropX] at e
    exact R.roF.1 z i _ y
theorem Rel.setNone {i : Nat} (hi0 : i ≠ 0) (R : Rel T en g s σ H) : Rel T en g { s with sl := put s.sl i .un } (σ.set i none) H := by
  refine ⟨R.sub, by rw [put_length, List.length_set]; exact R.len, fun j => ?_, fun j k d1 d2 a h1 h2 e1 e2 => ?_, R.mem, R.nd, R.heap, R.oaT, R.base, R.oaF, R.ioF, R.tr, R.ioP, R.wn, ⟨fun z => ro_put (R.roF.1 z) (fun _ y => nomatch y), fun v' e' => by rw [List.getElem?_set_ne hi0]; exact R.roF.2 v' e'⟩⟩
  · rw [look_put, sig_set, R.len]
    split
    · trivial
    · exact R.slot j
  · rw [look_put, R.len] at h1 h2
    rw [sig_set] at e1 e2
    split at h1
    · cases h1
    · rename_i n1
      rw [if_neg n1] at e1
      split at h2
      · cases h2
      · rename_i n2
        rw [if_neg n2] at e2
        exact R.dist j k d1 d2 a h1 h2 e1 e2
theorem Rel.setExc {i c : Nat} {ns : List Nat} {ds : List D} {a dx : Addr} (hi0 : i ≠ 0) (R : Rel T en g s σ H) (hm : (a, dx, c) ∈ en.xs) (hx : ExcR T g.W g.io H dx ns ds) : Rel T en g { s with sl := put s.sl i (.exc c ns ds) } (σ.set i (some (.ref a))) H := by
  refine ⟨R.sub, by rw [put_length, List.length_set]; exact R.len, fun j => ?_, fun j k d1 d2 a h1 h2 e1 e2 => ?_, R.mem, R.nd, R.heap, R.oaT, R.base, R.oaF, R.ioF, R.tr, R.ioP, R.wn, ⟨fun z => ro_put (R.roF.1 z) (fun _ y => nomatch y), fun v' e' => by rw [List.getElem?_set_ne hi0]; exact R.roF.2 v' e'⟩⟩
  · rw [look_put, sig_set, R.len]
    split
    · obtain ⟨fvs, e1, e2, e3, e4⟩ := hx
      exact ⟨a, dx, fvs, rfl, hm, e1, e2, e3, e4⟩
    · exact R.slot j
  · rw [look_put, R.len] at h1 h2
    rw [sig_set] at e1 e2
    split at h1
    · cases h1
    · rename_i n1
      rw [if_neg n1] at e1
      split at h2
      · cases h2
      · rename_i n2
        rw [if_neg n2] at e2
        exact R.dist j k d1 d2 a h1 h2 e1 e2

/-! ### try -/
/-- a suite's reading -/
def tsX (T : Tx) (ev : Nat → List Nat → List D → Sta → Out) : TsX := fun a cls d De σ H => ∃ en c dx ns ds, d = some dx ∧ cls = .ref (T.xa c) ∧ en.xs = [(a, dx, c)] ∧ en.ro = false ∧ tS T en WxF (ev c ns ds) De σ H
abbrev Hd := Nat × Option Nat × (Nat → List Nat → List D → Sta → Out)
def tryH (P : Prog) (c : Nat) (ns : List Nat) (ds : List D) : List Hd → Sta → Out
  | [], s => .exc c ns ds s
  | (h, o, ev) :: r, s => match isX P c h with
    | some true => match o with
      | some i => endX (some i) (ev c ns ds { s with sl := put s.sl i (.exc c ns ds) })
      | none => endX none (ev c ns ds s)
    | some false => tryH P c ns ds r s
    | none => .bad
def hdL (T : Tx) (l : List Hd) : List (Value × Option Nat × TsX) := l.map fun h => (.ref (T.xa h.1), h.2.1, tsX T h.2.2)
/-- what is known of the exceptions' classes -/
structure ExcF (X : Cx) (T : Tx) (P : Prog) : Prop where
  exm : ∀ c h b, isX P c h = some b → h < P.excs.length → PySem.W.exmOne X.K (.ref (T.xa c)) (.ref (T.xa h)) = some b
theorem try_exc (F : ExcF X T P) (hen : en.xs = []) (ro : en.ro = false) {De : Ends} {c : Nat} {ns : List Nat} {ds : List D} {dx : Addr} : ∀ {l : List Hd} {g : Gh} {s : Sta} {σ : L2.St} {H : L2.Hp}, (∀ h ∈ l, h.1 < P.excs.length ∧ ∀ i, h.2.1 = some i → i ≠ 0) → OOK T en Wx g De (tryH P c ns ds l s) → Rel T en g s σ H → ExcR T g.W g.io H dx ns ds →
    wAll X.K Wx De (hdL T l) (.ref (T.xa c)) (some dx) σ H
  | [], g, s, σ, H, _, h, R, xr => h g σ H dx R Gm.rfl' xr
  | (hh, o, ev) :: r, g, s, σ, H, hb, h, R, xr => by
    simp only [tryH] at h
    cases z : isX P c hh with
    | none => rw [z] at h; exact h.elim
    | some b =>
      rw [z] at h
      refine ⟨b, F.exm c hh b z (hb (hh, o, ev) List.mem_cons_self).1, fun eb a ha => ?_, fun eb => ?_⟩
      · subst eb
        dsimp only at h
        have R2 := R.xs0 (l := [(a, dx, c)]) hen
        have conv : ∀ {o' : Option Nat} {De' : Ends} {s2 : Sta}, (∀ i, o' = some i → i ≠ 0) → De'.rt = De.rt → (∀ σ' H', De'.nx σ' H' = De.nx (match o' with | some i => σ'.set i none | none => σ') H') → OOK T en Wx g De (endX o' (ev c ns ds s2)) → OOK T { en with xs := [(a, dx, c)] } WxF g De' (ev c ns ds s2) := fun {o' De' s2} ho0 er en' hh => by
          cases y : ev c ns ds s2 with
          | bad => rw [y] at hh; exact hh
          | exc => rw [y] at hh; exact hh.elim
          | ret d fr s6 =>
            rw [y] at hh
            intro g' σ' H' v R6 k6 rr
            rw [er]
            have := R6.drop (l := en.xs)
            exact hh g' σ' H' v this k6 rr
          | next s6 =>
            rw [y] at hh
            intro g' σ' H' R6 k6
            rw [en']
            cases o' with
            | none => exact hh g' σ' H' (R6.drop (l := en.xs)) k6
            | some i => exact hh g' _ H' ((R6.setNone (i := i) (ho0 i rfl)).drop (l := en.xs)) k6
        cases o with
        | none => exact ⟨{ en with xs := [(a, dx, c)] }, c, dx, ns, ds, rfl, rfl, rfl, ro, g, s, R2, conv (o' := none) (fun _ z => nomatch z) rfl (fun _ _ => rfl) h⟩
        | some i => exact ⟨{ en with xs := [(a, dx, c)] }, c, dx, ns, ds, rfl, rfl, rfl, ro, g, _, R2.setExc (i := i) ((hb (hh, some i, ev) List.mem_cons_self).2 i rfl) List.mem_cons_self xr, conv (o' := some i) (fun j z => by cases z; exact (hb (hh, some i, ev) List.mem_cons_self).2 i rfl) rfl (fun _ _ => rfl) h⟩
      · subst eb
        exact try_exc F hen ro (fun h' m => hb h' (by simp [m])) h R xr
theorem st_try {body : List Stmt} {h₀ : ExceptHandler} {hds : List ExceptHandler} {l : List Hd} {eb : Sta → Out} (F : ExcF X T P) (hen : en.xs = []) (ro : en.ro = false) (hs : X.stack = X.env :: X.outer) (hf : X.env.frame = some X.env.locals) (hN : X.N.Nodup) (tk : Takes X Wx) (hl : ∀ h ∈ l, h.1 < P.excs.length ∧ ∀ i, h.2.1 = some i → i ≠ 0)
    (hb : ∀ (W : WX) (pn : List (Addr × Obj)) (xe : Value → Shared → Prop), Takes (X.tr pn xe) W → PassesOwn (model X.prog X.w) X.A X.env xe → PSs (X.tr pn xe) body (tS T en W eb)) (hh : HdsA X (h₀ :: hds) (hdL T l)) :
    PS X (.Try body (h₀ :: hds) [] [] pos) (tS T en Wx fun s => match eb s with
      | .exc c ns ds s => tryH P c ns ds l s
      | o => o) := ps_imp (ps_try_all hs hf hN tk hb hh) fun De σ H ⟨g, s, R, h⟩ => by
  refine ⟨g, s, R, ?_⟩
  dsimp only at h
  cases z : eb s with
  | bad => rw [z] at h; exact h
  | next s' => rw [z] at h; exact h
  | ret d fr s' => rw [z] at h; exact h
  | exc c ns ds s' =>
    rw [z] at h
    exact fun g' σ' H' d R' k' xr => try_exc F hen ro hl (h.gm k') R' xr

/-! ### e.field -/
/-- the exception in hand -/
def InHand (X : Cx) (T : Tx) (P : Prog) (en : Ent) : Prop := ∀ a dx c, (a, dx, c) ∈ en.xs → ∃ (X0 : Cx) (oe : Obj) (pn : List (Addr × Obj)), X = X0.suite a ((a, oe) :: pn) ∧ Zc (.ref (T.xa c)) (some dx) oe ∧ ∃ vs, oe.data = .fields vs
structure ExcG (X : Cx) (T : Tx) (P : Prog) : Prop where
  xf : ∀ c, c < P.excs.length → XfC X.K (T.xa c)
  no : ∀ c f, c < P.excs.length → f < T.nf → PySem.W.findIn X.K (.ref (T.xa c)) (T.fld f) = some none
theorem pe_or {e : Expr} {t t' : TE} (h : PE X e t) (h' : PE X e t') : PE X e fun σ H Q => t σ H Q ∨ t' σ H Q := ⟨fun pins s σ H Q I q => by
  rcases q with q | q
  · exact h.run pins s σ H Q I q
  · exact h'.run pins s σ H Q I q⟩
abbrev fldN (P : Prog) (i f : Nat) : Bool → Sta → Res RV := fun _ s => match look s.sl i with
      | .exc c ns vs => if c < P.excs.length then ofO ((fget ns vs f).map fun d => ⟨d, false⟩) s else .bad
      | _ => (nmE false i s).bind (fldD P f)
theorem ev_fldN {i f : Nat} {x : Str} {p : Pos} (F : Facts X T P) (G : ExcG X T P) (hnf : f < T.nf) (hh : InHand X T P en) (hN : X.N[i]? = some x) (hv : Vis X.env.scope x) (hd : (x == ("__debug__" : Str)) = false) (hcd : (x == ("__classdict__" : Str)) = false) :
    Snd X T en Wx (.Attribute (.Name x p) (T.fld f) pos) (fldN P i f) := by
  refine snd_of fun esc => ⟨fun pins sh σ H Q I ⟨g, s, R, h⟩ => ?_⟩
  have q := R.slot i
  cases z : look s.sl i with
  | exc c ns ds =>
    rw [z] at q
    unfold fldN at h
    rw [z] at h
    dsimp only at h
    split at h
    case isFalse => exact h.elim
    rename_i hc
    obtain ⟨a, dx, fvs, e1, hm, e2, e3, e4, e5⟩ := q
    obtain ⟨X0, oe, pn, rfl, hz, hf⟩ := hh a dx c hm
    cases y : fget ns ds f with
    | none => rw [y] at h; exact h.elim
    | some d =>
      rw [y] at h
      obtain ⟨w, l, rw'⟩ := zipF_get F.inj e5 y
      exact (pe_xf (G.xf c hc) (G.no c f hc hnf) hz hf (pe_var hN hv hd hcd) rfl).run pins sh σ H Q I ⟨.ref a, e1, rfl, rfl, dx, _, w, rfl, e2, l, h g H R Step.rfl' w (retR_rep rw')⟩
  | _ =>
    have h2 : OKat T en Wx g H σ ((nmE false i s).bind (fldD P f)) fun g' H' r s' => ∀ v, RetR T g' H H' esc r v → Q v H' := by
      unfold fldN at h
      rw [z] at h
      exact h
    exact ((ev_fld F (ev_nm hN hv hd hcd) rfl).pe esc).run pins sh σ H Q I ⟨g, s, R, h2⟩
end
end Ev
end

section
/-! EvB18: repr. -/
namespace Ev
open PySem PySem.Spec PyProof.Rows L2

/-- repr of data, where it is told and not too long -/
def rpD (d : D) : Option (List Nat) :=
  if PyData.showable (toP d) && decide ((PyData.shown (toP d)).length ≤ sizeLine) then some (PyData.shown (toP d)).cps.toList else none
mutual
theorem noDict : ∀ d : D, (toP d).hasDict = false
  | .non => by simp only [toP, PyData.hasDict]
  | .bl _ => by simp only [toP, PyData.hasDict]
  | .int _ => by simp only [toP, PyData.hasDict]
  | .str _ => by simp only [toP, PyData.hasDict]
  | .tup xs => by simp only [toP, PyData.hasDict]; exact noDictL xs
  | .lst xs => by simp only [toP, PyData.hasDict]; exact noDictL xs
  | .dic _ _ => by simp only [toP, PyData.hasDict]
  | .obj _ _ _ => by simp only [toP, PyData.hasDict]
  | .fn _ => by simp only [toP, PyData.hasDict]
  | .ref _ => by simp only [toP, PyData.hasDict]
  | .scr _ => by simp only [toP, PyData.hasDict]
theorem noDictL : ∀ ds : List D, PyData.hasDictAll (toPL ds) = false
  | [] => by simp only [toPL, PyData.hasDictAll]
  | d :: ds => by simp only [toPL, PyData.hasDictAll, noDict d, noDictL ds, Bool.or_self]
end
theorem sOf_cps (x : Str) : sOf x.cps.toList = x := by
  show Str.mk _ = _
  rw [Array.toArray_toList]
section
variable {X : Cx} {T : Tx} {P : Prog}
theorem blt_repr (hK : X.K = T.K) (hu : X.A.units + 200 < cLine) (hg : X.A.guards = some []) : CallR X (.builtin "repr") (rBlt T rpD .repr) := by
  intro pins s σ H vs us Q I rv h
  obtain ⟨W, io, d, v, r, rfl, hs, hv, e, q⟩ := blt_one (k := fun d => if D.plain d then (rpD d).map fun cs => ⟨.str cs, false⟩ else none) h (fun d => by simp only [runB]) (by simp only [runB]) (fun d d' r => by simp only [runB])
  split at e
  case isFalse => cases e
  rename_i hp
  unfold rpD at e
  split at e
  case isFalse => cases e
  rename_i hsh
  simp only [Bool.and_eq_true, decide_eq_true_eq] at hsh
  obtain ⟨hs1, hs2⟩ := hsh
  simp only [Option.map_some, Option.some.injEq] at e
  subst e
  have fin : ∀ h' u tk, (∀ b o, s.heap.get? b = some o → h'.get? b = some o) → EP X pins σ Q (.str (PyData.shown (toP d)) u) { s with heap := h', toks := tk } := fun h' u tk hk =>
    ⟨.str (PyData.shown (toP d)), H, I.kept hk, ⟨u, rfl⟩, q _ H (.same (by
      simp only [Rep]
      refine ⟨by rw [sOf_cps], ?_⟩
      rw [lim_eq, Array.length_toList]
      exact hs2))⟩
  obtain ⟨u, rfl, rv2⟩ := vals1 rv
  have dp := dp_view hs hp hv
  rw [← hK] at dp
  obtain ⟨as, rd⟩ := Dp.reads I _ v u dp rv2
  have dd := (plain_toP _ d hp).2
  generalize hD : toP d = D at *
  cases rd with
  | none => exact PySem.P.repr_of_none (fin s.heap _ _ fun _ _ e => e)
  | bool b => exact PySem.P.repr_of_bool (by
      have := fin s.heap s.toks (s.toks + 1) fun _ _ e => e
      simpa only [PyData.shown] using this)
  | int i t => exact PySem.P.repr_of_int (by simpa [PyData.showable] using hs1) (by
      have := fin s.heap s.toks (s.toks + 1) fun _ _ e => e
      simpa only [PyData.shown] using this)
  | str x t => exact PySem.P.repr_of_str (by
      have := fin s.heap s.toks (s.toks + 1) fun _ _ e => e
      simpa only [PyData.shown] using this) (by simpa only [PyData.shown] using hs2)
  | list h1 h2 h3 h4 => exact repr_of_reads' (.list h1 h2 h3 h4) hs1 (PyData.noDict_hsm (by rw [← hD]; exact noDict d)) hg (by omega) (fun _ _ e => e) (fun h' u tk hk => fin h' u tk hk) hs2
  | tuple h1 h2 h3 h4 => exact repr_of_reads' (.tuple h1 h2 h3 h4) hs1 (PyData.noDict_hsm (by rw [← hD]; exact noDict d)) hg (by omega) (fun _ _ e => e) (fun h' u tk hk => fin h' u tk hk) hs2
  | dict h1 h2 h3 h4 h5 =>
    have := noDict d
    rw [hD] at this
    simp [PyData.hasDict] at this
end
end Ev
end

section
/-! EvD1: does an IR expression match the program's? and what follows. -/
namespace Ev
open PySem PySem.Spec PyProof.Rows L2

/-! ### names -/
def visC (sc : Scope) (x : Str) : Bool := match sc.names.lookup x with
  | some .local => true
  | some .cell => true
  | some .free => true
  | _ => false
theorem visC_ok {sc : Scope} {x : Str} (h : visC sc x = true) : Vis sc x := by
  unfold visC at h
  split at h
  · rename_i e; exact .inl e
  · rename_i e; exact .inr (.inl e)
  · rename_i e; exact .inr (.inr e)
  · cases h
def okN (x : Str) : Bool := !(x == ("__debug__" : Str)) && !(x == ("__classdict__" : Str))
theorem okN_ok {x : Str} (h : okN x = true) : (x == ("__debug__" : Str)) = false ∧ (x == ("__classdict__" : Str)) = false := by
  unfold okN at h
  simpa using h
def glC (sc : Scope) (x : Str) : Bool := decide (sc.names.lookup x = some .globalImplicit)
theorem glC_ok {X : Cx} {x : Str} (h : glC X.env.scope x = true) : Gl X x := by
  have : X.env.scope.names.lookup x = some .globalImplicit := of_decide_eq_true h
  exact this
def cNm (N : List Str) (sc : Scope) (i : Nat) (x : Str) : Bool := decide (N[i]? = some x) && visC sc x && okN x

/-- the tables of the text -/
structure Cfg where
  /-- the defs: their global names (none for a method), how many parameters -/
  fn : List (Option Str × Nat)
  cl : List Str
  /-- the methods: class, name, def -/
  me : List (Nat × Str × Nat)
  fl : List Str
  /-- the exceptions: name, its one field -/
  ex : List (Str × Nat)
  gl : List Str
  kinds : List Kd
/-- a field's name; where there is none, what is no name -/
def flS (l : List Str) (n : Nat) : Str := match l[n]? with
  | some x => x
  | none => ⟨#[1114112 + n]⟩

def bltNm : Bf → Option (Str × Bool)
  | .len => some ("len", false)
  | .abs => some ("abs", false)
  | .all => some ("all", false)
  | .any => some ("any", false)
  | .sum => some ("sum", false)
  | .min => some ("min", false)
  | .max => some ("max", false)
  | .min2 => some ("min", false)
  | .max2 => some ("max", false)
  | .int => some ("int", true)
  | .tuple => some ("tuple", true)
  | .list => some ("list", true)
  | .repr => some ("repr", false)
  | _ => none
/-- built-ins that may stand in an except suite -/
def bltHot : Bf → Bool
  | .len => true
  | .abs => true
  | .int => true
  | .tuple => true
  | .list => true
  | .repr => true
  | _ => false
def blNames : List Str := ["len", "abs", "all", "any", "sum", "min", "max", "int", "tuple", "list", "range", "enumerate", "isinstance", "str", "bool", "dict", "repr", "sorted", "set"]
def kdNm (C : Cfg) : Kd → Option Str
  | .int => some "int"
  | .bool => some "bool"
  | .str => some "str"
  | .list => some "list"
  | .tuple => some "tuple"
  | .dict => some "dict"
  | .cls c => C.cl[c]?
  | .bexc _ => none

/-- what is known of the context -/
structure Good (X : Cx) (T : Tx) (P : Prog) (C : Cfg) (call mk : Nat → List D → Mem → CRes) (hot : Bool) (Wx : WX) : Prop where
  F : Facts X T P
  fld : ∀ n, T.fld n = flS C.fl n
  nf : T.nf = C.fl.length
  rp : P.rp = rpD
  gd : X.A.guards = some []
  IS : IsiF X T P C.kinds
  EG : ExcG X T P
  EF : ExcF X T P
  nd : X.N.Nodup
  bl : ∀ x ∈ blNames, X.mg x = none
  calm : hot = false → X.calm = true
  tk : hot = false → Takes X Wx
  fn : hot = false → ∀ f x n, C.fn[f]? = some (some x, n) → X.mg x = some (.ref (T.fa f)) ∧ Callee X (T.fa f) (spF T n (call f))
  me : hot = false → ∀ c m f n y, (c, m, f) ∈ C.me → C.fn[f]? = some (y, n) → Cls X.K (T.ca c) ∧ Meth X.K (T.ca c) m (T.fa f) ∧ Callee X (T.fa f) (spF T n (call f)) ∧ ∀ k, T.fld k ≠ m
  mkO : hot = false → ∀ c x n f y, C.cl[c]? = some x → P.inits[c]? = some f → C.fn[f]? = some (y, n + 1) → Initer X (T.ca c) (spI T n c (mk c)) ∧ Initer X (T.ca c) (spF T (n + 1) (call f))
  cl : ∀ c x, C.cl[c]? = some x → X.mg x = some (.ref (T.ca c))
  gl : ∀ (g : Nat) (d : D) (x : Str), P.globs[g]? = some d → C.gl[g]? = some x → ∃ v u, X.mg x = some u ∧ RelV v u ∧ ∀ W io, Rep T W io d v

section
variable (C : Cfg) (P : Prog) (N : List Str)
def cCst (sc : Scope) : D → Expr → Bool
  | .non, .Constant .none _ _ => true
  | .bl b, .Constant (.bool b') _ _ => b == b'
  | .int i, .Constant (.int j) _ _ => decide (i = j)
  | .str cs, .Constant (.str x) _ _ => decide (x = sOf cs) && decide (cs.length ≤ 1000)
  | _, _ => false
mutual
/-- a target of a comprehension or of a loop -/
def chkT (tgt : Str → Bool) : Tg → Expr → Bool
  | .nm i, .Name x _ => decide (i ≠ 0) && decide (N[i]? = some x) && tgt x
  | .tup ts, .Tuple es _ _ => plainArgs es && chkTs tgt ts es
  | _, _ => false
def chkTs (tgt : Str → Bool) : List Tg → List Expr → Bool
  | [], [] => true
  | t :: ts, e :: es => chkT tgt t e && chkTs tgt ts es
  | _, _ => false
end
def tgtC (scope : Scope) (x : Str) : Bool := match scope.names.lookup x with
  | some .local => true
  | some .cell => true
  | _ => false
def isSetE : Expr → Bool
  | .Set _ _ _ => true
  | _ => false
def ownOf (is : List Nat) : List (Str × Nat) := is.map fun i => ((N[i]?).getD "", i)
def chkKs : List Kd → List Expr → Bool
  | [], [] => true
  | k :: ks, .Name x _ :: es => decide (kdNm C k = some x) && decide (k ∈ C.kinds) && chkKs ks es
  | _, _ => false
def ksGl (sc : Scope) : List Expr → Bool
  | [] => true
  | .Name x _ :: es => glC sc x && okN x && ksGl sc es
  | _ => false
def nmArg (c f : Nat) : Option (Option Str × Nat) := C.fn[f]?

mutual
def chkE (hot : Bool) (sc : Scope) (e : E) (ex : Expr) : Bool := match e with
  | .nm i => (match ex with
    | .Name x _ => cNm N sc i x
    | _ => false)
  | .cst d => cCst sc d ex
  | .glob g => (match ex with
    | .Name x _ => decide (C.gl[g]? = some x) && glC sc x && okN x
    | _ => false)
  | .bin op a b => (match ex with
    | .BinOp a' o b' _ => decide (o = bopOf op) && chkE hot sc a a' && chkE hot sc b b'
    | _ => false)
  | .neg a => (match ex with
    | .UnaryOp .USub a' _ => chkE hot sc a a'
    | _ => false)
  | .not a => (match ex with
    | .UnaryOp .Not a' _ => chkE hot sc a a'
    | _ => false)
  | .and a b => (match ex with
    | .BoolOp .And [a', b'] _ => chkE hot sc a a' && chkE hot sc b b'
    | .BoolOp .And (a' :: b' :: c' :: r) p => chkE hot sc a a' && chkE hot sc b (.BoolOp .And (b' :: c' :: r) p)
    | _ => false)
  | .or a b => (match ex with
    | .BoolOp .Or [a', b'] _ => chkE hot sc a a' && chkE hot sc b b'
    | .BoolOp .Or (a' :: b' :: c' :: r) p => chkE hot sc a a' && chkE hot sc b (.BoolOp .Or (b' :: c' :: r) p)
    | _ => false)
  | .ife c a b => (match ex with
    | .IfExp c' a' b' _ => chkE hot sc c c' && chkE hot sc a a' && chkE hot sc b b'
    | _ => false)
  | .cmp op a b => (match ex with
    | .Compare a' [o] [b'] _ => decide (o = copOf op) && !behindInMarks (copOf op) b' && chkE hot sc a a' && chkE hot sc b b'
    | _ => false)
  | .cmp2 op op' a b c => (match ex with
    | .Compare a' [o, o'] [b', c'] _ => decide (o = copOf op) && decide (o' = copOf op') && !lastMarks [copOf op, copOf op'] [b', c'] && chkE hot sc a a' && chkE hot sc b b' && chkE hot sc c c'
    | _ => false)
  | .tup es => (match ex with
    | .Tuple es' _ _ => plainArgs es' && decide (es.length ≤ 1000) && chkEs hot sc es es'
    | _ => false)
  | .lst _ es => (match ex with
    | .List es' _ => plainArgs es' && decide (es.length ≤ 1000) && chkEs hot sc es es'
    | _ => false)
  | .call f es => (match ex with
    | .Call (.Name x _) es' [] _ => !hot && decide (C.fn[f]? = some (some x, es.length)) && glC sc x && okN x && plainArgs es' && chkEs hot sc es es'
    | _ => false)
  | .meth c f o es => (match ex with
    | .Call (.Attribute o' m ap) es' [] p => !hot && decide ((c, m, f) ∈ C.me) && decide ((C.fn[f]?).map (·.2) = some (es.length + 1)) && plainArgs es' && !isCall0 o' && (ap.endLine == p.line) && decide (es'.length < 30) && chkE hot sc o o' && chkEs hot sc es es'
    | _ => false)
  | .make r c es => (match ex with
    | .Call (.Name x _) es' [] _ => !hot && decide (C.cl[c]? = some x) && decide (((P.inits[c]?).bind fun f => (C.fn[f]?).map (·.2)) = some (es.length + 1)) && glC sc x && okN x && plainArgs es' && chkEs hot sc es es'
    | _ => false)
  | .blt b es => (match ex with
    | .Call (.Name x _) es' [] _ => (!hot || bltHot b) && (match bltNm b with
      | some (y, _) => decide (x = y)
      | none => false) && glC sc x && plainArgs es' && decide (0 < es.length) && chkBs hot sc es es'
    | _ => false)
  | .fld o f => (match ex with
    | .Attribute o' x _ => decide (flS C.fl f = x) && decide (f < C.fl.length) && (match o, o' with
      | .nm i, .Name y _ => cNm N sc i y
      | .nm _, _ => false
      | o, o' => !isCall0 o' && chkE hot sc o o')
    | _ => false)
  | .sub a i => (match ex with
    | .Subscript a' i' _ => !isSlice i' && chkE hot sc a a' && chkE hot sc i i'
    | _ => false)
  | .slc a lo hi => (match ex with
    | .Subscript a' (.Slice lo' hi' none _) _ => chkE hot sc a a' && chkOp hot sc lo lo' && chkOp hot sc hi hi'
    | _ => false)
  | .rev a => (match ex with
    | .Subscript a' (.Slice none none (some (.UnaryOp .USub (.Constant (.int i) _ _) _)) _) _ => decide (i = 1) && chkE hot sc a a'
    | _ => false)
  | .lc _ elt t it c => (match ex with
    | .ListComp elt' [⟨tg, iter, ifs, 0⟩] scope _ => !hot && blkC N sc scope (ownOf N (slotsT t)) && chkT N (tgtC scope) t tg && !isSetE iter && chkI hot sc tg it iter &&
      chkE hot (relS scope sc) elt elt' && (match c, ifs with
        | none, [] => true
        | some c, [c'] => chkE hot (relS scope sc) c c'
        | _, _ => false)
    | _ => false)
  | .isi a ks => (match ex with
    | .Call (.Name x _) [a', k'] [] _ => !hot && decide (x = "isinstance") && glC sc x && plainArgs [a', k'] && (match a with
      | .nm _ => true
      | _ => true) && chkE hot sc a a' && (match k' with
      | .Name y q => chkKs C ks [.Name y q] && ksGl sc [.Name y q]
      | .Tuple es _ _ => chkKs C ks es && ksGl sc es && decide (ks.length ≤ 1000)
      | _ => false)
    | _ => false)
  | .lrg1 a => (match ex with
    | .Call (.Name x _) [.Call (.Name y _) [a'] [] _] [] _ => !hot && decide (x = "list") && decide (y = "range") && glC sc x && glC sc y && plainArgs [a'] && chkE hot sc a a'
    | _ => false)
  | .lrg2 a b => (match ex with
    | .Call (.Name x _) [.Call (.Name y _) [a', b'] [] _] [] _ => !hot && decide (x = "list") && decide (y = "range") && glC sc x && glC sc y && plainArgs [a', b'] && chkE hot sc a a' && chkE hot sc b b'
    | _ => false)
  | _ => false
def chkEs (hot : Bool) (sc : Scope) : List E → List Expr → Bool
  | [], [] => true
  | e :: es, e' :: es' => chkE hot sc e e' && chkEs hot sc es es'
  | _, _ => false
def chkBs (hot : Bool) (sc : Scope) : List E → List Expr → Bool
  | [], [] => true
  | e :: es, e' :: es' => chkE hot sc e e' && chkBs hot sc es es'
  | _, _ => false
def chkOp (hot : Bool) (sc : Scope) : Option E → Option Expr → Bool
  | none, none => true
  | some e, some e' => chkE hot sc e e'
  | _, _ => false
def chkI (hot : Bool) (sc : Scope) (tg : Expr) (it : It) (ex : Expr) : Bool := match it with
  | .of e => chkE hot sc e ex
  | .enum (.of e) => (match ex with
    | .Call (.Name x _) [e'] [] _ => decide (x = "enumerate") && glC sc x && plainArgs [e'] && (match tg with
      | .Tuple _ _ _ => true
      | _ => false) && chkE hot sc e e'
    | _ => false)
  | .range1 a => (match ex with
    | .Call (.Name x _) [a'] [] _ => decide (x = "range") && glC sc x && plainArgs [a'] && chkE hot sc a a'
    | _ => false)
  | .range2 a b => (match ex with
    | .Call (.Name x _) [a', b'] [] _ => decide (x = "range") && glC sc x && plainArgs [a', b'] && chkE hot sc a a' && chkE hot sc b b'
    | _ => false)
  | _ => false
end
end
end Ev
end

section
/-! EvD2: what the checker passes is sound: expressions. -/
namespace Ev
open PySem PySem.Spec PyProof.Rows L2

section
variable {X : Cx} {T : Tx} {P : Prog} {en : Ent} {Wx : WX} {e : Expr} {ev ev' : Bool → Sta → Res RV}
theorem Snd.congr (h : Snd X T en Wx e ev) (q : ∀ esc s, ev' esc s = ev esc s) : Snd X T en Wx e ev' := by
  have : ev' = ev := by funext esc s; exact q esc s
  rw [this]; exact h
theorem SndI.congr {tg : Expr} {ei ei' : Bool → Sta → Res (List D)} (h : SndI X T en Wx tg e ei) (q : ∀ esc s, ei' esc s = ei esc s) : SndI X T en Wx tg e ei' := by
  have : ei' = ei := by funext esc s; exact q esc s
  rw [this]; exact h
theorem Snd.noX (hx : en.xs = []) (h : Snd X T en Wx e ev) (q : ∀ esc s, (∀ i c ns ds, look s.sl i ≠ .exc c ns ds) → ev' esc s = ev esc s) : Snd X T en Wx e ev' := by
  have no : ∀ {g s σ H}, Rel T en g s σ H → ∀ i c ns ds, look s.sl i ≠ .exc c ns ds := fun {g s σ H} R i c ns ds z => by
    have q := R.slot i
    rw [z] at q
    obtain ⟨a, dx, fvs, _, m, _⟩ := q
    rw [hx] at m
    exact nomatch m
  refine ⟨fun esc => pe_imp (h.pe esc) fun σ H Q ⟨g, s, R, h⟩ => ⟨g, s, R, ?_⟩, pt_imp h.pt fun σ H Q ⟨g, s, R, h⟩ => ⟨g, s, R, ?_⟩, fun op vs pos z => pw_imp (h.pw op vs pos z) fun σ H Q ⟨g, s, R, h⟩ => ⟨g, s, R, ?_⟩⟩
  · rw [← q esc s (no R)]; exact h
  · rw [← q false s (no R)]; exact h
  · rw [← q false s (no R)]; exact h
theorem snd_bad (q : ∀ esc s, ev esc s = .bad) (he : ∀ whole, isTrue e X.env whole = (do let v ← whole; standAt e.pos; holding [v] (truthy v))) (hb : ∀ op vs pos, e ≠ .BoolOp op vs pos) : Snd X T en Wx e ev :=
  snd_of (fun esc => ⟨fun pins s σ H Q I ⟨g, t, R, h⟩ => by rw [q] at h; exact h.elim⟩) he hb

/-! ### arguments, targets -/
theorem star1 {env : Env} {a : Expr} (h : plainArgs [a] = true) : starEach [a] env = [(false, eval a env)] := by rw [star_cons h]; rfl
theorem star2 {env : Env} {a b : Expr} (h : plainArgs [a, b] = true) : starEach [a, b] env = [(false, eval a env), (false, eval b env)] := by rw [star_cons h, star1 (plainArgs_tl h)]
theorem asg_cons {env : Env} {e : Expr} {es : List Expr} (h : plainArgs (e :: es) = true) : assignEach (e :: es) env = (false, assign e env) :: assignEach es env := by
  cases e <;> first | (exfalso; cases h; done) | rfl
theorem asg_find {env : Env} : ∀ {es : List Expr}, plainArgs es = true → (assignEach es env).findIdx? (·.1) = none
  | [], _ => rfl
  | e :: es, h => by
    rw [asg_cons h, List.findIdx?_cons, asg_find (plainArgs_tl h)]
    rfl
theorem asg_len {env : Env} : ∀ {es : List Expr}, plainArgs es = true → (assignEach es env).length = es.length
  | [], _ => rfl
  | e :: es, h => by rw [asg_cons h, List.length_cons, List.length_cons, asg_len (plainArgs_tl h)]
theorem chkTs_len {N : List Str} {tgt : Str → Bool} : ∀ {ts : List Tg} {es : List Expr}, chkTs N tgt ts es = true → ts.length = es.length
  | [], [], _ => rfl
  | [], _ :: _, h => by simp [chkTs] at h
  | _ :: _, [], h => by simp [chkTs] at h
  | t :: ts, e :: es, h => by
    simp only [chkTs, Bool.and_eq_true] at h
    rw [List.length_cons, List.length_cons, chkTs_len h.2]
mutual
theorem tg_ok {N : List Str} {tgt : Str → Bool} (hN : X.N = N) (nd : X.N.Nodup) (hK : X.K = T.K) (hc : X.calm = true) (ht : ∀ x, tgt x = true → Loc X.env.scope x ∧ (X.fn x = true ∨ X.env.scope.names.lookup x = some .local)) :
    ∀ (t : Tg) (tg : Expr), chkT N tgt t tg = true → PG X tg (gD T en t)
  | .nm i, tg, h => by
    cases tg <;> first | (simp [chkT] at h; done) | skip
    simp only [chkT, Bool.and_eq_true, decide_eq_true_eq] at h
    obtain ⟨h1, h2⟩ := ht _ h.2
    exact tg_nm h.1.1 nd (by rw [hN]; exact h.1.2) h1 h2
  | .tup ts, tg, h => by
    cases tg <;> first | (simp [chkT] at h; done) | skip
    simp only [chkT, Bool.and_eq_true] at h
    exact tg_tup hK hc (tgs_ok hN nd hK hc ht ts _ h.1 h.2) (chkTs_len h.2) (asg_len h.1) (asg_find h.1)
theorem tgs_ok {N : List Str} {tgt : Str → Bool} (hN : X.N = N) (nd : X.N.Nodup) (hK : X.K = T.K) (hc : X.calm = true) (ht : ∀ x, tgt x = true → Loc X.env.scope x ∧ (X.fn x = true ∨ X.env.scope.names.lookup x = some .local)) :
    ∀ (ts : List Tg) (es : List Expr), plainArgs es = true → chkTs N tgt ts es = true → PGs X es (gDs T en ts)
  | [], [], _, _ => tgs_nil
  | [], _ :: _, _, h => by simp [chkTs] at h
  | _ :: _, [], _, h => by simp [chkTs] at h
  | t :: ts, e :: es, hp, h => by
    simp only [chkTs, Bool.and_eq_true] at h
    exact tgs_cons (tg_ok hN nd hK hc ht t e h.1) (tgs_ok hN nd hK hc ht ts es (plainArgs_tl hp) h.2) (by rw [asg_cons hp]; rfl)
end

/-! ### blocks -/
theorem takes_F {X : Cx} : Takes X WxF := fun _ _ ⟨_, _, _, _, _, _, _, _, _, _, _, _, _, _, _, _, w⟩ => w.elim
variable {C : Cfg} {call mk : Nat → List D → Mem → CRes} {hot : Bool}
theorem Good.blk (G : Good X T P C call mk hot Wx) {s : Shared} {H : L2.Hp} {scope : Scope} {cenv : Env} {fp : List Addr} : Good (X.blk s H scope cenv fp) T P C call mk hot WxF :=
  ⟨⟨G.F.K, G.F.un, G.F.inj, G.F.fl⟩, G.fld, G.nf, G.rp, G.gd, ⟨G.IS.cls, G.IS.g1, G.IS.g2, G.IS.kit⟩, ⟨G.EG.xf, G.EG.no⟩, ⟨G.EF.exm⟩, G.nd, G.bl, G.calm, fun _ => takes_F, fun z f x n h => ⟨(G.fn z f x n h).1, ⟨(G.fn z f x n h).2.ex, (G.fn z f x n h).2.kp⟩⟩,
    fun z c m f n y h1 h2 => by
      obtain ⟨q1, q2, q3, q4⟩ := G.me z c m f n y h1 h2
      exact ⟨q1, q2, ⟨q3.ex, q3.kp⟩, q4⟩,
    fun z c x n f y h1 h2 h3 => by
      obtain ⟨q1, q2⟩ := G.mkO z c x n f y h1 h2 h3
      exact ⟨⟨q1.ex, q1.kp⟩, ⟨q2.ex, q2.kp⟩⟩, G.cl, G.gl⟩
theorem own_snd {N : List Str} : ∀ {is : List Nat}, (ownOf N is).map (·.2) = is
  | [] => rfl
  | i :: is => by
    have := own_snd (N := N) (is := is)
    unfold ownOf at this ⊢
    rw [List.map_cons, List.map_cons, this]
theorem blkT {s : Shared} {H : L2.Hp} {scope sc0 : Scope} {Ca : Addr} {cl : List (Str × Addr)} {fp : List Addr} (x : Str) (h : tgtC scope x = true) :
    Loc (X.blk s H scope (compEnvC scope cl Ca X.env) fp).env.scope x ∧ ((X.blk s H scope (compEnvC scope cl Ca X.env) fp).fn x = true ∨ (X.blk s H scope (compEnvC scope cl Ca X.env) fp).env.scope.names.lookup x = some .local) := by
  unfold tgtC at h
  split at h
  · rename_i e
    have := lookup_relS_keep (sc := X.env.scope) (k := .local) (by decide) e
    exact ⟨.inl this, .inr this⟩
  · rename_i e
    have := lookup_relS_keep (sc := X.env.scope) (k := .cell) (by decide) e
    refine ⟨.inr this, .inl ?_⟩
    show (scope.names.lookup x == some .cell) = true
    rw [e]; rfl
  · cases h
theorem folded {iter : Expr} {env : Env} (h : isSetE iter = false) : ∀ x, foldedSetIterable iter env x = pure x := fun x => by
  cases iter <;> first | (exfalso; cases h; done) | rfl

/-! ### built-ins -/
theorem blt_snd {b : Bf} {x : Str} {ty : Bool} {p pos : Pos} {a : Expr} {es : List Expr} {el : Sta → Res (List D)} (G : Good X T P C call mk hot Wx) (hh : hot = false ∨ bltHot b = true) (hb : bltNm b = some (x, ty)) (hg : Gl X x) (hp : plainArgs (a :: es) = true) (ha : PA X (a :: es) (tDB T en Wx el)) :
    Snd X T en Wx (.Call (.Name x p) (a :: es) [] pos) (bltE P.rp b el) := by
  have hcm : bltHot b = false → X.calm = true := fun z => G.calm (hh.resolve_right (by rw [z]; simp))
  have hs := star_cons (env := X.env) hp
  have hpl := star_none (env := X.env) (p := pos) (plainArgs_tl hp)
  have hm : ∀ y : Str, y ∈ blNames → X.mg y = none := G.bl
  cases b <;> simp only [bltNm, Option.some.injEq, Prod.mk.injEq, reduceCtorEq] at hb <;> obtain ⟨rfl, rfl⟩ := hb
  · exact ev_bltB (blt_len G.F.K) hg (hm _ (by simp [blNames])) (by rfl) ha (by decide) (by decide) hs hpl
  · exact ev_bltT (blt_tuple G.F.K) hg (hm _ (by simp [blNames])) (by rfl) ha (by decide) (by decide) hs hpl
  · exact ev_bltT (blt_list G.F.K) hg (hm _ (by simp [blNames])) (by rfl) ha (by decide) (by decide) hs hpl
  · exact ev_bltB (blt_sum (hcm rfl)) hg (hm _ (by simp [blNames])) (by rfl) ha (by decide) (by decide) hs hpl
  · exact ev_bltB (blt_min G.F (hcm rfl)) hg (hm _ (by simp [blNames])) (by rfl) ha (by decide) (by decide) hs hpl
  · exact ev_bltB (blt_max G.F (hcm rfl)) hg (hm _ (by simp [blNames])) (by rfl) ha (by decide) (by decide) hs hpl
  · exact ev_bltB (blt_min2 (hcm rfl)) hg (hm _ (by simp [blNames])) (by rfl) ha (by decide) (by decide) hs hpl
  · exact ev_bltB (blt_max2 (hcm rfl)) hg (hm _ (by simp [blNames])) (by rfl) ha (by decide) (by decide) hs hpl
  · exact ev_bltB blt_abs hg (hm _ (by simp [blNames])) (by rfl) ha (by decide) (by decide) hs hpl
  · exact ev_bltB (blt_all (hcm rfl)) hg (hm _ (by simp [blNames])) (by rfl) ha (by decide) (by decide) hs hpl
  · exact ev_bltB (blt_any (hcm rfl)) hg (hm _ (by simp [blNames])) (by rfl) ha (by decide) (by decide) hs hpl
  · exact ev_bltT blt_int hg (hm _ (by simp [blNames])) (by rfl) ha (by decide) (by decide) hs hpl
  · have := blt_repr (X := X) G.F.K (by have := G.F.un; omega) G.gd
    rw [← G.rp] at this
    exact ev_bltB this hg (hm _ (by simp [blNames])) (by rfl) ha (by decide) (by decide) hs hpl
theorem cst_snd {sc : Scope} {d : D} {ex : Expr} (h : cCst sc d ex = true) : Snd X T en Wx ex fun _ s => .ok ⟨d, false⟩ s := by
  cases d <;> cases ex <;> (try (simp [cCst] at h; done))
  all_goals (rename_i c k p; cases c <;> (try (simp [cCst] at h; done)))
  · exact ev_cst pe_non (fun _ _ => by simp only [Rep]) (by intro _; rfl) (by intro _ _ _ z; cases z)
  · simp only [cCst, beq_iff_eq] at h
    subst h
    exact ev_cst pe_bl (fun _ _ => by simp only [Rep]) (by intro _; rfl) (by intro _ _ _ z; cases z)
  · simp only [cCst, decide_eq_true_eq] at h
    subst h
    exact ev_cst pe_int (fun _ _ => by simp only [Rep]) (by intro _; rfl) (by intro _ _ _ z; cases z)
  · simp only [cCst, Bool.and_eq_true, decide_eq_true_eq] at h
    obtain ⟨h, hl⟩ := h
    subst h
    have hlim : lim = 16777216 := rfl
    exact ev_cst pe_str (fun _ _ => by simp only [Rep]; exact ⟨trivial, by omega⟩) (by intro _; rfl) (by intro _ _ _ z; cases z)
end
end Ev
end

section
/-! EvD3: what the checker passes is sound: the induction over expressions. -/
namespace Ev
open PySem PySem.Spec PyProof.Rows L2

section
variable {T : Tx} {P : Prog} {C : Cfg} {call mk : Nat → List D → Mem → CRes} {N : List Str}
theorem chkEs_len {hot : Bool} {sc : Scope} : ∀ {es : List E} {es' : List Expr}, chkEs C P N hot sc es es' = true → es.length = es'.length
  | [], [], _ => rfl
  | [], _ :: _, h => by simp [chkEs] at h
  | _ :: _, [], h => by simp [chkEs] at h
  | e :: es, e' :: es', h => by
    simp only [chkEs, Bool.and_eq_true] at h
    rw [List.length_cons, List.length_cons, chkEs_len h.2]
theorem k_ok {X : Cx} {Wx : WX} {hot : Bool} (G : Good X T P C call mk hot Wx) {k : Kd} {x : Str} {p : Pos} (h1 : kdNm C k = some x) (g1 : glC X.env.scope x = true) (n1 : (x == ("__debug__" : Str)) = false) : PE X (.Name x p) (tC (kdV T k)) := by
  cases k with
  | cls c => exact pe_glob (glC_ok g1) (G.cl c x h1) (show RelV (.ref (T.ca c)) (.ref (T.ca c)) from rfl) n1
  | bexc c => simp [kdNm] at h1
  | int => simp only [kdNm, Option.some.injEq] at h1; subst h1; exact pe_bltn (glC_ok g1) (G.bl _ (by simp [blNames])) (by rfl) (show RelV (.ty "int") (.type "int") from rfl)
  | bool => simp only [kdNm, Option.some.injEq] at h1; subst h1; exact pe_bltn (glC_ok g1) (G.bl _ (by simp [blNames])) (by rfl) (show RelV (.ty "bool") (.type "bool") from rfl)
  | str => simp only [kdNm, Option.some.injEq] at h1; subst h1; exact pe_bltn (glC_ok g1) (G.bl _ (by simp [blNames])) (by rfl) (show RelV (.ty "str") (.type "str") from rfl)
  | list => simp only [kdNm, Option.some.injEq] at h1; subst h1; exact pe_bltn (glC_ok g1) (G.bl _ (by simp [blNames])) (by rfl) (show RelV (.ty "list") (.type "list") from rfl)
  | tuple => simp only [kdNm, Option.some.injEq] at h1; subst h1; exact pe_bltn (glC_ok g1) (G.bl _ (by simp [blNames])) (by rfl) (show RelV (.ty "tuple") (.type "tuple") from rfl)
  | dict => simp only [kdNm, Option.some.injEq] at h1; subst h1; exact pe_bltn (glC_ok g1) (G.bl _ (by simp [blNames])) (by rfl) (show RelV (.ty "dict") (.type "dict") from rfl)
theorem ks_ok {X : Cx} {Wx : WX} {hot : Bool} (G : Good X T P C call mk hot Wx) : ∀ {ks : List Kd} {es : List Expr}, chkKs C ks es = true → ksGl X.env.scope es = true → PA X es (tKs T ks) ∧ ∀ k ∈ ks, k ∈ C.kinds
  | [], [], _, _ => ⟨pa_nil, fun _ h => nomatch h⟩
  | [], _ :: _, h, _ => by simp [chkKs] at h
  | _ :: _, [], h, _ => by simp [chkKs] at h
  | k :: ks, e :: es, h, hg => by
    cases e with
    | Name x p =>
      simp only [chkKs, Bool.and_eq_true, decide_eq_true_eq] at h
      simp only [ksGl, Bool.and_eq_true] at hg
      obtain ⟨⟨h1, h2⟩, h3⟩ := h
      obtain ⟨⟨g1, g2⟩, g3⟩ := hg
      obtain ⟨r1, r2⟩ := ks_ok G h3 g3
      obtain ⟨n1, n2⟩ := okN_ok g2
      have hp : PE X (.Name x p) (tC (kdV T k)) := k_ok G h1 g1 n1
      refine ⟨pa_imp (pa_cons hp r1 rfl) fun σ H Q q => q, fun k' hk => ?_⟩
      rcases List.mem_cons.mp hk with z | z
      · rw [z]; exact h2
      · exact r2 k' z
    | _ => simp [chkKs] at h
/-- what all the induction rests on -/
structure Ih (X : Cx) (T : Tx) (P : Prog) (C : Cfg) (call mk : Nat → List D → Mem → CRes) (N : List Str) (hot : Bool) (en : Ent) (Wx : WX) : Prop where
  G : Good X T P C call mk hot Wx
  hN : X.N = N
  hx : hot = false → en.xs = []
  hh : InHand X T P en
theorem Ih.blk {X : Cx} {Wx : WX} {en en' : Ent} (I : Ih X T P C call mk N false en Wx) (hz : en'.xs = []) {s : Shared} {H : L2.Hp} {scope : Scope} {cenv : Env} {fp : List Addr} : Ih (X.blk s H scope cenv fp) T P C call mk N false en' WxF :=
  ⟨I.G.blk, I.hN, fun _ => hz, fun a dx c h => by rw [hz] at h; exact nomatch h⟩
mutual
theorem sndE : ∀ (e : E) (X : Cx) (en : Ent) (Wx : WX) (hot : Bool) (ex : Expr), Ih X T P C call mk N hot en Wx → chkE C P N hot X.env.scope e ex = true → Snd X T en Wx ex fun esc s => evalE P call mk esc e s
  | .nm i, X, en, Wx, hot, ex, I, h => by
    unfold chkE at h
    split at h
    · unfold cNm at h
      simp only [Bool.and_eq_true, decide_eq_true_eq] at h
      obtain ⟨⟨h1, h2⟩, h3⟩ := h
      obtain ⟨n1, n2⟩ := okN_ok h3
      exact Snd.congr (ev_nm (by rw [I.hN]; exact h1) (visC_ok h2) n1 n2) fun esc s => by first | (rw [evalE]; done) | (rw [evalE]; rfl)
    · cases h
  | .cst d, X, en, Wx, hot, ex, I, h => by
    unfold chkE at h
    exact Snd.congr (cst_snd h) fun esc s => by first | (rw [evalE]; done) | (rw [evalE]; rfl)
  | .glob g, X, en, Wx, hot, ex, I, h => by
    unfold chkE at h
    split at h
    · simp only [Bool.and_eq_true, decide_eq_true_eq] at h
      obtain ⟨⟨h1, h2⟩, h3⟩ := h
      obtain ⟨n1, n2⟩ := okN_ok h3
      cases z : P.globs[g]? with
      | none => exact snd_bad (fun esc s => by rw [evalE, z]) (by intro _; rfl) (by intro _ _ _ z; cases z)
      | some d =>
        obtain ⟨v, u, e1, e2, e3⟩ := I.G.gl g d _ z h1
        exact Snd.congr (ev_cst (d := d) (pe_glob (glC_ok h2) e1 e2 n1) e3 (by intro _; rfl) (by intro _ _ _ z; cases z)) fun esc s => by rw [evalE, z]
    · cases h
  | .bin op a b, X, en, Wx, hot, ex, I, h => by
    unfold chkE at h
    split at h
    · simp only [Bool.and_eq_true, decide_eq_true_eq] at h
      obtain ⟨⟨rfl, h1⟩, h2⟩ := h
      exact Snd.congr (ev_bin I.G.F.K (sndE a X en Wx hot _ I h1) (sndE b X en Wx hot _ I h2)) fun esc s => by first | (rw [evalE]; done) | (rw [evalE]; rfl)
    · cases h
  | .neg a, X, en, Wx, hot, ex, I, h => by
    unfold chkE at h
    split at h
    · exact Snd.congr (ev_neg (sndE a X en Wx hot _ I h)) fun esc s => by first | (rw [evalE]; done) | (rw [evalE]; rfl)
    · cases h
  | .not a, X, en, Wx, hot, ex, I, h => by
    unfold chkE at h
    split at h
    · exact Snd.congr (ev_not (sndE a X en Wx hot _ I h)) fun esc s => by first | (rw [evalE]; done) | (rw [evalE]; rfl)
    · cases h
  | .and a b, X, en, Wx, hot, ex, I, h => by
    unfold chkE at h
    split at h
    · simp only [Bool.and_eq_true] at h
      exact Snd.congr (ev_and (sndE a X en Wx hot _ I h.1) (tl_one (sndE b X en Wx hot _ I h.2))) fun esc s => by first | (rw [evalE]; done) | (rw [evalE]; rfl)
    · simp only [Bool.and_eq_true] at h
      exact Snd.congr (ev_and (sndE a X en Wx hot _ I h.1) (tl_more (sndE b X en Wx hot _ I h.2))) fun esc s => by first | (rw [evalE]; done) | (rw [evalE]; rfl)
    · cases h
  | .or a b, X, en, Wx, hot, ex, I, h => by
    unfold chkE at h
    split at h
    · simp only [Bool.and_eq_true] at h
      exact Snd.congr (ev_or (sndE a X en Wx hot _ I h.1) (tl_one (sndE b X en Wx hot _ I h.2))) fun esc s => by first | (rw [evalE]; done) | (rw [evalE]; rfl)
    · simp only [Bool.and_eq_true] at h
      exact Snd.congr (ev_or (sndE a X en Wx hot _ I h.1) (tl_more (sndE b X en Wx hot _ I h.2))) fun esc s => by first | (rw [evalE]; done) | (rw [evalE]; rfl)
    · cases h
  | .ife c a b, X, en, Wx, hot, ex, I, h => by
    unfold chkE at h
    split at h
    · simp only [Bool.and_eq_true] at h
      exact Snd.congr (ev_ife (sndE c X en Wx hot _ I h.1.1) (sndE a X en Wx hot _ I h.1.2) (sndE b X en Wx hot _ I h.2)) fun esc s => by first | (rw [evalE]; done) | (rw [evalE]; rfl)
    · cases h
  | .cmp op a b, X, en, Wx, hot, ex, I, h => by
    unfold chkE at h
    split at h
    · simp only [Bool.and_eq_true, decide_eq_true_eq, Bool.not_eq_true'] at h
      obtain ⟨⟨⟨rfl, h0⟩, h1⟩, h2⟩ := h
      exact Snd.congr (ev_cmp I.G.F.K I.G.F.un (sndE a X en Wx hot _ I h1) (sndE b X en Wx hot _ I h2) h0) fun esc s => by first | (rw [evalE]; done) | (rw [evalE]; rfl)
    · cases h
  | .cmp2 op op' a b c, X, en, Wx, hot, ex, I, h => by
    unfold chkE at h
    split at h
    · simp only [Bool.and_eq_true, decide_eq_true_eq, Bool.not_eq_true'] at h
      obtain ⟨⟨⟨⟨⟨rfl, rfl⟩, h0⟩, h1⟩, h2⟩, h3⟩ := h
      exact Snd.congr (ev_cmp2 I.G.F (sndE a X en Wx hot _ I h1) (sndE b X en Wx hot _ I h2) (sndE c X en Wx hot _ I h3) h0) fun esc s => by first | (rw [evalE]; done) | (rw [evalE]; rfl)
    · cases h
  | .tup es, X, en, Wx, hot, ex, I, h => by
    unfold chkE at h
    split at h
    · simp only [Bool.and_eq_true, decide_eq_true_eq] at h
      obtain ⟨⟨h1, h2⟩, h3⟩ := h
      have hlim : lim = 16777216 := rfl
      exact Snd.congr (ev_tup (sndEs es X en Wx hot _ I h1 h3) fun s ds s' z => by rw [evalEs_length es s ds s' z]; omega) fun esc s => by first | (rw [evalE]; done) | (rw [evalE]; rfl)
    · cases h
  | .lst r es, X, en, Wx, hot, ex, I, h => by
    unfold chkE at h
    split at h
    · simp only [Bool.and_eq_true, decide_eq_true_eq] at h
      obtain ⟨⟨h1, h2⟩, h3⟩ := h
      have hlim : lim = 16777216 := rfl
      exact Snd.congr (ev_lst (sndEs es X en Wx hot _ I h1 h3) fun s ds s' z => by rw [evalEs_length es s ds s' z]; omega) fun esc s => by first | (rw [evalE]; done) | (rw [evalE]; rfl)
    · cases h
  | .dic r ks vs, X, en, Wx, hot, ex, I, h => by unfold chkE at h; cases h
  | .call f es, X, en, Wx, hot, ex, I, h => by
    unfold chkE at h
    split at h
    · simp only [Bool.and_eq_true, decide_eq_true_eq, Bool.not_eq_true'] at h
      obtain ⟨⟨⟨⟨⟨h0, h1⟩, h2⟩, h3⟩, h4⟩, h5⟩ := h
      obtain ⟨n1, n2⟩ := okN_ok h3
      obtain ⟨g1, g2⟩ := I.G.fn h0 f _ _ h1
      refine Snd.congr (ev_call (cl := call) ⟨glC_ok h2, g1, n1⟩ g2 (I.G.tk h0) (sndEs es X en Wx hot _ I h4 h5) h4 (fun s ds s' z => evalEs_length es s ds s' z) fun z => ?_) fun esc s => by first | (rw [evalE]; done) | (rw [evalE]; rfl)
      have := chkEs_len h5
      rw [z] at this
      cases es with
      | nil => funext s; rw [evalEs]
      | cons => simp at this
    · cases h
  | .callv i es, X, en, Wx, hot, ex, I, h => by unfold chkE at h; cases h
  | .meth c f o es, X, en, Wx, hot, ex, I, h => by
    unfold chkE at h
    split at h
    · simp only [Bool.and_eq_true, decide_eq_true_eq, Bool.not_eq_true'] at h
      obtain ⟨⟨⟨⟨⟨⟨⟨⟨h0, h1⟩, h2⟩, h3⟩, h4⟩, h5⟩, h6⟩, h7⟩, h8⟩ := h
      rw [Option.map_eq_some_iff] at h2
      obtain ⟨⟨y, n⟩, h2, h2'⟩ := h2
      dsimp only at h2'
      subst h2'
      obtain ⟨g1, g2, g3, g4⟩ := I.G.me h0 c _ f _ y h1 h2
      refine Snd.congr (ev_meth (cl := call) (sndE o X en Wx hot _ I h7) g1 g2 g3 (I.G.tk h0) (sndEs es X en Wx hot _ I h3 h8) h3 (fun s ds s' z => by rw [evalEs_length es s ds s' z]) (fun z => ?_) h4 h5 h6 g4) fun esc s => by first | (rw [evalE]; done) | (rw [evalE]; rfl)
      have := chkEs_len h8
      rw [z] at this
      cases es with
      | nil => funext s; rw [evalEs]
      | cons => simp at this
    · cases h
  | .make r c es, X, en, Wx, hot, ex, I, h => by
    unfold chkE at h
    split at h
    · simp only [Bool.and_eq_true, decide_eq_true_eq, Bool.not_eq_true'] at h
      obtain ⟨⟨⟨⟨⟨⟨h0, h1⟩, h2⟩, h3⟩, h4⟩, h5⟩, h6⟩ := h
      obtain ⟨n1, n2⟩ := okN_ok h4
      rw [Option.bind_eq_some_iff] at h2
      obtain ⟨f, h2, h2'⟩ := h2
      rw [Option.map_eq_some_iff] at h2'
      obtain ⟨⟨y, n⟩, h2', h2''⟩ := h2'
      dsimp only at h2''
      subst h2''
      obtain ⟨g1, g2⟩ := I.G.mkO h0 c _ _ f y h1 h2 h2'
      have z0 : ∀ {es' : List Expr}, es.length = es'.length → es' = [] → (evalEs P call mk es) = fun s => .ok [] s := fun {es'} hl z => by
        rw [z] at hl
        cases es with
        | nil => funext s; rw [evalEs]
        | cons => simp at hl
      cases r with
      | false =>
        exact Snd.congr (ev_make (mk := mk) ⟨glC_ok h3, I.G.cl c _ h1, n1⟩ g1 (I.G.tk h0) (sndEs es X en Wx hot _ I h5 h6) h5 (fun s ds s' z => evalEs_length es s ds s' z) (z0 (chkEs_len h6))) fun esc s => by first | (rw [evalE]; done) | (rw [evalE]; rfl)
      | true =>
        refine Snd.congr (ev_makeR (c := c) (cl := call) ⟨glC_ok h3, I.G.cl c _ h1, n1⟩ g2 (I.G.tk h0) (sndEs es X en Wx hot _ I h5 h6) h5 (fun s ds s' z => by rw [evalEs_length es s ds s' z]) (z0 (chkEs_len h6))) fun esc s => ?_
        rw [evalE]
        simp only [if_true, h2]
        try rfl
    · cases h
  | .blt b es, X, en, Wx, hot, ex, I, h => by
    unfold chkE at h
    split at h
    · simp only [Bool.and_eq_true, Bool.or_eq_true, decide_eq_true_eq, Bool.not_eq_true'] at h
      obtain ⟨⟨⟨⟨⟨h0, h1⟩, h2⟩, h3⟩, h4⟩, h5⟩ := h
      split at h1
      · rename_i y ty hb
        have := of_decide_eq_true h1
        subst this
        have hp := sndBs es X en Wx hot _ I h3 h5
        rename_i es' _ _
        cases es' with
        | nil => cases es <;> simp [chkBs] at h4 h5
        | cons a' es'' => exact Snd.congr (blt_snd I.G h0 hb (glC_ok h2) h3 hp) fun esc s => by first | (rw [evalE]; done) | (rw [evalE]; rfl)
      · cases h1
    · cases h
  | .fld o f, X, en, Wx, hot, ex, I, h => by
    unfold chkE at h
    split at h
    · simp only [Bool.and_eq_true, decide_eq_true_eq] at h
      obtain ⟨⟨h1, hlt⟩, h2⟩ := h
      rw [← I.G.fld] at h1
      subst h1
      split at h2
      · unfold cNm at h2
        simp only [Bool.and_eq_true, decide_eq_true_eq] at h2
        obtain ⟨⟨h3, h4⟩, h5⟩ := h2
        obtain ⟨n1, n2⟩ := okN_ok h5
        exact Snd.congr (ev_fldN I.G.F I.G.EG (by rw [I.G.nf]; exact hlt) I.hh (by rw [I.hN]; exact h3) (visC_ok h4) n1 n2) fun esc s => by first | (rw [evalE]; done) | (rw [evalE]; rfl)
      · cases h2
      · rename_i hne _
        simp only [Bool.and_eq_true, Bool.not_eq_true'] at h2
        refine Snd.congr (ev_fld I.G.F (sndE o X en Wx hot _ I h2.2) h2.1) fun esc s => ?_
        cases o <;> first | (exfalso; exact hne _ rfl) | (rw [evalE]; done) | (rw [evalE]; rfl) | (simp only [evalE]; done) | (simp only [evalE]; rfl)
    · cases h
  | .sub a i, X, en, Wx, hot, ex, I, h => by
    unfold chkE at h
    split at h
    · simp only [Bool.and_eq_true, Bool.not_eq_true'] at h
      exact Snd.congr (ev_sub I.G.F (sndE a X en Wx hot _ I h.1.2) (sndE i X en Wx hot _ I h.2) h.1.1) fun esc s => by first | (rw [evalE]; done) | (rw [evalE]; rfl)
    · cases h
  | .slc a lo hi, X, en, Wx, hot, ex, I, h => by
    unfold chkE at h
    split at h
    · simp only [Bool.and_eq_true] at h
      exact Snd.congr (ev_slc I.G.F (sndE a X en Wx hot _ I h.1.1) (sndOp lo X en Wx hot _ I h.1.2) (sndOp hi X en Wx hot _ I h.2)) fun esc s => by first | (rw [evalE]; done) | (rw [evalE]; rfl)
    · cases h
  | .rev a, X, en, Wx, hot, ex, I, h => by
    unfold chkE at h
    split at h
    · simp only [Bool.and_eq_true, decide_eq_true_eq] at h
      obtain ⟨rfl, h⟩ := h
      exact Snd.congr (ev_rev I.G.F (sndE a X en Wx hot _ I h)) fun esc s => by first | (rw [evalE]; done) | (rw [evalE]; rfl)
    · cases h
  | .lc r elt t it c, X, en, Wx, hot, ex, I, h => by
    unfold chkE at h
    split at h
    · simp only [Bool.and_eq_true, Bool.not_eq_true'] at h
      obtain ⟨⟨⟨⟨⟨⟨h0, h1⟩, h2⟩, h3⟩, h4⟩, h5⟩, h6⟩ := h
      subst h0
      have hc := I.G.calm rfl
      rename_i elt' tg iter ifs scope pos
      have hblk : BlkOk X.N X.env.scope scope (ownOf N (slotsT t)) := by rw [I.hN]; exact blkOk_by h1
      have hscope : ∀ (s : Shared) (H : L2.Hp) (Ca : Addr) (cl : List (Str × Addr)) (fp : List Addr), (X.blk s H scope (compEnvC scope cl Ca X.env) fp).env.scope = relS scope X.env.scope := fun _ _ _ _ _ => rfl
      refine Snd.congr (ev_lc (rs := r) (et := evalC P call mk c) (ee := fun esc s => evalE P call mk esc elt s) (ei := fun esc s => evalI P call mk esc it s) hc I.G.nd (sndI it X en Wx false tg iter I h4) hblk own_snd
        (fun en' z s H Ca cl fp => tg_ok (X := X.blk s H scope (compEnvC scope cl Ca X.env) fp) I.hN I.G.nd I.G.F.K hc (fun x hx => blkT (sc0 := scope) x hx) t tg h2) (fun en' z s H Ca cl fp => ?_)
        (fun en' z s H Ca cl fp => sndE elt _ en' WxF false elt' (I.blk z) h5) (folded h3)) fun esc s => by first | (rw [evalE]; done) | (rw [evalE]; rfl)
      cases c with
      | none =>
        cases ifs with
        | nil => rw [show evalC P call mk none = fun s => .ok true s from by funext s; rw [evalC]]; exact pts_none
        | cons => simp at h6
      | some c =>
        match ifs, h6 with
        | [c'], h6 => rw [show evalC P call mk (some c) = fun s => ((fun esc s => evalE P call mk esc c s) false s).bind truth from by funext s; rw [evalC]]; exact pts_some (sndE c _ en' WxF false c' (I.blk z) h6)
    · cases h
  | .isi a ks, X, en, Wx, hot, ex, I, h => by
    unfold chkE at h
    split at h
    · simp only [Bool.and_eq_true, decide_eq_true_eq, Bool.not_eq_true'] at h
      obtain ⟨⟨⟨⟨⟨⟨h0, h1⟩, h2⟩, h3⟩, h4⟩, h5⟩, h6⟩ := h
      subst h0 h1
      have ha := sndE a X en Wx false _ I h5
      have fin : ∀ {e : PySem.Expr}, Snd X T en Wx e (isiE P ks fun esc s => evalE P call mk esc a s) → Snd X T en Wx e fun esc s => evalE P call mk esc (.isi a ks) s := fun hh => by
        refine Snd.noX (I.hx rfl) hh fun esc s hno => ?_
        cases a with
        | nm i =>
          cases z : look s.sl i <;> first
            | exact absurd z (hno i _ _ _)
            | (simp only [isiE, evalE, z]; done)
            | (simp only [isiE, evalE, z]; rfl)
        | _ => rw [evalE]; intro i z; cases z
      refine fin ?_
      split at h6
      · simp only [Bool.and_eq_true] at h6
        rename_i y q
        obtain ⟨r1, r2⟩ := ks_ok I.G h6.1 h6.2
        match ks, h6.1, r1, r2 with
        | [], hk, _, _ => simp [chkKs] at hk
        | [k], hk, r1, r2 =>
          have hp : PE X (.Name y q) (tC (kdV T k)) := by
            simp only [chkKs, Bool.and_eq_true, decide_eq_true_eq] at hk
            have hg := h6.2
            simp only [ksGl, Bool.and_eq_true] at hg
            exact k_ok I.G hk.1.1 hg.1.1 (okN_ok hg.1.2).1
          exact ev_isi1 I.G.F I.G.IS (r2 k (by simp)) ha hp (glC_ok h2) (I.G.bl _ (by simp [blNames])) (star2 h3) (star1 (plainArgs_tl h3))
        | k :: k2 :: ks, hk, _, _ => simp [chkKs] at hk
      · simp only [Bool.and_eq_true, decide_eq_true_eq] at h6
        obtain ⟨r1, r2⟩ := ks_ok I.G h6.1.1 h6.1.2
        exact ev_isiT I.G.F I.G.IS r2 ha r1 (by rw [sizeLine_eq]; omega) (glC_ok h2) (I.G.bl _ (by simp [blNames])) (star2 h3) (star1 (plainArgs_tl h3))
      · cases h6
    · cases h
  | .fstr es, X, en, Wx, hot, ex, I, h => by unfold chkE at h; cases h
  | .popR o, X, en, Wx, hot, ex, I, h => by unfold chkE at h; cases h
  | .dpopR _ _ _, X, en, Wx, hot, ex, I, h => by unfold chkE at h; cases h
  | .lrg1 a, X, en, Wx, hot, ex, I, h => by
    unfold chkE at h
    split at h
    · simp only [Bool.and_eq_true, decide_eq_true_eq, Bool.not_eq_true'] at h
      obtain ⟨⟨⟨⟨⟨⟨h0, h1⟩, h2⟩, h3⟩, h4⟩, h5⟩, h6⟩ := h
      subst h0 h1 h2
      exact Snd.congr (ev_lrg1 (I.G.calm rfl) (sndE a X en Wx false _ I h6) (glC_ok h3) (I.G.bl _ (by simp [blNames])) (glC_ok h4) (I.G.bl _ (by simp [blNames])) (star1 h5) rfl) fun esc s => by first | (rw [evalE]; done) | (rw [evalE]; rfl)
    · cases h
  | .lrg2 a b, X, en, Wx, hot, ex, I, h => by
    unfold chkE at h
    split at h
    · simp only [Bool.and_eq_true, decide_eq_true_eq, Bool.not_eq_true'] at h
      obtain ⟨⟨⟨⟨⟨⟨⟨h0, h1⟩, h2⟩, h3⟩, h4⟩, h5⟩, h6⟩, h7⟩ := h
      subst h0 h1 h2
      exact Snd.congr (ev_lrg2 (I.G.calm rfl) (sndE a X en Wx false _ I h6) (sndE b X en Wx false _ I h7) (glC_ok h3) (I.G.bl _ (by simp [blNames])) (glC_ok h4) (I.G.bl _ (by simp [blNames])) (star2 h5) (star1 (plainArgs_tl h5)) rfl) fun esc s => by first | (rw [evalE]; done) | (rw [evalE]; rfl)
    · cases h
theorem sndEs : ∀ (es : List E) (X : Cx) (en : Ent) (Wx : WX) (hot : Bool) (es' : List Expr), Ih X T P C call mk N hot en Wx → plainArgs es' = true → chkEs C P N hot X.env.scope es es' = true → PA X es' (tDL T en Wx (evalEs P call mk es))
  | [], X, en, Wx, hot, [], I, _, h => by
    rw [show evalEs P call mk [] = fun s => .ok [] s from by funext s; rw [evalEs]]
    exact pa_evalEs_nil
  | [], X, en, Wx, hot, _ :: _, I, _, h => by simp [chkEs] at h
  | _ :: _, X, en, Wx, hot, [], I, _, h => by simp [chkEs] at h
  | e :: es, X, en, Wx, hot, e' :: es', I, hp, h => by
    simp only [chkEs, Bool.and_eq_true] at h
    rw [show evalEs P call mk (e :: es) = fun s => ((fun esc s => evalE P call mk esc e s) true s).bind fun x s => (evalEs P call mk es s).bind fun xs s => .ok (x.d :: xs) s from by funext s; rw [evalEs]]
    exact pa_evalEs_cons (sndE e X en Wx hot e' I h.1) (sndEs es X en Wx hot es' I (plainArgs_tl hp) h.2) (star_cons hp)
theorem sndBs : ∀ (es : List E) (X : Cx) (en : Ent) (Wx : WX) (hot : Bool) (es' : List Expr), Ih X T P C call mk N hot en Wx → plainArgs es' = true → chkBs C P N hot X.env.scope es es' = true → PA X es' (tDB T en Wx (evalBs P call mk es))
  | [], X, en, Wx, hot, [], I, _, h => by
    rw [show evalBs P call mk [] = fun s => .ok [] s from by funext s; rw [evalBs]]
    exact pa_evalBs_nil
  | [], X, en, Wx, hot, _ :: _, I, _, h => by simp [chkBs] at h
  | _ :: _, X, en, Wx, hot, [], I, _, h => by simp [chkBs] at h
  | e :: es, X, en, Wx, hot, e' :: es', I, hp, h => by
    simp only [chkBs, Bool.and_eq_true] at h
    rw [show evalBs P call mk (e :: es) = fun s => ((fun esc s => evalE P call mk esc e s) false s).bind fun x s => (evalBs P call mk es s).bind fun xs s => .ok (x.d :: xs) s from by funext s; rw [evalBs]]
    exact pa_evalBs_cons (sndE e X en Wx hot e' I h.1) (sndBs es X en Wx hot es' I (plainArgs_tl hp) h.2) (star_cons hp)
theorem sndOp : ∀ (e : Option E) (X : Cx) (en : Ent) (Wx : WX) (hot : Bool) (e' : Option Expr), Ih X T P C call mk N hot en Wx → chkOp C P N hot X.env.scope e e' = true → PO X e' (tDO T en Wx (evalO P call mk e))
  | none, X, en, Wx, hot, none, I, h => by
    rw [show evalO P call mk none = fun s => .ok none s from by funext s; rw [evalO]]
    exact po_none'
  | none, X, en, Wx, hot, some _, I, h => by simp [chkOp] at h
  | some _, X, en, Wx, hot, none, I, h => by simp [chkOp] at h
  | some e, X, en, Wx, hot, some e', I, h => by
    simp only [chkOp] at h
    rw [show evalO P call mk (some e) = fun s => ((fun esc s => evalE P call mk esc e s) false s).bind fun x s => match x.d with
      | .int i => .ok (some i) s
      | _ => .bad from by funext s; rw [evalO] <;> (refine congrArg (Res.bind _) ?_; funext x s; cases x.d <;> rfl)]
    exact po_some' (sndE e X en Wx hot e' I h)
theorem sndI : ∀ (it : It) (X : Cx) (en : Ent) (Wx : WX) (hot : Bool) (tg ex : Expr), Ih X T P C call mk N hot en Wx → chkI C P N hot X.env.scope tg it ex = true → SndI X T en Wx tg ex fun esc s => evalI P call mk esc it s
  | .of e, X, en, Wx, hot, tg, ex, I, h => by
    unfold chkI at h
    exact SndI.congr (it_of I.G.F.K (sndE e X en Wx hot ex I h)) fun esc s => by rw [evalI]
  | .enum it, X, en, Wx, hot, tg, ex, I, h => by
    cases it with
    | of e =>
      unfold chkI at h
      simp only [] at h
      split at h
      · simp only [Bool.and_eq_true, decide_eq_true_eq] at h
        obtain ⟨⟨⟨⟨rfl, h1⟩, h2⟩, h3⟩, h4⟩ := h
        split at h3
        · exact SndI.congr (it_enum I.G.F.K (glC_ok h1) (I.G.bl _ (by simp [blNames])) (sndE e X en Wx hot _ I h4) (star1 h2)) fun esc s => by rw [evalI, evalI]
        · cases h3
      · cases h
    | _ => unfold chkI at h; cases h
  | .range1 a, X, en, Wx, hot, tg, ex, I, h => by
    unfold chkI at h
    split at h
    · simp only [Bool.and_eq_true, decide_eq_true_eq] at h
      obtain ⟨⟨⟨rfl, h1⟩, h2⟩, h3⟩ := h
      exact SndI.congr (it_range1 (glC_ok h1) (I.G.bl _ (by simp [blNames])) (sndE a X en Wx hot _ I h3) (star1 h2)) fun esc s => by rw [evalI] <;> (unfold range1E; refine congrArg (Res.bind _) ?_; funext x s; cases x.d <;> rfl)
    · cases h
  | .range2 a b, X, en, Wx, hot, tg, ex, I, h => by
    unfold chkI at h
    split at h
    · simp only [Bool.and_eq_true, decide_eq_true_eq] at h
      obtain ⟨⟨⟨⟨rfl, h1⟩, h2⟩, h3⟩, h4⟩ := h
      exact SndI.congr (it_range2 (glC_ok h1) (I.G.bl _ (by simp [blNames])) (sndE a X en Wx hot _ I h3) (sndE b X en Wx hot _ I h4) (star2 h2) (star1 (plainArgs_tl h2))) fun esc s => by rw [evalI] <;> (unfold range2E; refine congrArg (Res.bind _) ?_; funext x s; refine congrArg (Res.bind _) ?_; funext y s; cases x.d <;> cases y.d <;> rfl)
    · cases h
  | .zip a b, X, en, Wx, hot, tg, ex, I, h => by unfold chkI at h; cases h
  | .items e, X, en, Wx, hot, tg, ex, I, h => by unfold chkI at h; cases h
  | .vals e, X, en, Wx, hot, tg, ex, I, h => by unfold chkI at h; cases h
end
end
end Ev
end

section
/-! EvD4: does an IR statement match the program's? -/
namespace Ev
open PySem PySem.Spec PyProof.Rows L2

section
variable (C : Cfg) (P : Prog) (N : List Str)
def isComp : Expr → Bool
  | .ListComp _ _ _ _ => true
  | .SetComp _ _ _ _ => true
  | .DictComp _ _ _ _ _ => true
  | _ => false
def isTup : Expr → Bool
  | .Tuple _ _ _ => true
  | _ => false
/-- the store of a comprehension goes the other way -/
def swB (sc : Scope) (a : Expr) (x : Str) (q : Pos) : Bool := match a with
  | .ListComp _ _ s p => (sc.names.lookup x == some .local) && (q.line == p.line) && !(s.names.any fun y => y.1 == x && (y.2 == .local || y.2 == .cell))
  | _ => false
def isLoc (sc : Scope) (x : Str) : Bool := decide (sc.names.lookup x = some .local)
/-- names stored in the other order -/
def par2C (sc : Scope) (x y : Str) (p q : Pos) (es : List Expr) : Bool :=
  isLoc sc x && isLoc sc y && (q.line == p.line) && decide (x ≠ y) && !(es.all (foldedForSure 8)) && !(es.all (constantsAlone 8))
def par3C (sc : Scope) (x y z : Str) (p q r : Pos) (es : List Expr) : Bool :=
  isLoc sc x && isLoc sc y && isLoc sc z && (q.line == p.line) && (r.line == p.line) && decide (x ≠ y) && decide (x ≠ z) && decide (y ≠ z) && !(es.all (foldedForSure 8)) && !(es.all (constantsAlone 8))
/-- .. in their order -/
def parNC (sc : Scope) (ts : List Expr) (es : List Expr) : Bool :=
  (!(ts.length == 2) && !(ts.length == 3)) || es.all (foldedForSure 8)
def chkNms (sc : Scope) : List Nat → List Expr → Bool
  | [], [] => true
  | i :: is, .Name x _ :: ts => decide (i ≠ 0) && decide (N[i]? = some x) && tgtC sc x && chkNms sc is ts
  | _, _ => false
def chkDes (hot : Bool) (sc : Scope) (o : E) (b : Expr) : Bool := match o with
  | .nm i => (match b with
    | .Name y _ => cNm N sc i y
    | _ => false)
  | o => chkE C P N hot sc o b
def augB (op : BOp) (o : Operator) : Bool := match op with
  | .add => decide (o = .Add)
  | .sub => decide (o = .Sub)
  | _ => false
mutual
def chkS (hot : Bool) (sc : Scope) (x : S) (st : Stmt) : Bool := match x with
  | .asg t e => (match t, st with
    | .nm i, .Assign [.Name x _] a _ => decide (N[i]? = some x) && decide (i ≠ 0) && tgtC sc x && chkE C P N hot sc e a
    | .tup ts, .Assign [.Tuple ts' k p] a _ => !hot && !isTup a && chkT N (tgtC sc) (.tup ts) (.Tuple ts' k p) && chkE C P N hot sc e a
    | _, _ => false)
  | .asgP is es => (match is, st with
    | [i, j], .Assign [.Tuple [.Name x p, .Name y q] _ _] (.Tuple es' _ _) _ => !hot && plainArgs es' && decide (N[i]? = some x) && decide (N[j]? = some y) && decide (i ≠ 0 ∧ j ≠ 0 ∧ i ≠ j) && decide (es'.length = 2) && chkEs C P N hot sc es es' &&
        (par2C sc x y p q es' || (es'.all (foldedForSure 8) && tgtC sc x && tgtC sc y))
    | [i, j, l], .Assign [.Tuple [.Name x p, .Name y q, .Name z r] _ _] (.Tuple es' _ _) _ => !hot && plainArgs es' && decide (N[i]? = some x) && decide (N[j]? = some y) && decide (N[l]? = some z) && decide (i ≠ 0 ∧ j ≠ 0 ∧ l ≠ 0 ∧ i ≠ j) && decide (i ≠ l) && decide (j ≠ l) && decide (es'.length = 3) && chkEs C P N hot sc es es' &&
        (par3C sc x y z p q r es' || (es'.all (foldedForSure 8) && tgtC sc x && tgtC sc y && tgtC sc z))
    | is, .Assign [.Tuple ts _ _] (.Tuple es' _ _) _ => !hot && plainArgs es' && plainArgs ts && decide (ts.length = is.length) && decide (es'.length = is.length) && decide (is.length ≤ 1000) && chkNms N sc is ts && parNC sc ts es' && chkEs C P N hot sc es es'
    | _, _ => false)
  | .setF o f e => (match st with
    | .Assign [.Attribute b x _] a _ => decide (flS C.fl f = x) && chkDes C P N hot sc o b && chkE C P N hot sc e a
    | _ => false)
  | .setI o i e => (match st with
    | .Assign [.Subscript b c _] a _ => !isSlice c && chkDes C P N hot sc o b && chkE C P N hot sc i c && chkE C P N hot sc e a
    | _ => false)
  | .augN op i e => (match st with
    | .AugAssign (.Name x _) o a _ => decide (N[i]? = some x) && decide (i ≠ 0) && tgtC sc x && augB op o && chkE C P N hot sc e a
    | _ => false)
  | .app o e => (match st with
    | .Expr (.Call (.Attribute b m ap) [a] [] p) _ => decide (m = "append") && !isCall0 b && (ap.endLine == p.line) && plainArgs [a] && chkDes C P N hot sc o b && chkE C P N hot sc e a
    | _ => false)
  | .ext o e => (match st with
    | .Expr (.Call (.Attribute b m ap) [a] [] p) _ => decide (m = "extend") && !isCall0 b && (ap.endLine == p.line) && plainArgs [a] && chkDes C P N hot sc o b && chkE C P N hot sc e a
    | _ => false)
  | .ins o i e => (match st with
    | .Expr (.Call (.Attribute b m ap) [c, a] [] p) _ => decide (m = "insert") && !isCall0 b && (ap.endLine == p.line) && plainArgs [c, a] && chkDes C P N hot sc o b && chkE C P N hot sc i c && chkE C P N hot sc e a
    | _ => false)
  | .expr e => (match st with
    | .Expr a _ => !isComp a && chkE C P N hot sc e a
    | _ => false)
  | .iff c a b => (match st with
    | .If c' p q _ => chkE C P N hot sc c c' && chkSs hot sc a p && chkSs hot sc b q
    | _ => false)
  | .wh c b => (match st with
    | .While c' p [] _ => !hot && chkE C P N hot sc c c' && chkSs hot sc b p
    | _ => false)
  | .for_ t it b => (match st with
    | .For tg iter p [] _ => !hot && !isSetE iter && chkT N (tgtC sc) t tg && chkI C P N hot sc tg it iter && chkSs hot sc b p
    | _ => false)
  | .ret e => (match e, st with
    | none, .Return none _ => true
    | some (.nm i), .Return (some (.Name x _)) _ => cNm N sc i x
    | some (.nm _), _ => false
    | some e, .Return (some a) _ => chkE C P N hot sc e a
    | _, _ => false)
  | .raise c es => (match st with
    | .Raise (some (.Call (.Name x _) [a] [] _)) none _ => !hot && decide ((C.ex[c]?).map (·.1) = some x) && (match P.excs[c]?, C.ex[c]? with
        | some y, some z => decide (y.1 = [z.2])
        | _, _ => false) && glC sc x && okN x && plainArgs [a] && chkEs C P N hot sc es [a]
    | _ => false)
  | .try_ b hs bs => (match st with
    | .Try p (h0 :: hds) [] [] _ => !hot && chkSs hot sc b p && chkHs sc hs bs (h0 :: hds)
    | _ => false)
  | .pass => (match st with
    | .Pass _ => true
    | _ => false)
  | _ => false
def chkSs (hot : Bool) (sc : Scope) : List S → List Stmt → Bool
  | [], [] => true
  | .kill _ :: xs, sts => chkSs hot sc xs sts
  | x :: xs, st :: sts => chkS hot sc x st && chkSs hot sc xs sts
  | _, _ => false
def chkHs (sc : Scope) : List (Nat × Option Nat) → List (List S) → List ExceptHandler → Bool
  | [], [], [] => true
  | h :: hs, b :: bs, .ExceptHandler (some (.Name x _)) n (s0 :: suite) _ :: r => decide ((C.ex[h.1]?).map (·.1) = some x) && glC sc x && okN x && decide (h.1 < P.excs.length) && (match n, h.2 with
      | none, none => true
      | some y, some i => decide (N[i]? = some y) && decide (i ≠ 0) && isLoc sc y
      | _, _ => false) && chkSs true sc b (s0 :: suite) && chkHs sc hs bs r
  | _, _, _ => false
end
end

section
variable {env : Env} {a : Expr} {x : Str} {q : Pos}
theorem bk_fn (h : env.scope.kind = .function) : env.blockKind = .function := by
  unfold Env.blockKind
  rw [h]; rfl
theorem sw_name (h : env.scope.kind = .function) (hc : ∀ e g s p, a ≠ .SetComp e g s p) (hd : ∀ k v g s p, a ≠ .DictComp k v g s p) (line : Nat) : swapsWith a (some (.Name x q)) line env = pure (swB env.scope a x q) := by
  cases a <;> first | rfl | skip
  · show (pure (env.blockKind == ScopeKind.function && env.kindOf x == some NameKind.local && _ && _) : Sem Bool) = _
    rw [bk_fn h]; rfl
  · exact absurd rfl (hc _ _ _ _)
  · exact absurd rfl (hd _ _ _ _ _)
theorem sw_none (h : isComp a = false) (line : Nat) : swapsWith a none line env = pure false := by
  cases a <;> first | (cases h; done) | rfl
theorem sw_other {t : Expr} (h : ∀ y p, t ≠ .Name y p) (line : Nat) : swapsWith a (some t) line env = pure false := by
  cases t <;> first | exact absurd rfl (h _ _) | (cases a <;> rfl)
theorem sole_tup {ts : List Expr} {k : Nat} {p : Pos} (line : Nat) : swapsWithSole [.Tuple ts k p] a line env = pure false := by
  show swapsWith a (some (.Tuple ts k p)) line env = pure false
  exact sw_other (fun y p h => by cases h) line
theorem sole_sub {b c : Expr} {p : Pos} (line : Nat) : swapsWithSole [.Subscript b c p] a line env = pure false := by
  show swapsWith a (some (.Subscript b c p)) line env = pure false
  exact sw_other (fun y p h => by cases h) line
theorem st_noTup {ts : List Expr} {k : Nat} {p : Pos} (h : isTup a = false) : swappedStores [.Tuple ts k p] a env = pure none := by
  cases a <;> first | (cases h; done) | rfl
theorem plain_mem : ∀ {es : List Expr}, plainArgs es = true → ∀ t ∈ es, ∀ u p, t ≠ .Starred u p
  | [], _, _, h, _, _ => nomatch h
  | e :: es, h, t, ht, u, p => by
    rcases List.mem_cons.mp ht with z | z
    · subst z; rintro rfl; cases h
    · exact plain_mem (plainArgs_tl h) t z u p
theorem st_2 {x y : Str} {p q pt pt2 : Pos} {kt k2 : Nat} {es : List Expr} (hk : env.scope.kind = .function) (hp : plainArgs es = true) (hl : es.length = 2) (h : par2C env.scope x y p q es = true) :
    swappedStores [.Tuple [.Name x p, .Name y q] kt pt] (.Tuple es k2 pt2) env = pure (some [x, y]) := by
  unfold par2C isLoc at h
  simp only [Bool.and_eq_true, decide_eq_true_eq, Bool.not_eq_true'] at h
  obtain ⟨⟨⟨⟨⟨h1, h2⟩, h3⟩, h4⟩, h5⟩, h6⟩ := h
  have e1 : env.kindOf x = some NameKind.local := h1
  have e2 : env.kindOf y = some NameKind.local := h2
  have h3' : q.line = p.line := by simpa using h3
  have h4' : (y == x) = false := by simpa using fun e : y = x => h4 e.symm
  unfold swappedStores
  simp [hl, bk_fn hk, e1, e2, h3', h5, h6, Expr.pos, List.eraseDups, List.eraseDupsBy, List.eraseDupsBy.loop, h4', List.filterMap_cons]
  rintro t ht hm
  exfalso
  cases t <;> first | (cases hm; done) | exact plain_mem hp _ ht _ _ rfl
theorem st_3 {x y z : Str} {p q r pt pt2 : Pos} {kt k2 : Nat} {es : List Expr} (hk : env.scope.kind = .function) (hp : plainArgs es = true) (hl : es.length = 3) (h : par3C env.scope x y z p q r es = true) :
    swappedStores [.Tuple [.Name x p, .Name y q, .Name z r] kt pt] (.Tuple es k2 pt2) env = pure (some [x, y, z]) := by
  unfold par3C isLoc at h
  simp only [Bool.and_eq_true, decide_eq_true_eq, Bool.not_eq_true'] at h
  obtain ⟨⟨⟨⟨⟨⟨⟨⟨⟨h1, h2⟩, hz⟩, h3⟩, h3b⟩, h4⟩, h4b⟩, h4c⟩, h5⟩, h6⟩ := h
  have e1 : env.kindOf x = some NameKind.local := h1
  have e2 : env.kindOf y = some NameKind.local := h2
  have e3 : env.kindOf z = some NameKind.local := hz
  have h3' : q.line = p.line := by simpa using h3
  have h3'' : r.line = p.line := by simpa using h3b
  have h4' : (y == x) = false := by simpa using fun e : y = x => h4 e.symm
  have h4'' : (z == x) = false := by simpa using fun e : z = x => h4b e.symm
  have h4t : (z == y) = false := by simpa using fun e : z = y => h4c e.symm
  unfold swappedStores
  simp [hl, bk_fn hk, e1, e2, e3, h3', h3'', h5, h6, Expr.pos, List.eraseDups, List.eraseDupsBy, List.eraseDupsBy.loop, h4', h4'', h4t, List.filterMap_cons]
  rintro t ht hm
  exfalso
  cases t <;> first | (cases hm; done) | exact plain_mem hp _ ht _ _ rfl
theorem st_N {ts es : List Expr} {pt pt2 : Pos} {kt k2 : Nat} (h : parNC env.scope ts es = true) : swappedStores [.Tuple ts kt pt] (.Tuple es k2 pt2) env = pure none := by
  unfold parNC at h
  simp only [Bool.or_eq_true, Bool.and_eq_true, Bool.not_eq_true'] at h
  unfold swappedStores
  rcases h with ⟨h1, h2⟩ | h
  · simp [h1, h2]
  · dsimp only
    split
    · rfl
    · split
      · rfl
      · split
        · rfl
        · rfl
end
end Ev
end

section
/-! EvD5: what the checker passes is sound: statements. -/
namespace Ev
open PySem PySem.Spec PyProof.Rows L2

section
variable {T : Tx} {P : Prog} {C : Cfg} {call mk : Nat → List D → Mem → CRes} {N : List Str}
theorem noPass {X : Cx} {Pg : Program} {w : World} : Passes (L2.CX Pg w) X (fun _ _ _ => False) := fun _ _ _ _ _ _ _ h => by
  obtain ⟨_, _, _, _, _, _, _, _, _, _, _, _, h⟩ := h
  exact h.elim
structure IhS (X : Cx) (T : Tx) (P : Prog) (C : Cfg) (call mk : Nat → List D → Mem → CRes) (N : List Str) (hot : Bool) (en : Ent) (Wx : WX) : Prop where
  I : Ih X T P C call mk N hot en Wx
  kd : X.env.scope.kind = .function
  fnC : ∀ x, X.env.scope.names.lookup x = some .cell → X.fn x = true
  own : hot = false → PassesOwn (model X.prog X.w) X.A X.env X.xe
  st : hot = false → X.stack = X.env :: X.outer
  fr : hot = false → X.env.frame = some X.env.locals
  ro : en.ro = false
  exN : ∀ c x f, C.ex[c]? = some (x, f) → X.mg x = some (.ref (T.xa c))
  exn : hot = false → ∀ c x f y, C.ex[c]? = some (x, f) → P.excs[c]? = some y → y.1 = [f] → Gl X x → okN x = true → Exc1 X x (T.xa c) (T.fld f)
theorem Good.tr {X : Cx} {Wx W : WX} (G : Good X T P C call mk false Wx) {pn : List (Addr × Obj)} {xe : Value → Shared → Prop} (tk : Takes (X.tr pn xe) W) : Good (X.tr pn xe) T P C call mk false W :=
  ⟨⟨G.F.K, G.F.un, G.F.inj, G.F.fl⟩, G.fld, G.nf, G.rp, G.gd, ⟨G.IS.cls, G.IS.g1, G.IS.g2, G.IS.kit⟩, ⟨G.EG.xf, G.EG.no⟩, ⟨G.EF.exm⟩, G.nd, G.bl, G.calm, fun _ => tk, fun z f x n h => ⟨(G.fn z f x n h).1, ⟨(G.fn z f x n h).2.ex, (G.fn z f x n h).2.kp⟩⟩,
    fun z c m f n y h1 h2 => by
      obtain ⟨q1, q2, q3, q4⟩ := G.me z c m f n y h1 h2
      exact ⟨q1, q2, ⟨q3.ex, q3.kp⟩, q4⟩,
    fun z c x n f y h1 h2 h3 => by
      obtain ⟨q1, q2⟩ := G.mkO z c x n f y h1 h2 h3
      exact ⟨⟨q1.ex, q1.kp⟩, ⟨q2.ex, q2.kp⟩⟩, G.cl, G.gl⟩
theorem Good.suite {X : Cx} {Wx : WX} (G : Good X T P C call mk false Wx) {a : Addr} {pn : List (Addr × Obj)} : Good (X.suite a pn) T P C call mk true WxF :=
  ⟨⟨G.F.K, G.F.un, G.F.inj, G.F.fl⟩, G.fld, G.nf, G.rp, G.gd, ⟨G.IS.cls, G.IS.g1, G.IS.g2, G.IS.kit⟩, ⟨G.EG.xf, G.EG.no⟩, ⟨G.EF.exm⟩, G.nd, G.bl, fun z => (by cases z), fun z => (by cases z), fun z => (by cases z), fun z => (by cases z), fun z => (by cases z), G.cl, G.gl⟩
theorem IhS.tr {X : Cx} {Wx W : WX} {en : Ent} (J : IhS X T P C call mk N false en Wx) {pn : List (Addr × Obj)} {xe : Value → Shared → Prop} (tk : Takes (X.tr pn xe) W) (po : PassesOwn (model X.prog X.w) X.A X.env xe) : IhS (X.tr pn xe) T P C call mk N false en W :=
  ⟨⟨J.I.G.tr tk, J.I.hN, J.I.hx, fun a dx c h => by rw [J.I.hx rfl] at h; exact nomatch h⟩, J.kd, J.fnC, fun _ => po, J.st, J.fr, J.ro, J.exN, fun z c x f y h1 h2 h3 h4 h5 => by
    have E1 := J.exn z c x f y h1 h2 h3 h4 h5
    exact ⟨E1.oex, E1.ex, ⟨E1.called.gl, E1.called.mg, E1.called.nd⟩⟩⟩
theorem IhS.suite {X : Cx} {Wx : WX} {en en' : Ent} (J : IhS X T P C call mk N false en Wx) {a dx : Addr} {oe : Obj} {pn : List (Addr × Obj)} {c : Nat} (hz : Zc (.ref (T.xa c)) (some dx) oe) (hd : ∃ vs, oe.data = .fields vs) (hx : en'.xs = [(a, dx, c)]) (ro : en'.ro = false) :
    IhS (X.suite a ((a, oe) :: pn)) T P C call mk N true en' WxF :=
  ⟨⟨J.I.G.suite, J.I.hN, fun z => (by cases z), fun a' dx' c' h => by
    rw [hx, List.mem_singleton] at h
    cases h
    exact ⟨X, oe, pn, rfl, hz, hd⟩⟩, J.kd, J.fnC, fun z => (by cases z), fun z => (by cases z), fun z => (by cases z), ro, J.exN, fun z => (by cases z)⟩
theorem IhS.tgt {X : Cx} {Wx : WX} {en : Ent} {hot : Bool} (J : IhS X T P C call mk N hot en Wx) {x : Str} (h : tgtC X.env.scope x = true) : Loc X.env.scope x ∧ (X.fn x = true ∨ X.env.scope.names.lookup x = some .local) := by
  unfold tgtC at h
  split at h
  · rename_i e; exact ⟨.inl e, .inr e⟩
  · rename_i e; exact ⟨.inr e, .inl (J.fnC x e)⟩
  · cases h
theorem ps_congr {X : Cx} {en : Ent} {Wx : WX} {st : Stmt} {ev ev' : Sta → Out} (h : PS X st (tS T en Wx ev)) (q : ∀ s, ev' s = ev s) : PS X st (tS T en Wx ev') := by
  have : ev' = ev := funext q
  rw [this]; exact h
theorem pss_congr {X : Cx} {en : Ent} {Wx : WX} {st : List Stmt} {ev ev' : Sta → Out} (h : PSs X st (tS T en Wx ev)) (q : ∀ s, ev' s = ev s) : PSs X st (tS T en Wx ev') := by
  have : ev' = ev := funext q
  rw [this]; exact h
theorem chk_setC {hot : Bool} {sc : Scope} {e : E} {a : Expr} (h : chkE C P N hot sc e a = true) : (∀ e' g s p, a ≠ .SetComp e' g s p) ∧ ∀ k v g s p, a ≠ .DictComp k v g s p := by
  constructor
  · rintro e' g s p rfl
    cases e <;> simp [chkE, cCst] at h
  · rintro k v g s p rfl
    cases e <;> simp [chkE, cCst] at h
theorem chk_lc {hot : Bool} {sc : Scope} {e : E} {el : Expr} {gs : List Comprehension} {s : Scope} {p : Pos} (h : chkE C P N hot sc e (.ListComp el gs s p) = true) : ∃ r elt t it c, e = .lc r elt t it c := by
  cases e <;> first | (simp [chkE, cCst] at h; done) | skip
  · exact ⟨_, _, _, _, _, rfl⟩
theorem des_ok {X : Cx} {Wx : WX} {en : Ent} {hot : Bool} (J : IhS X T P C call mk N hot en Wx) {o : E} {b : Expr} (h : chkDes C P N hot X.env.scope o b = true) : PE X b (tDes T en Wx o (evalE P call mk false o)) := by
  cases o with
  | nm i =>
    unfold chkDes at h
    dsimp only at h
    split at h
    · unfold cNm at h
      simp only [Bool.and_eq_true, decide_eq_true_eq] at h
      obtain ⟨⟨h1, h2⟩, h3⟩ := h
      obtain ⟨n1, n2⟩ := okN_ok h3
      have := des_nm (T := T) (en := en) (Wx := Wx) (pos := by assumption) (by rw [J.I.hN]; exact h1) (visC_ok h2) n1 n2
      rw [show evalE P call mk false (.nm i) = nmE false i from by funext s; first | (rw [evalE]; done) | (rw [evalE]; rfl)]
      exact this
    · cases h
  | _ => exact des_gen (ea := fun esc s => evalE P call mk esc _ s) (sndE _ X en Wx hot b J.I h) fun i z => by cases z
theorem pars_ok {X : Cx} {Wx : WX} {en : Ent} {hot : Bool} (J : IhS X T P C call mk N hot en Wx) : ∀ {es : List E} {es' : List Expr}, plainArgs es' = true → chkEs C P N hot X.env.scope es es' = true → PA X es' (tDP T en Wx (evalPs P call mk es))
  | [], [], _, _ => by
    rw [show evalPs P call mk [] = fun s => .ok [] s from by funext s; rw [evalPs]]
    exact pa_evalPs_nil
  | [], _ :: _, _, h => by simp [chkEs] at h
  | _ :: _, [], _, h => by simp [chkEs] at h
  | e :: es, e' :: es', hp, h => by
    simp only [chkEs, Bool.and_eq_true] at h
    rw [show evalPs P call mk (e :: es) = fun s => ((fun esc s => evalE P call mk esc e s) true s).bind fun x s => (evalPs P call mk es s).bind fun xs s => .ok (x :: xs) s from by funext s; rw [evalPs]]
    exact pa_evalPs_cons (sndE e X en Wx hot e' J.I h.1) (pars_ok J (plainArgs_tl hp) h.2) (star_cons hp)
theorem evalPs_len : ∀ {es : List E} {s : Sta} {rs : List RV} {s' : Sta}, evalPs P call mk es s = .ok rs s' → rs.length = es.length
  | [], s, rs, s', h => by rw [evalPs] at h; cases h; rfl
  | e :: es, s, rs, s', h => by
    rw [evalPs] at h
    cases z : evalE P call mk true e s with
    | ok x s1 =>
      rw [z] at h
      simp only [Res.bind] at h
      cases z2 : evalPs P call mk es s1 with
      | ok xs s2 =>
        rw [z2] at h
        simp only [Res.ok.injEq] at h
        obtain ⟨rfl, _⟩ := h
        rw [List.length_cons, List.length_cons, evalPs_len z2]
      | exc c ns ds s2 => rw [z2] at h; cases h
      | bad => rw [z2] at h; cases h
    | exc c ns ds s2 => rw [z] at h; cases h
    | bad => rw [z] at h; cases h
theorem nms_ok {X : Cx} {Wx : WX} {en : Ent} {hot : Bool} (J : IhS X T P C call mk N hot en Wx) : ∀ {is : List Nat} {ts : List Expr}, plainArgs ts = true → chkNms N X.env.scope is ts = true → PGs X ts (gNames is)
  | [], [], _, _ => pgs_nil
  | [], _ :: _, _, h => by simp [chkNms] at h
  | _ :: _, [], _, h => by simp [chkNms] at h
  | i :: is, t :: ts, hp, h => by
    cases t <;> first | (simp [chkNms] at h; done) | skip
    simp only [chkNms, Bool.and_eq_true, decide_eq_true_eq] at h
    obtain ⟨h1, h2⟩ := J.tgt h.1.2
    exact pgs_cons (pg_name J.I.G.nd (by rw [J.I.hN]; exact h.1.1.2) h1 h2) (nms_ok J (plainArgs_tl hp) h.2) (by rw [asg_cons hp]; rfl)
theorem nms_nz {sc : Scope} : ∀ {is : List Nat} {ts : List Expr}, chkNms N sc is ts = true → ∀ k ∈ is, k ≠ 0
  | [], _, _, _, h => nomatch h
  | _ :: _, [], h, _, _ => by simp [chkNms] at h
  | i :: is, t :: ts, h, k, hk => by
    cases t <;> first | (simp [chkNms] at h; done) | skip
    simp only [chkNms, Bool.and_eq_true, decide_eq_true_eq] at h
    rcases List.mem_cons.mp hk with z | z
    · rw [z]; exact h.1.1.1
    · exact nms_nz h.2 k z
/-- x = e -/
theorem set_ok {X : Cx} {Wx : WX} {en : Ent} {hot : Bool} (J : IhS X T P C call mk N hot en Wx) {i : Nat} {x : Str} {q pos : Pos} {e : E} {a : Expr} (hz : i ≠ 0) (hi : N[i]? = some x) (ht : tgtC X.env.scope x = true) (h : chkE C P N hot X.env.scope e a = true) :
    PS X (.Assign [.Name x q] a pos) (tS T en Wx (setS i fun esc s => evalE P call mk esc e s)) := by
  have hs := sw_name (q := q) (x := x) J.kd (chk_setC h).1 (chk_setC h).2 pos.line
  obtain ⟨l1, l2⟩ := J.tgt ht
  cases sw : swB X.env.scope a x q with
  | false => rw [sw] at hs; exact st_setE hz J.ro J.I.G.nd (by rw [J.I.hN]; exact hi) l1 l2 (sndE e X en Wx hot a J.I h) hs
  | true =>
    rw [sw] at hs
    unfold swB at sw
    split at sw
    · rename_i el gs s p
      obtain ⟨r, elt, t, it, c, rfl⟩ := chk_lc h
      simp only [Bool.and_eq_true] at sw
      have hl : X.env.scope.names.lookup x = some .local := by simpa using sw.1.1
      unfold chkE at h
      split at h
      · rename_i ex elt' tg iter ifs scope pos' heq
        cases heq
        simp only [Bool.and_eq_true, Bool.not_eq_true'] at h
        obtain ⟨⟨⟨⟨⟨⟨h0, h1⟩, h2⟩, h3⟩, h4⟩, h5⟩, h6⟩ := h
        subst h0
        have I := J.I
        have hc := I.G.calm rfl
        have hblk : BlkOk X.N X.env.scope s (ownOf N (slotsT t)) := by rw [I.hN]; exact blkOk_by h1
        refine ps_congr (st_setLc (i := i) (rs := r) (et := evalC P call mk c) (ee := fun esc s => evalE P call mk esc elt s) (ei := fun esc s => evalI P call mk esc it s) hz J.ro hc I.G.nd (by rw [I.hN]; exact hi) hl hs (sndI it X en Wx false tg iter I h4) hblk own_snd
          (fun en' z s' H Ca cl fp => tg_ok (X := X.blk s' H s (compEnvC s cl Ca X.env) fp) I.hN I.G.nd I.G.F.K hc (fun x hx => blkT (sc0 := s) x hx) t tg h2) (fun en' z s' H Ca cl fp => ?_)
          (fun en' z s' H Ca cl fp => sndE elt _ en' WxF false el (I.blk z) h5) (folded h3)) fun s' => by
            show Res.out _ _ = Res.out _ _
            refine congrArg (fun r => Res.out r _) ?_
            show evalE P call mk true (.lc r elt t it c) s' = _
            first | (rw [evalE]; done) | (rw [evalE]; rfl)
        cases c with
        | none =>
          cases ifs with
          | nil => rw [show evalC P call mk none = fun s => .ok true s from by funext s; rw [evalC]]; exact pts_none
          | cons => simp at h6
        | some c =>
          match ifs, h6 with
          | [c'], h6 => rw [show evalC P call mk (some c) = fun s => ((fun esc s => evalE P call mk esc c s) false s).bind truth from by funext s; rw [evalC]]; exact pts_some (sndE c _ en' WxF false c' (I.blk z) h6)
      · cases h
    · cases sw
end
end Ev
end

section
/-! EvD6: the induction over statements. -/
namespace Ev
open PySem PySem.Spec PyProof.Rows L2

section
variable {T : Tx} {P : Prog} {C : Cfg} {call mk : Nat → List D → Mem → CRes} {N : List Str}
noncomputable def hdsOf (P : Prog) (call mk : Nat → List D → Mem → CRes) : List (Nat × Option Nat) → List (List S) → List Hd
  | h :: hs, b :: bs => (h.1, h.2, fun c ns ds s => evalSs P call mk (some (c, ns, ds)) b s) :: hdsOf P call mk hs bs
  | _, _ => []
theorem tryH_eq {c : Nat} {ns : List Nat} {ds : List D} {s : Sta} : ∀ {hs : List (Nat × Option Nat)} {bs : List (List S)}, evalHs P call mk c ns ds hs bs s = tryH P c ns ds (hdsOf P call mk hs bs) s
  | [], bs => by cases bs <;> simp [hdsOf, tryH, evalHs]
  | h :: hs, [] => by simp [hdsOf, tryH, evalHs]
  | h :: hs, b :: bs => by
    simp only [hdsOf, tryH, evalHs]
    cases isX P c h.1 with
    | none => rfl
    | some k => cases k with
      | true => cases h.2 <;> rfl
      | false => exact tryH_eq
theorem hds_lt {sc : Scope} : ∀ {hs : List (Nat × Option Nat)} {bs : List (List S)} {r : List ExceptHandler}, chkHs C P N sc hs bs r = true → ∀ h ∈ hdsOf P call mk hs bs, h.1 < P.excs.length ∧ ∀ i, h.2.1 = some i → i ≠ 0
  | [], _, _, _, _, hm => by rw [hdsOf] at hm; exact nomatch hm; all_goals (intros; simp_all)
  | _ :: _, [], _, h, _, _ => by rw [chkHs] at h; cases h; all_goals (intros; simp_all)
  | h :: hs, b :: bs, r, hc, k, hm => by
    rw [hdsOf] at hm
    unfold chkHs at hc
    split at hc
    · rename_i e; cases e
    · rename_i e1 e2
      cases e1; cases e2
      simp only [Bool.and_eq_true, decide_eq_true_eq] at hc
      rcases List.mem_cons.mp hm with z | z
      · rw [z]
        refine ⟨hc.1.1.1.2, fun i hi => ?_⟩
        have q := hc.1.1.2
        dsimp only at hi
        rw [hi] at q
        split at q
        · rename_i e; cases e
        · rename_i e
          cases e
          simp only [Bool.and_eq_true, decide_eq_true_eq] at q
          exact q.1.2
        · cases q
      · exact hds_lt hc.2 k z
    · cases hc
theorem names_ok {X : Cx} {Wx : WX} {en : Ent} {hot : Bool} (J : IhS X T P C call mk N hot en Wx) {c : Nat} {x : Str} (h1 : (C.ex[c]?).map (·.1) = some x) (g1 : glC X.env.scope x = true) (n1 : okN x = true) : Names X x (.ref (T.xa c)) := by
  rw [Option.map_eq_some_iff] at h1
  obtain ⟨y, e1, e2⟩ := h1
  exact ⟨glC_ok g1, (okN_ok n1).1, .inl (J.exN c x y.2 (by rw [e1, ← e2]))⟩
theorem aug_add : ∀ u w z, aug2 .add u w = some z → ∃ i j, u = .int i ∧ w = .int j ∧ z = .int (i + j) := fun u w z h => by
  unfold aug2 at h
  split at h <;> simp_all
theorem aug_sub : ∀ u w z, aug2 .sub u w = some z → ∃ i j, u = .int i ∧ w = .int j ∧ z = .int (i - j) := fun u w z h => by
  unfold aug2 at h
  split at h <;> simp_all
theorem Zc_fields {cls : Value} {d : Option Addr} : True := trivial
theorem pss_tsX {X : Cx} {sts : List Stmt} {a : Addr} {cls : Value} {d : Option Addr} {ev : Nat → List Nat → List D → Sta → Out}
    (h : ∀ (en : Ent) (c : Nat) (dx : Addr) (ns : List Nat) (ds : List D), d = some dx → cls = .ref (T.xa c) → en.xs = [(a, dx, c)] → en.ro = false → PSs X sts (tS T en WxF (ev c ns ds))) : PSs X sts (tsX T ev a cls d) :=
  ⟨fun pins s σ H D I ⟨en, c, dx, ns, ds, e1, e2, e3, e4, q⟩ => (h en c dx ns ds e1 e2 e3 e4).run pins s σ H D I q⟩
mutual
theorem sndS : ∀ (x : S) (X : Cx) (en : Ent) (Wx : WX) (hot : Bool) (cur : Cur) (st : Stmt), IhS X T P C call mk N hot en Wx → chkS C P N hot X.env.scope x st = true → PS X st (tS T en Wx (evalS P call mk cur x))
  | .asg t e, X, en, Wx, hot, cur, st, J, h => by
    unfold chkS at h
    split at h
    · simp only [Bool.and_eq_true, decide_eq_true_eq] at h
      exact ps_congr (set_ok J h.1.1.2 h.1.1.1 h.1.2 h.2) fun s => by first | (rw [evalS]; done) | (rw [evalS]; rfl)
    · simp only [Bool.and_eq_true, decide_eq_true_eq, Bool.not_eq_true'] at h
      obtain ⟨⟨⟨h0, h1⟩, h2⟩, h3⟩ := h
      exact ps_congr (st_asgT (sndE e X en Wx hot _ J.I h3) (tg_ok J.I.hN J.I.G.nd J.I.G.F.K (J.I.G.calm h0) (fun x hx => J.tgt hx) _ _ h2) (sole_tup _) (st_noTup h1) (by rfl)) fun s => by rw [evalS] <;> first | rfl | (intro i z; cases z)
    · cases h
  | .asgP is es, X, en, Wx, hot, cur, st, J, h => by
    have q0 : ∀ s, evalS P call mk cur (.asgP is es) s = setPS is (evalPs P call mk es) s := fun s => by first | (rw [evalS]; done) | (rw [evalS]; rfl)
    unfold chkS at h
    split at h
    · rename_i i j x p y q _ _ es' _ _ _
      simp only [Bool.and_eq_true, decide_eq_true_eq, Bool.not_eq_true', Bool.or_eq_true] at h
      obtain ⟨⟨⟨⟨⟨⟨⟨h0, h1⟩, h2⟩, h3⟩, h4⟩, h5⟩, h6⟩, h7⟩ := h
      have hc := J.I.G.calm h0
      have hp := pars_ok J h1 h6
      have hl := chkEs_len h6
      refine ps_congr ?_ q0
      rcases h7 with h7 | h7
      · match es', h5, h1, h7, hp with
        | [a, b], h5, h1, h7, hp =>
          have hh := h7
          unfold par2C isLoc at hh
          simp only [Bool.and_eq_true, decide_eq_true_eq] at hh
          exact st_par2 (by simp [h4.1, h4.2.1]) J.ro hc J.I.G.nd (by rw [J.I.hN]; exact h2) (by rw [J.I.hN]; exact h3) h4.2.2 hh.1.1.1.1.1 hh.1.1.1.1.2 hp (fun s rs s' z => by rw [evalPs_len z, hl, h5]) (st_2 J.kd h1 h5 h7) (sole_tup _)
      · have hp2 : plainArgs [Expr.Name x p, Expr.Name y q] = true := rfl
        exact st_parN (n := 2) (by simp [h4.1, h4.2.1]) J.ro hc (nms_ok J hp2 (by simp [chkNms, h2, h3, h4.1, h4.2.1, h7.1.2, h7.2])) hp (fun s rs s' z => by rw [evalPs_len z, hl, h5]) rfl (by decide) (asg_len hp2) (asg_find hp2) (st_N (by simp [parNC, h7.1.1])) (sole_tup _) (by rfl)
    · rename_i i j l x p y q z r _ _ es' _ _ _
      simp only [Bool.and_eq_true, decide_eq_true_eq, Bool.not_eq_true', Bool.or_eq_true] at h
      obtain ⟨⟨⟨⟨⟨⟨⟨⟨⟨⟨h0, h1⟩, h2⟩, h3⟩, h3b⟩, h4⟩, h4b⟩, h4c⟩, h5⟩, h6⟩, h7⟩ := h
      have hc := J.I.G.calm h0
      have hp := pars_ok J h1 h6
      have hl := chkEs_len h6
      refine ps_congr ?_ q0
      rcases h7 with h7 | h7
      · match es', h5, h1, h7, hp with
        | [a, b, c], h5, h1, h7, hp =>
          have hh := h7
          unfold par3C isLoc at hh
          simp only [Bool.and_eq_true, decide_eq_true_eq] at hh
          exact st_par3 (by simp [h4.1, h4.2.1, h4.2.2.1]) J.ro hc J.I.G.nd (by rw [J.I.hN]; exact h2) (by rw [J.I.hN]; exact h3) (by rw [J.I.hN]; exact h3b) h4.2.2.2 h4b h4c hh.1.1.1.1.1.1.1.1.1 hh.1.1.1.1.1.1.1.1.2 hh.1.1.1.1.1.1.1.2 hp (fun s rs s' z => by rw [evalPs_len z, hl, h5]) (st_3 J.kd h1 h5 h7) (sole_tup _)
      · have hp2 : plainArgs [Expr.Name x p, Expr.Name y q, Expr.Name z r] = true := rfl
        exact st_parN (n := 3) (by simp [h4.1, h4.2.1, h4.2.2.1]) J.ro hc (nms_ok J hp2 (by simp [chkNms, h2, h3, h3b, h4.1, h4.2.1, h4.2.2.1, h7.1.1.2, h7.1.2, h7.2])) hp (fun s rs s' z => by rw [evalPs_len z, hl, h5]) rfl (by decide) (asg_len hp2) (asg_find hp2) (st_N (by simp [parNC, h7.1.1.1])) (sole_tup _) (by rfl)
    · rename_i ts _ _ es' _ _ _ _ _
      simp only [Bool.and_eq_true, decide_eq_true_eq, Bool.not_eq_true'] at h
      obtain ⟨⟨⟨⟨⟨⟨⟨⟨h0, h1⟩, h2⟩, h3⟩, h4⟩, h5⟩, h6⟩, h7⟩, h8⟩ := h
      have hl := chkEs_len h8
      exact ps_congr (st_parN (n := is.length) (nms_nz h6) J.ro (J.I.G.calm h0) (nms_ok J h2 h6) (pars_ok J h1 h8) (fun s rs s' z => by rw [evalPs_len z, hl, h4]) rfl (by unfold lim; omega) (by rw [asg_len h2, h3]) (asg_find h2) (st_N h7) (sole_tup _) (by rfl)) q0
    · cases h
  | .setF o f e, X, en, Wx, hot, cur, st, J, h => by
    unfold chkS at h
    split at h
    · simp only [Bool.and_eq_true, decide_eq_true_eq] at h
      obtain ⟨⟨h1, h2⟩, h3⟩ := h
      rw [← h1, ← J.I.G.fld f]
      exact ps_congr (st_fld J.I.G.F (des_ok J h2) (sndE e X en Wx hot _ J.I h3) (sw_other (fun y p z => by cases z) _)) fun s => by first | (rw [evalS]; done) | (rw [evalS]; rfl)
    · cases h
  | .setFs _ _ _, X, en, Wx, hot, cur, st, J, h => by unfold chkS at h; cases h
  | .setI o i e, X, en, Wx, hot, cur, st, J, h => by
    unfold chkS at h
    split at h
    · rename_i b c q a p
      simp only [Bool.and_eq_true, Bool.not_eq_true'] at h
      obtain ⟨⟨⟨h1, h2⟩, h3⟩, h4⟩ := h
      exact ps_congr (st_setI J.I.G.F (des_ok J h2) (sndE i X en Wx hot _ J.I h3) (sndE e X en Wx hot _ J.I h4) (fun v => by cases c <;> first | rfl | (exfalso; cases h1; done)) (sole_sub _) (by cases a <;> rfl) (by rfl)) fun s => by first | (rw [evalS]; done) | (rw [evalS]; rfl)
    · cases h
  | .augN op i e, X, en, Wx, hot, cur, st, J, h => by
    unfold chkS at h
    split at h
    · simp only [Bool.and_eq_true, decide_eq_true_eq] at h
      obtain ⟨⟨⟨⟨h1, hz⟩, h2⟩, h3⟩, h4⟩ := h
      obtain ⟨l1, l2⟩ := J.tgt h2
      cases op <;> first | (exfalso; simp [augB] at h3; done) | skip
      · simp only [augB, decide_eq_true_eq] at h3
        subst h3
        exact ps_congr (st_aug hz J.I.G.nd (by rw [J.I.hN]; exact h1) l1 l2 (sndE e X en Wx hot _ J.I h4) ip_add aug_add) fun s => by first | (rw [evalS]; done) | (rw [evalS]; rfl)
      · simp only [augB, decide_eq_true_eq] at h3
        subst h3
        exact ps_congr (st_aug hz J.I.G.nd (by rw [J.I.hN]; exact h1) l1 l2 (sndE e X en Wx hot _ J.I h4) ip_sub aug_sub) fun s => by first | (rw [evalS]; done) | (rw [evalS]; rfl)
    · cases h
  | .augF _ _ _ _, X, en, Wx, hot, cur, st, J, h => by unfold chkS at h; cases h
  | .augI _ _ _ _, X, en, Wx, hot, cur, st, J, h => by unfold chkS at h; cases h
  | .app o e, X, en, Wx, hot, cur, st, J, h => by
    unfold chkS at h
    split at h
    · simp only [Bool.and_eq_true, decide_eq_true_eq, Bool.not_eq_true'] at h
      obtain ⟨⟨⟨⟨⟨rfl, h1⟩, h2⟩, h3⟩, h4⟩, h5⟩ := h
      exact ps_congr (st_app J.I.G.F (des_ok J h4) (sndE e X en Wx hot _ J.I h5) (attr_base h1) h2 (star1 h3) (sw_none (by rfl) _)) fun s => by first | (rw [evalS]; done) | (rw [evalS]; rfl)
    · cases h
  | .ext o e, X, en, Wx, hot, cur, st, J, h => by
    unfold chkS at h
    split at h
    · simp only [Bool.and_eq_true, decide_eq_true_eq, Bool.not_eq_true'] at h
      obtain ⟨⟨⟨⟨⟨rfl, h1⟩, h2⟩, h3⟩, h4⟩, h5⟩ := h
      exact ps_congr (st_ext J.I.G.F (des_ok J h4) (sndE e X en Wx hot _ J.I h5) (attr_base h1) h2 (star1 h3) (sw_none (by rfl) _)) fun s => by first | (rw [evalS]; done) | (rw [evalS]; rfl)
    · cases h
  | .ins o i e, X, en, Wx, hot, cur, st, J, h => by
    unfold chkS at h
    split at h
    · simp only [Bool.and_eq_true, decide_eq_true_eq, Bool.not_eq_true'] at h
      obtain ⟨⟨⟨⟨⟨⟨rfl, h1⟩, h2⟩, h3⟩, h4⟩, h5⟩, h6⟩ := h
      exact ps_congr (st_ins J.I.G.F (des_ok J h4) (sndE i X en Wx hot _ J.I h5) (sndE e X en Wx hot _ J.I h6) (attr_base h1) h2 (star2 h3) (star1 (plainArgs_tl h3)) (sw_none (by rfl) _)) fun s => by first | (rw [evalS]; done) | (rw [evalS]; rfl)
    · cases h
  | .upd _ _, X, en, Wx, hot, cur, st, J, h => by unfold chkS at h; cases h
  | .expr e, X, en, Wx, hot, cur, st, J, h => by
    unfold chkS at h
    split at h
    · simp only [Bool.and_eq_true, Bool.not_eq_true'] at h
      exact ps_congr (st_expr (sndE e X en Wx hot _ J.I h.2) (sw_none h.1 _)) fun s => by first | (rw [evalS]; done) | (rw [evalS]; rfl)
    · cases h
  | .iff c a b, X, en, Wx, hot, cur, st, J, h => by
    unfold chkS at h
    split at h
    · simp only [Bool.and_eq_true] at h
      exact ps_congr (st_if (sndE c X en Wx hot _ J.I h.1.1) (sndSs a X en Wx hot cur _ J h.1.2) (sndSs b X en Wx hot cur _ J h.2)) fun s => by first | (rw [evalS]; done) | (rw [evalS]; rfl)
    · cases h
  | .wh c b, X, en, Wx, hot, cur, st, J, h => by
    unfold chkS at h
    split at h
    · simp only [Bool.and_eq_true, Bool.not_eq_true'] at h
      exact ps_congr (st_while (J.own h.1.1) (sndE c X en Wx hot _ J.I h.1.2) (sndSs b X en Wx hot cur _ J h.2)) fun s => by first | (rw [evalS]; done) | (rw [evalS]; rfl)
    · cases h
  | .for_ t it b, X, en, Wx, hot, cur, st, J, h => by
    unfold chkS at h
    split at h
    · simp only [Bool.and_eq_true, Bool.not_eq_true'] at h
      obtain ⟨⟨⟨⟨h0, h1⟩, h2⟩, h3⟩, h4⟩ := h
      exact ps_congr (st_for (J.own h0) (J.I.G.calm h0) (sndI it X en Wx hot _ _ J.I h3) (tg_ok J.I.hN J.I.G.nd J.I.G.F.K (J.I.G.calm h0) (fun x hx => J.tgt hx) t _ h2) (sndSs b X en Wx hot cur _ J h4) (folded h1)) fun s => by first | (rw [evalS]; done) | (rw [evalS]; rfl)
    · cases h
  | .ret e, X, en, Wx, hot, cur, st, J, h => by
    unfold chkS at h
    split at h
    · exact ps_congr st_retN fun s => by first | (rw [evalS]; done) | (rw [evalS]; rfl)
    · unfold cNm at h
      simp only [Bool.and_eq_true, decide_eq_true_eq] at h
      obtain ⟨n1, n2⟩ := okN_ok h.2
      exact ps_congr (st_retNm (by rw [J.I.hN]; exact h.1.1) (visC_ok h.1.2) n1 n2) fun s => by first | (rw [evalS]; done) | (rw [evalS]; rfl)
    · cases h
    · rename_i e a p _ hn
      exact ps_congr (st_ret (sndE e X en Wx hot _ J.I h)) fun s => by first | (rw [evalS]; exact hn) | (rw [evalS]; rfl; exact hn)
    · cases h
  | .raise c es, X, en, Wx, hot, cur, st, J, h => by
    unfold chkS at h
    split at h
    · rename_i x np a p p2
      simp only [Bool.and_eq_true, decide_eq_true_eq, Bool.not_eq_true'] at h
      obtain ⟨⟨⟨⟨⟨⟨h0, h1⟩, h2⟩, h3⟩, hk⟩, h4⟩, h5⟩ := h
      split at h2
      · rename_i y z e1 e2
        have e3 : y.1 = [z.2] := of_decide_eq_true h2
        rw [e2] at h1
        have e4 : z.1 = x := by simpa using h1
        have hl := chkEs_len h5
        have E1 := J.exn h0 c x z.2 y (by rw [e2, ← e4]) e1 e3 (glC_ok h3) hk
        refine ps_congr (st_raise E1 rfl (J.I.G.calm h0) (J.I.G.tk h0) noPass (sndEs es X en Wx hot _ J.I h4 h5) (fun s ds s' w => by rw [evalEs_length es s ds s' w, hl]; rfl) (star_cons h4)) fun s => ?_
        rw [evalS]
        cases w : evalEs P call mk es s with
        | bad => rfl
        | exc c ns ds s' => rfl
        | ok ds s' =>
          have : ds.length = 1 := by rw [evalEs_length es s ds s' w, hl]; rfl
          simp [Res.out, e1, e3, this]
      · cases h2
    · cases h
  | .reraise, X, en, Wx, hot, cur, st, J, h => by unfold chkS at h; cases h
  | .try_ b hs bs, X, en, Wx, hot, cur, st, J, h => by
    unfold chkS at h
    split at h
    · simp only [Bool.and_eq_true, Bool.not_eq_true'] at h
      obtain ⟨⟨h0, h1⟩, h2⟩ := h
      subst h0
      refine ps_congr (st_try (l := hdsOf P call mk hs bs) (eb := evalSs P call mk cur b) J.I.G.EF (J.I.hx rfl) J.ro (J.st rfl) (J.fr rfl) J.I.G.nd (J.I.G.tk rfl) (hds_lt h2) (fun W pn xe tk po => sndSs b _ en W false cur _ (J.tr tk po) h1) (sndHs hs bs X en Wx _ J h2)) fun s => ?_
      rw [evalS]
      cases evalSs P call mk cur b s <;> first | rfl | exact tryH_eq
    · cases h
  | .pass, X, en, Wx, hot, cur, st, J, h => by
    unfold chkS at h
    split at h
    · exact ps_congr st_pass fun s => by first | (rw [evalS]; done) | (rw [evalS]; rfl)
    · cases h
  | .kill _, X, en, Wx, hot, cur, st, J, h => by unfold chkS at h; cases h
theorem sndSs : ∀ (xs : List S) (X : Cx) (en : Ent) (Wx : WX) (hot : Bool) (cur : Cur) (sts : List Stmt), IhS X T P C call mk N hot en Wx → chkSs C P N hot X.env.scope xs sts = true → PSs X sts (tS T en Wx (evalSs P call mk cur xs))
  | [], X, en, Wx, hot, cur, sts, J, h => by
    unfold chkSs at h
    split at h
    · exact pss_congr ss_nil fun s => by rw [evalSs]
    · rename_i e; cases e
    · rename_i e; cases e
    · cases h
  | x :: xs, X, en, Wx, hot, cur, sts, J, h => by
    unfold chkSs at h
    split at h
    · rename_i e; cases e
    · rename_i sts' is xs' e
      cases e
      exact pss_congr (ss_kill (is := is) (sndSs xs X en Wx hot cur _ J h)) fun s => by first | (rw [evalSs, evalS]; done) | (rw [evalSs, evalS]; rfl)
    · rename_i x' xs' st sts' hk e
      cases e
      simp only [Bool.and_eq_true] at h
      exact pss_congr (ss_cons (sndS x X en Wx hot cur _ J h.1) (sndSs xs X en Wx hot cur _ J h.2)) fun s => by rw [evalSs] <;> (cases evalS P call mk cur x s <;> rfl)
    · cases h
theorem sndHs : ∀ (hs : List (Nat × Option Nat)) (bs : List (List S)) (X : Cx) (en : Ent) (Wx : WX) (r : List ExceptHandler), IhS X T P C call mk N false en Wx → chkHs C P N X.env.scope hs bs r = true → HdsA X r (hdL T (hdsOf P call mk hs bs))
  | [], bs, X, en, Wx, r, J, h => by
    unfold chkHs at h
    split at h
    · exact .nil
    · contradiction
    · cases h
  | h0 :: hs, [], X, en, Wx, r, J, h => by simp [chkHs] at h
  | h0 :: hs, b :: bs, X, en, Wx, r, J, h => by
    unfold chkHs at h
    split at h
    · rename_i e; cases e
    · rename_i h1 hs' b' bs' x np n s0 suite p r' e1 e2
      cases e1; cases e2
      simp only [Bool.and_eq_true, decide_eq_true_eq] at h
      obtain ⟨⟨⟨⟨⟨⟨q1, q2⟩, q3⟩, q4⟩, q5⟩, q6⟩, q7⟩ := h
      rw [hdsOf]
      refine HdsA.cons (names_ok J q1 q2 q3) ?_ (fun a oe cls d pn hz hd => pss_tsX fun en' c dx ns ds e1 e2 e3 e4 => ?_) (sndHs hs bs X en Wx _ J q7)
      · cases n with
        | none =>
          cases h' : h0.2 with
          | none => trivial
          | some i => rw [h'] at q5; cases q5
        | some y =>
          cases h' : h0.2 with
          | none => rw [h'] at q5; cases q5
          | some i =>
            rw [h'] at q5
            simp only [Bool.and_eq_true, decide_eq_true_eq] at q5
            exact ⟨by rw [J.I.hN]; exact q5.1.1, of_decide_eq_true q5.2⟩
      · subst e1 e2
        exact sndSs b _ en' WxF true (some (c, ns, ds)) _ (J.suite hz hd e3 e4) q6
    · cases h
end
end
end Ev
end

section
/-! EvE1: a def that the checker passes keeps its promise. -/
namespace Ev
open PySem PySem.Spec PyProof.Rows L2

section
variable {T : Tx} {P : Prog} {C : Cfg} {call mk : Nat → List D → Mem → CRes}
abbrev ent (H W : L2.Hp) (io : List Addr) : Ent := ⟨H, W, io, [], false, none⟩
theorem slots_len {fn : Fn} {l : List SV} (h : l.length ≤ fn.ns) : (slots0 fn l).length = fn.ns := by
  unfold slots0
  rw [List.length_append, List.length_replicate]
  omega
theorem slots_get {fn : Fn} {l : List SV} {i : Nat} (h : l.length ≤ i) : look (slots0 fn l) i = .un := by
  unfold look slots0
  rw [List.getElem?_append_right h, List.getElem?_replicate]
  split <;> rfl
theorem slots_lo {fn : Fn} {l : List SV} {i : Nat} {x : SV} (h : l[i]? = some x) : look (slots0 fn l) i = x := by
  unfold look slots0
  rw [List.getElem?_append_left (List.getElem?_eq_some_iff.mp h).1, h]
  rfl
theorem start_lo {N : List Str} {vs : List V} {i : Nat} {v : V} (h : vs[i]? = some v) : (L2.start N vs)[i]? = some (some v) := by
  unfold L2.start
  rw [List.getElem?_append_left (by rw [List.length_map]; exact (List.getElem?_eq_some_iff.mp h).1), List.getElem?_map, h]
  rfl
theorem repL_get {W : L2.Hp} {io : List Addr} : ∀ {ds : List D} {vs : List V} {i : Nat} {d : D}, RepL T W io ds vs → ds[i]? = some d → ∃ v, vs[i]? = some v ∧ Rep T W io d v
  | [], _, i, d, _, h => by simp at h
  | x :: ds, vs, i, d, r, h => by
    simp only [RepL] at r
    obtain ⟨v, us, rfl, r1, r2⟩ := r
    cases i with
    | zero => simp at h; subst h; exact ⟨v, rfl, r1⟩
    | succ i =>
      obtain ⟨v', e, rv⟩ := repL_get (i := i) r2 (by simpa using h)
      exact ⟨v', by simpa using e, rv⟩
/-- the start -/
theorem rel_start {fn : Fn} {N : List Str} {W H : L2.Hp} {io : List Addr} {hp : Mem} {ds : List D} {vs : List V} (hr : HRel T W io hp H) (r : RepL T W io ds vs) (hn : fn.ns = N.length) (hl : vs.length ≤ N.length) :
    Rel T (ent H W io) ⟨W, io, []⟩ ⟨slots0 fn (ds.map .val), hp⟩ (L2.start N vs) H := by
  have hlen := r.length
  have hlk : ∀ i, look (slots0 fn (ds.map SV.val)) i = .un ∨ ∃ d v, look (slots0 fn (ds.map SV.val)) i = .val d ∧ (L2.start N vs)[i]? = some (some v) ∧ Rep T W io d v := fun i => by
    cases z : ds[i]? with
    | none => exact .inl (slots_get (by rw [List.length_map]; exact List.getElem?_eq_none_iff.mp z))
    | some d =>
      obtain ⟨v, e, rv⟩ := repL_get r z
      exact .inr ⟨d, v, slots_lo (by rw [List.getElem?_map, z]; rfl), start_lo e, rv⟩
  refine ⟨hr.sub, ?_, fun i => ?_, fun i j d e a h1 => ?_, hr.mem, hr.nd, fun i d h => ?_, fun a h => (nomatch h), fun a o h _ => h, fun a h => (nomatch h), fun a h => .inl h, fun a h => h, fun a h => h, fun a _ h => h, ⟨fun _ i d h => ?_, fun _ z => (nomatch z)⟩⟩
  · show (slots0 fn (ds.map SV.val)).length = (L2.start N vs).length
    rw [slots_len (by rw [List.length_map]; omega), hn]
    unfold L2.start
    rw [List.length_append, List.length_map, List.length_replicate]
    omega
  · rcases hlk i with e | ⟨d, v, e, e2, rv⟩
    · show SlotR T [] _ H _ (look (slots0 fn (ds.map SV.val)) i)
      rw [e]; trivial
    · show SlotR T [] _ H _ (look (slots0 fn (ds.map SV.val)) i)
      rw [e]; exact ⟨v, e2, rv⟩
  · have h1 : look (slots0 fn (ds.map SV.val)) i = .own d := h1
    rcases hlk i with e | ⟨d, v, e, e2, rv⟩ <;> (rw [e] at h1; cases h1)
  · obtain ⟨a, e1, e2, e3⟩ := hr.heap i d h
    exact ⟨a, e1, e2, e3, fun h => nomatch h⟩
  · have h : look (slots0 fn (ds.map SV.val)) i = .ro d := h
    rcases hlk i with e | ⟨d, v, e, e2, rv⟩ <;> (rw [e] at h; cases h)
theorem rel_cstep {W H H' : L2.Hp} {io : List Addr} {g' : Gh} {s' : Sta} {σ' : L2.St} (R : Rel T (ent H W io) g' s' σ' H') (m : Gm ⟨W, io, []⟩ g') : CStep W io H g'.W g'.io H' fun _ => False :=
  ⟨m.1, m.2, fun a o h hn _ => R.base a o h hn, R.tr, R.ioF, fun a h _ hw => R.wn a h hw⟩
theorem fin_ok {W H : L2.Hp} {io : List Addr} {Q : VK} {E : XK} {o : Out} (h : CPost T W io H (fun _ => False) (fin o) Q E) :
    OOK T (ent H W io) (fun c d _ H' => E c d H') ⟨W, io, []⟩ { nx := fun _ H' => Q .non H', rt := Q } o := by
  cases o with
  | next s' => exact fun g' σ' H' R m => h g'.W g'.io H' .non R.hrel (rel_cstep R m) (by unfold RetR; simp [Rep])
  | ret d fr s' => exact fun g' σ' H' v R m rv => h g'.W g'.io H' v R.hrel (rel_cstep R m) (by unfold RetR at rv ⊢; exact rv)
  | exc c ns ds s' => exact fun g' σ' H' dx R m xr => h g'.W g'.io H' dx R.hrel (rel_cstep R m) xr
  | bad => exact h
/-- a def by its body, no repr under way around it -/
theorem fn_ofG {CX : CXT} {Pg : Program} {w : World} {K : PySem.W.Frag} {mg : Str → Option Value} {base : Heap} {k : Nat} {f : Addr} {name qual : Str} {params : Arguments} {body : List Stmt} {scope : Scope} {dV kV doc pm cdv ct oc : Value} {an od : Option Addr}
    {osl : Array (Option Value)} {N ps : List Str} {sp : Sp} (lk : K.lookup f = some ⟨oc, od, .func (PySem.W.fnOf name qual params body scope dV kV doc pm an cdv ct), osl⟩) (hcd : PySem.W.codeIn K cdv qual = true) (S : FnScope N ps scope)
    (len : ∀ vs H Q E, sp vs H Q E → vs.length = ps.length)
    (hbody : ∀ (A : Around) (outer : List Env) (s : Shared) (H : L2.Hp) (vs : List V) (Q : VK) (E : XK), A.guards = some [] → Room k (A.deeper (envOfC qual scope s.heap.objs.size f cdv)) → sp vs H Q E →
      ∃ t, PSs (cxOf CX Pg w K mg base N qual scope f cdv A outer s H E) body t ∧ t { nx := fun _ H' => Q .non H', rt := Q } (L2.start N vs) H) :
    FnG Pg w K mg base CX (k + 1) f (PySem.W.fnOf name qual params body scope dV kV doc pm an cdv ct) ps sp := by
  constructor
  · exact len
  intro A outer s H args us vs Q E hg hr e0 hb r hsp
  have many : vs.length = ps.length := len _ _ _ _ hsp
  have here : ∀ b o, base.get? b = some o → s.heap.get? b = some o := fun b o e => (e0.bs b o e).1
  have KX : K.In s.heap := e0.mod.kin.keeps here
  have free : s.heap.NoLimit := e0.mod.nolimit.keeps here
  refine codeAny_call_function hr.depth (KX _ _ lk) rfl S.co S.gen rfl (PySem.W.codeRec_of KX hcd) (hb _ _ _ _ (wpAny_newFunctionEnv_cells S.kind ?names fun env he s1 x => ?_))
  case names =>
    intro y hy
    have q := S.par y.1 (List.of_mem_zip (show (y.1, y.2) ∈ ps.zip us from hy)).1
    exact q.imp id fun z => ⟨z, PySem.W.cellsFrom_some _ _ _ (.inl z)⟩
  cases he
  refine ⟨free.keeps x.toInCall.keep, codeAny_func ?_⟩
  have I : Inv (cxOf CX Pg w K mg base N qual scope f cdv A outer s H E) [] (L2.start N vs) H s1 := inv_start S hr.hd e0 many r x
  obtain ⟨t, ht, hq⟩ := hbody A outer s H vs Q E hg (hr.deeper _) hsp
  refine wpAny_mono (ht.run [] s1 (L2.start N vs) H _ I hq) (fun fl s' z => ?_) fun _ _ z => z
  match fl, z with
  | .ret u, ⟨v, σ', H', J, rv, q⟩ => exact ⟨v, H', J.os, J.bare, J.base, J.hok, rv, q⟩
  | .next, ⟨σ', H', J, q⟩ => exact ⟨.non, H', J.os, J.bare, J.base, J.hok, rfl, q⟩
  | .brk, ⟨_, _, _, q⟩ => exact q.elim
  | .cont, ⟨_, _, _, q⟩ => exact q.elim
/-- THE RULE: a def of the text -/
theorem fn_snd {Pg : Program} {w : World} {K : PySem.W.Frag} {mg : Str → Option Value} {base : Heap} {k : Nat} {f : Addr} {name qual : Str} {params : Arguments} {body : List Stmt} {scope : Scope} {dV kV doc pm cdv ct oc : Value} {an od : Option Addr}
    {osl : Array (Option Value)} {N ps : List Str} {fn : Fn} (lk : K.lookup f = some ⟨oc, od, .func (PySem.W.fnOf name qual params body scope dV kV doc pm an cdv ct), osl⟩) (hcd : PySem.W.codeIn K cdv qual = true) (S : FnScope N ps scope)
    (hns : fn.ns = N.length) (hchk : chkSs C P N false scope fn.body body = true)
    (hG : ∀ (A : Around) (outer : List Env) (s : Shared) (H : L2.Hp) (E : XK), A.guards = some [] → Room k (A.deeper (envOfC qual scope s.heap.objs.size f cdv)) →
      (∀ Wx, Takes (cxOf (L2.CX Pg w) Pg w K mg base N qual scope f cdv A outer s H E) Wx → Good (cxOf (L2.CX Pg w) Pg w K mg base N qual scope f cdv A outer s H E) T P C call mk false Wx) ∧
      (∀ c x f, C.ex[c]? = some (x, f) → mg x = some (.ref (T.xa c))) ∧
      ∀ c x f' y, C.ex[c]? = some (x, f') → P.excs[c]? = some y → y.1 = [f'] → Gl (cxOf (L2.CX Pg w) Pg w K mg base N qual scope f cdv A outer s H E) x → okN x = true → Exc1 (cxOf (L2.CX Pg w) Pg w K mg base N qual scope f cdv A outer s H E) x (T.xa c) (T.fld f')) :
    FnG Pg w K mg base (L2.CX Pg w) (k + 1) f (PySem.W.fnOf name qual params body scope dV kV doc pm an cdv ct) ps (spF T ps.length fun ds h => fin (evalSs P call mk none fn.body ⟨slots0 fn (ds.map .val), h⟩)) := by
  refine fn_ofG lk hcd S (fun vs H Q E h => h.1) fun A outer s H vs Q E hgd hr ⟨hl, W, io, hp, ds, h1, h2, h3⟩ => ?_
  obtain ⟨g1, g2, g3⟩ := hG A outer s H E hgd hr
  have hpl : ps.length ≤ N.length := by have := congrArg List.length S.pre; rw [List.length_take] at this; omega
  have tk : Takes (cxOf (L2.CX Pg w) Pg w K mg base N qual scope f cdv A outer s H E) (fun c d _ H' => E c d H') := takes_of rfl rfl rfl (E₁ := fun e' s'' => L2.CX Pg w outer H s E e' s'') rfl
  have J : IhS (cxOf (L2.CX Pg w) Pg w K mg base N qual scope f cdv A outer s H E) T P C call mk N false (ent H W io) (fun c d _ H' => E c d H') :=
    ⟨⟨g1 _ tk, rfl, fun _ => rfl, fun a dx c h => (nomatch h)⟩, S.kind, fun _ _ => rfl, fun _ => passes_of rfl, fun _ => rfl, fun _ => rfl, rfl, g2, fun _ => g3⟩
  refine ⟨tS T (ent H W io) (fun c d _ H' => E c d H') (evalSs P call mk none fn.body), sndSs fn.body _ _ _ false none body J hchk, ⟨⟨W, io, []⟩, ⟨slots0 fn (ds.map .val), hp⟩, rel_start h1 h2 hns (by rw [hl]; exact hpl), fin_ok h3⟩⟩
end
end Ev
end

section
/-! EvE2: an own __init__ that the checker passes keeps its promise. -/
namespace Ev
open PySem PySem.Spec PyProof.Rows L2

section
variable {T : Tx} {P : Prog} {C : Cfg} {call mk : Nat → List D → Mem → CRes}
theorem dl_same {H : L2.Hp} {x : Addr} : del H x x = none := by simp [del]
theorem dl_ne {H : L2.Hp} {x a : Addr} (h : a ≠ x) : del H x a = H a := by simp [del, h]
abbrev entI (H W : L2.Hp) (io : List Addr) (x : Addr) : Ent := ⟨del H x, W, io, [], false, some (.ref x)⟩
theorem rel_startI {fn : Fn} {N : List Str} {W H : L2.Hp} {io : List Addr} {hp : Mem} {ds : List D} {us : List V} {x dx : Addr} {c : Nat} (hr : HRel T W io hp H) (r : RepL T W io ds us) (hn : fn.ns = N.length) (hl : us.length + 1 ≤ N.length)
    (hx : H x = some (.ins (T.ca c) dx [])) (hw : W x = none) (hio : x ∉ io) :
    Rel T (entI H W io x) ⟨W, io, [x]⟩ ⟨slots0 fn (.own (.obj c [] []) :: ds.map .val), hp⟩ (L2.start N (.ref x :: us)) H := by
  have hlen := r.length
  have h0 : look (slots0 fn (.own (.obj c [] []) :: ds.map SV.val)) 0 = .own (.obj c [] []) := slots_lo rfl
  have s0 : (L2.start N (.ref x :: us))[0]? = some (some (.ref x)) := start_lo rfl
  have hlk : ∀ i, look (slots0 fn (.own (.obj c [] []) :: ds.map SV.val)) (i + 1) = .un ∨ ∃ d v, look (slots0 fn (.own (.obj c [] []) :: ds.map SV.val)) (i + 1) = .val d ∧ (L2.start N (.ref x :: us))[i + 1]? = some (some v) ∧ Rep T W io d v := fun i => by
    cases z : ds[i]? with
    | none => exact .inl (slots_get (by rw [List.length_cons, List.length_map]; have := List.getElem?_eq_none_iff.mp z; omega))
    | some d =>
      obtain ⟨v, e, rv⟩ := repL_get r z
      exact .inr ⟨d, v, slots_lo (by rw [List.getElem?_cons_succ, List.getElem?_map, z]; rfl), start_lo (by rw [List.getElem?_cons_succ]; exact e), rv⟩
  have only : ∀ i d, look (slots0 fn (.own (.obj c [] []) :: ds.map SV.val)) i = .own d → i = 0 := fun i d e => by
    cases i with
    | zero => rfl
    | succ i => rcases hlk i with q | ⟨_, _, q, _⟩ <;> (rw [q] at e; cases e)
  refine ⟨hr.sub, ?_, fun i => ?_, fun i j d e a h1 h2 _ _ => ?_, hr.mem, hr.nd, fun i d h => ?_, fun a h => ?_, fun a o h _ => ?_, fun a h => ?_, fun a h => .inl h, fun a h => ?_, fun a h => h, fun a _ h => h, ⟨fun _ i d h => ?_, fun v e => ?_⟩⟩
  · show (slots0 fn (.own (.obj c [] []) :: ds.map SV.val)).length = (L2.start N (.ref x :: us)).length
    rw [slots_len (by rw [List.length_cons, List.length_map]; omega), hn]
    unfold L2.start
    rw [List.length_append, List.length_map, List.length_replicate, List.length_cons]
    omega
  · cases i with
    | zero =>
      show SlotR T [] _ H _ (look (slots0 fn (.own (.obj c [] []) :: ds.map SV.val)) 0)
      rw [h0]
      exact ⟨x, s0, ⟨dx, [], hx, rfl, RepL.nil⟩, List.mem_cons_self, hio, hw⟩
    | succ i =>
      show SlotR T [] _ H _ (look (slots0 fn (.own (.obj c [] []) :: ds.map SV.val)) (i + 1))
      rcases hlk i with e | ⟨d, v, e, e2, rv⟩
      · rw [e]; trivial
      · rw [e]; exact ⟨v, e2, rv⟩
  · rw [only i d h1, only j e h2]
  · obtain ⟨a, e1, e2, e3⟩ := hr.heap i d h
    refine ⟨a, e1, e2, e3, fun h => ?_⟩
    rw [List.mem_singleton.mp h] at e1
    exact hio (List.mem_of_getElem? e1)
  · rw [List.mem_singleton.mp h, hx]; simp
  · have h : del H x a = some o := h
    by_cases z : a = x
    · rw [z, dl_same] at h; cases h
    · rw [dl_ne z] at h; exact h
  · rw [List.mem_singleton.mp h]; exact dl_same
  · by_cases z : a = x
    · exact absurd (by rw [z]; exact dl_same) h
    · have h : del H x a ≠ none := h
      rw [dl_ne z] at h; exact h
  · have h : look (slots0 fn (.own (.obj c [] []) :: ds.map SV.val)) i = .ro d := h
    cases i with
    | zero => rw [h0] at h; cases h
    | succ i => rcases hlk i with e | ⟨_, _, e, _⟩ <;> (rw [e] at h; cases h)
  · cases e; exact s0
theorem rel_cstepI {W H H' : L2.Hp} {io : List Addr} {g g' : Gh} {s' : Sta} {σ' : L2.St} {x : Addr} (R : Rel T (entI H W io x) g' s' σ' H') (mW : Same W g'.W) (mI : Pre io g'.io) (hx : x ∉ g'.io) (hh : H' x ≠ none) : CStep W io H g'.W g'.io H' fun a => a = x :=
  ⟨mW, mI, fun a o h hn nx => R.base a o (by show del H x a = _; rw [dl_ne nx]; exact h) hn, fun a h => by
    by_cases z : a = x
    · rw [z]; exact hh
    · exact R.tr a (by show del H x a ≠ _; rw [dl_ne z]; exact h), fun a h => by
    rcases R.ioF a h with q | q
    · exact .inl q
    · have z : a ≠ x := fun z => hx (z ▸ h)
      have q : del H x a = none := q
      rw [dl_ne z] at q
      exact .inr q, fun a h nx hw => R.wn a (by show del H x a ≠ _; rw [dl_ne nx]; exact h) hw⟩
theorem finI_ok {W H : L2.Hp} {io : List Addr} {x : Addr} {Q : VK} {E : XK} {o : Out} (h : CPost T W io H (fun a => a = x) (asVal (finI o)) (fun v H' => v = .ref x → Q .non H') E) :
    OOK T (entI H W io x) (fun c d _ H' => E c d H') ⟨W, io, [x]⟩ { nx := fun _ H' => Q .non H', rt := Q } o := by
  cases o with
  | next s' =>
    intro g' σ' H' R m
    have hme := R.roF.2 (.ref x) rfl
    have key : ∀ {d : D} {g2 : Gh} {s2 : Sta}, asVal (finI (.next s')) = .ok d false s'.hp → s2.hp = s'.hp → Rel T (entI H W io x) g2 s2 σ' H' → Same W g2.W → Pre io g2.io → x ∉ g2.io → H' x ≠ none → Rep T g2.W g2.io d (.ref x) → Q .non H' := fun {d g2 s2} ef ehp R2 mW mI hx hh rep => by
      rw [ef] at h
      have hr := R2.hrel
      rw [ehp] at hr
      exact h g2.W g2.io H' (.ref x) hr (rel_cstepI (g := g2) R2 mW mI hx hh) (by unfold RetR; simpa using rep) rfl
    have q := R.slot 0
    cases z : look s'.sl 0 with
    | own d =>
      obtain ⟨a, o, g2, e1, e2, e3, R2, S2, rep⟩ := R.frzS z
      rw [z] at q
      obtain ⟨b, f1, f2, f3, f4, f5⟩ := q
      rw [hme] at e1 f1
      cases e1; cases f1
      exact key (d := d) (g2 := g2) (s2 := { s' with sl := put s'.sl 0 (.val d) }) (by simp only [finI, z]; rfl) rfl R2 (sameTr m.1 S2.W) (Pre.tr m.2 S2.io) (by rw [e3]; exact f4) (by rw [e2]; simp) rep
    | val d =>
      cases d with
      | obj c ns vs =>
        rw [z] at q
        obtain ⟨u, f1, f2⟩ := q
        rw [hme] at f1
        cases f1
        have f3 := f2
        simp only [Rep] at f3
        obtain ⟨a, dx, fvs, ea, eW, _⟩ := f3
        cases ea
        refine key (d := .obj c ns vs) (by simp only [finI, z]; rfl) rfl R m.1 m.2 (fun hm => ?_) (by rw [R.sub _ _ eW]; simp) f2
        obtain ⟨i, hi⟩ := List.getElem?_of_mem hm
        have hlt : i < s'.hp.length := by rw [R.mem]; exact (List.getElem?_eq_some_iff.mp hi).1
        obtain ⟨b, k1, _, k3, _⟩ := R.heap i _ (List.getElem?_eq_getElem hlt)
        rw [hi] at k1; cases k1
        rw [eW] at k3; cases k3
      | _ => simp only [finI, z, asVal] at h; exact h.elim
    | _ => simp only [finI, z, asVal] at h; exact h.elim
  | ret d fr s' => exact (show False from h).elim
  | exc c ns ds s' =>
    intro g' σ' H' dx R m xr
    have hme := R.roF.2 (.ref x) rfl
    have q := R.slot 0
    have key : x ∉ g'.io → H' x ≠ none → asVal (finI (.exc c ns ds s')) = .exc c ns ds s'.hp → E (.ref (T.xa c)) (some dx) H' := fun k1 k2 ef => by
      rw [ef] at h
      exact h g'.W g'.io H' dx R.hrel (rel_cstepI (g := g') R m.1 m.2 k1 k2) xr
    cases z : look s'.sl 0 with
    | own d =>
      rw [z] at q
      obtain ⟨b, f1, f2, f3, f4, f5⟩ := q
      rw [hme] at f1
      cases f1
      exact key f4 f2.there (by simp only [finI, z]; rfl)
    | val d =>
      cases d with
      | obj c' ns' vs' =>
        rw [z] at q
        obtain ⟨u, f1, f2⟩ := q
        rw [hme] at f1
        cases f1
        simp only [Rep] at f2
        obtain ⟨a, dx', fvs, ea, eW, _⟩ := f2
        cases ea
        refine key (fun hm => ?_) (by rw [R.sub _ _ eW]; simp) (by simp only [finI, z]; rfl)
        obtain ⟨i, hi⟩ := List.getElem?_of_mem hm
        have hlt : i < s'.hp.length := by rw [R.mem]; exact (List.getElem?_eq_some_iff.mp hi).1
        obtain ⟨b, k1, _, k3, _⟩ := R.heap i _ (List.getElem?_eq_getElem hlt)
        rw [hi] at k1; cases k1
        rw [eW] at k3; cases k3
      | _ => simp only [finI, z, asVal] at h; exact h.elim
    | _ => simp only [finI, z, asVal] at h; exact h.elim
  | bad => exact h
/-- THE RULE: an own __init__ of the text -/
theorem fn_sndI {Pg : Program} {w : World} {K : PySem.W.Frag} {mg : Str → Option Value} {base : Heap} {k : Nat} {f : Addr} {name qual : Str} {params : Arguments} {body : List Stmt} {scope : Scope} {dV kV doc pm cdv ct oc : Value} {an od : Option Addr}
    {osl : Array (Option Value)} {N ps : List Str} {fn : Fn} {np ci : Nat} (hnp : ps.length = np + 1) (lk : K.lookup f = some ⟨oc, od, .func (PySem.W.fnOf name qual params body scope dV kV doc pm an cdv ct), osl⟩) (hcd : PySem.W.codeIn K cdv qual = true) (S : FnScope N ps scope)
    (hns : fn.ns = N.length) (hchk : chkSs C P N false scope fn.body body = true)
    (hG : ∀ (A : Around) (outer : List Env) (s : Shared) (H : L2.Hp) (E : XK), A.guards = some [] → Room k (A.deeper (envOfC qual scope s.heap.objs.size f cdv)) →
      (∀ Wx, Takes (cxOf (L2.CX Pg w) Pg w K mg base N qual scope f cdv A outer s H E) Wx → Good (cxOf (L2.CX Pg w) Pg w K mg base N qual scope f cdv A outer s H E) T P C call mk false Wx) ∧
      (∀ c x f, C.ex[c]? = some (x, f) → mg x = some (.ref (T.xa c))) ∧
      ∀ c x f' y, C.ex[c]? = some (x, f') → P.excs[c]? = some y → y.1 = [f'] → Gl (cxOf (L2.CX Pg w) Pg w K mg base N qual scope f cdv A outer s H E) x → okN x = true → Exc1 (cxOf (L2.CX Pg w) Pg w K mg base N qual scope f cdv A outer s H E) x (T.xa c) (T.fld f')) :
    FnG Pg w K mg base (L2.CX Pg w) (k + 1) f (PySem.W.fnOf name qual params body scope dV kV doc pm an cdv ct) ps (spI T np ci fun ds h => finI (evalSs P call mk none fn.body ⟨slots0 fn (.own (.obj ci [] []) :: ds.map .val), h⟩)) := by
  refine fn_ofG lk hcd S (fun vs H Q E h => h.1.trans hnp.symm) fun A outer s H vs Q E hgd hr ⟨hl, W, io, hp, ds, x, dx, us, e0, hx, hw, hio, h1, h2, h3⟩ => ?_
  subst e0
  obtain ⟨g1, g2, g3⟩ := hG A outer s H E hgd hr
  have hpl : ps.length ≤ N.length := by have := congrArg List.length S.pre; rw [List.length_take] at this; omega
  have tk : Takes (cxOf (L2.CX Pg w) Pg w K mg base N qual scope f cdv A outer s H E) (fun c d _ H' => E c d H') := takes_of rfl rfl rfl (E₁ := fun e' s'' => L2.CX Pg w outer H s E e' s'') rfl
  have J : IhS (cxOf (L2.CX Pg w) Pg w K mg base N qual scope f cdv A outer s H E) T P C call mk N false (entI H W io x) (fun c d _ H' => E c d H') :=
    ⟨⟨g1 _ tk, rfl, fun _ => rfl, fun a dx c h => (nomatch h)⟩, S.kind, fun _ _ => rfl, fun _ => passes_of rfl, fun _ => rfl, fun _ => rfl, rfl, g2, fun _ => g3⟩
  refine ⟨tS T (entI H W io x) (fun c d _ H' => E c d H') (evalSs P call mk none fn.body), sndSs fn.body _ _ _ false none body J hchk, ⟨⟨W, io, [x]⟩, ⟨slots0 fn (.own (.obj ci [] []) :: ds.map .val), hp⟩, rel_startI h1 h2 hns (by simp only [List.length_cons] at hl; omega) hx hw hio, finI_ok h3⟩⟩
end
end Ev
end

section
/-! EvE3: the __init__ of an exception with one field. -/
namespace Ev
open PySem PySem.Spec PySem.W PyProof.Rows L2

section
/-- def __init__(self, y): super().__init__(y); self.f = y -/
theorem fn_exc1 {Pg : Program} {w : World} {K : PySem.W.Frag} {mg : Str → Option Value} {base : Heap} {k : Nat} {fa : Addr} {name qual : Str} {params : Arguments} {scope : Scope} {dV kV doc pm cdv ct oc : Value} {an od : Option Addr} {cc C : Addr}
    {osl : Array (Option Value)} {self y f : Str} {p0 p1 p2 p3 p4 p5 p6 p7 p8 p9 : Pos} {ar : Arg} {pl : Sem Bool}
    (lk : K.lookup fa = some ⟨oc, od, .func (ksFn name qual params (.Expr (.Call (.Attribute (.Call (.Name "super" p0) [] [] p1) "__init__" p2) [.Name y p5] [] p3) p4 :: [.Assign [.Attribute (.Name self p6) f p7] (.Name y p8) p9]) scope dV kV doc pm an cdv ct cc), osl⟩)
    (hcd : PySem.W.codeIn K cdv qual = true) (S : SupScope [self, y] [self, y] scope) (SK : SupK Pg K mg C cdv cc) (hpar : (params.posonlyargs ++ params.args).head? = some ar) (har : ar.arg = self)
    (ns : okN self = true) (ny : okN y = true) (hno : PySem.W.findIn K (.ref C) f = some none)
    (hform : ∀ env : Env, env.scope = scope → eval (.Call (.Attribute (.Call (.Name "super" p0) [] [] p1) "__init__" p2) [.Name y p5] [] p3) env = (do
      let ov ← attributeBase (.Call (.Name "super" p0) [] [] p1) "__init__" env (eval (.Call (.Name "super" p0) [] [] p1) env)
      standAt p2.atName
      let (f, first) ← holding [ov] (getMethod ov "__init__" pl)
      callWith p3 f first (backTo p3 (starEach [.Name y p5] env)) [])) :
    FnOk Pg w K mg base (L2.CX Pg w) (k + 1) fa (ksFn name qual params (.Expr (.Call (.Attribute (.Call (.Name "super" p0) [] [] p1) "__init__" p2) [.Name y p5] [] p3) p4 :: [.Assign [.Attribute (.Name self p6) f p7] (.Name y p8) p9]) scope dV kV doc pm an cdv ct cc) [self, y] (spX1 C f) := by
  refine fn_super lk hcd S SK hpar (by rw [har]; rfl) (by rw [har]; exact List.mem_cons_self) (fun vs H Q E h => ?_) hform (fun env => rfl) (fun env => rfl) fun A outer s H vs Q E hr hsp => ?_
  · obtain ⟨x, y', e, _⟩ := h
    rw [e]; rfl
  · obtain ⟨x, v, rfl, hx, q⟩ := hsp
    have vs1 : Vis scope self := .inl (S.par self List.mem_cons_self)
    have vy : Vis scope y := .inl (S.par y (List.mem_cons_of_mem _ List.mem_cons_self))
    refine ⟨x, [v], _, _, rfl, hx, pa_cons (pe_var (i := 1) (by rfl) vy (okN_ok ny).1 (okN_ok ny).2) pa_nil, ?_, pss_cons (ps_ost (pe_var (i := 0) (by rfl) vs1 (okN_ok ns).1 (okN_ok ns).2) (pe_var (i := 1) (by rfl) vy (okN_ok ny).1 (okN_ok ny).2)) pss_nil, ?_⟩
    · exact ⟨v, rfl, by simp, rfl⟩
    · exact ⟨v, rfl, .ref x, rfl, x, C, rfl, SK.oex, hno, .inl ⟨hx, fun d hd ne => q d hd ne⟩⟩
end
end Ev
end

section
/-! EvE4: the induction on depth. -/
namespace Ev
open PySem PySem.Spec PySem.W PyProof.Rows L2

section
variable {T : Tx} {P : Prog}
theorem repL_len {W : L2.Hp} {io : List Addr} {ds : List D} {vs : List V} (r : RepL T W io ds vs) : ds.length = vs.length := r.length
theorem spF_run {k f np : Nat} {fn : Fn} (hf : P.fns[f]? = some fn) (hn : fn.np = np) : ∀ vs H Q E, spF T np ((run P (k + 1)).1 f) vs H Q E → spF T np (fun ds h => fin (evalSs P (run P k).1 (run P k).2 none fn.body ⟨slots0 fn (ds.map .val), h⟩)) vs H Q E :=
  fun vs H Q E ⟨hl, W, io, hp, ds, h1, h2, h3⟩ => ⟨hl, W, io, hp, ds, h1, h2, by
    have e : (run P (k + 1)).1 f ds hp = fin (evalSs P (run P k).1 (run P k).2 none fn.body ⟨slots0 fn (ds.map .val), hp⟩) := by
      rw [run]
      simp only [hf]
      rw [if_pos (by rw [h2.length, hl, hn])]
    rw [e] at h3
    exact h3⟩
theorem spI_run {k c f np : Nat} {fn : Fn} (hi : P.inits[c]? = some f) (hf : P.fns[f]? = some fn) (hn : fn.np = np + 1) : ∀ vs H Q E, spI T np c ((run P (k + 1)).2 c) vs H Q E → spI T np c (fun ds h => finI (evalSs P (run P k).1 (run P k).2 none fn.body ⟨slots0 fn (.own (.obj c [] []) :: ds.map .val), h⟩)) vs H Q E :=
  fun vs H Q E ⟨hl, W, io, hp, ds, x, dx, us, e0, h1, h2, h3, h4, h5, h6⟩ => ⟨hl, W, io, hp, ds, x, dx, us, e0, h1, h2, h3, h4, h5, by
    have e : (run P (k + 1)).2 c ds hp = finI (evalSs P (run P k).1 (run P k).2 none fn.body ⟨slots0 fn (.own (.obj c [] []) :: ds.map .val), hp⟩) := by
      rw [run]
      simp only [hi, Option.bind_some, hf]
      rw [if_pos (by rw [e0] at hl; simp only [List.length_cons] at hl; rw [h5.length, hn]; omega)]
    rw [e] at h6
    exact h6⟩
theorem spF_zero {f np : Nat} {vs : List V} {H : L2.Hp} {Q : VK} {E : XK} (h : spF T np ((run P 0).1 f) vs H Q E) : False := by
  obtain ⟨_, W, io, hp, ds, _, _, h3⟩ := h
  rw [run] at h3
  exact h3
theorem spI_zero {c np : Nat} {vs : List V} {H : L2.Hp} {Q : VK} {E : XK} (h : spI T np c ((run P 0).2 c) vs H Q E) : False := by
  obtain ⟨_, W, io, hp, ds, x, dx, us, _, _, _, _, _, _, h6⟩ := h
  rw [run] at h6
  exact h6
theorem fn_zero {Pg : Program} {w : World} {K : PySem.W.Frag} {mg : Str → Option Value} {base : Heap} {CX : CXT} {k : Nat} {f : Addr} {fd : FuncData} {ps : List Str} {sp : Sp} (h : ∀ vs H Q E, ¬ sp vs H Q E) : FnG Pg w K mg base CX k f fd ps sp :=
  ⟨fun vs H Q E q => (h vs H Q E q).elim, fun A outer s H args us vs Q E _ hr e0 hb r q => (h vs H Q E q).elim⟩
end
end Ev
end

section
/-! EvE5: every def of the text keeps its promise, at every depth. -/
namespace Ev
open PySem PySem.Spec PyProof.Rows L2

section
variable {Pg : Program} {w : World} {K : PySem.W.Frag} {mg : Str → Option Value} {base : Heap} {T : Tx} {P : Prog} {C : Cfg}
/-- a def of the text that the checker passes -/
structure DefR (K : PySem.W.Frag) (T : Tx) (P : Prog) (C : Cfg) (f : Nat) (fd : FuncData) (ps : List Str) : Prop where
  body : ∃ (name qual : Str) (params : Arguments) (body : List Stmt) (scope : Scope) (dV kV doc pm cdv ct oc : Value) (an od : Option Addr) (osl : Array (Option Value)) (N : List Str) (fn : Fn),
    fd = PySem.W.fnOf name qual params body scope dV kV doc pm an cdv ct ∧ K.lookup (T.fa f) = some ⟨oc, od, .func (PySem.W.fnOf name qual params body scope dV kV doc pm an cdv ct), osl⟩ ∧ PySem.W.codeIn K cdv qual = true ∧ FnScope N ps scope ∧
      P.fns[f]? = some fn ∧ fn.np = ps.length ∧ fn.ns = N.length ∧ chkSs C P N false scope fn.body body = true
  binds : L2.Binds K fd ps []
/-- what is known of the text, whatever is run -/
structure Stat (Pg : Program) (w : World) (K : PySem.W.Frag) (mg : Str → Option Value) (base : Heap) (T : Tx) (P : Prog) (C : Cfg) : Prop where
  kt : K = T.K
  inj : ∀ a b, T.fld a = T.fld b → a = b
  fl : ∀ c f, hasF P c f = true → Cls K (T.ca c) ∧ NoAttr K (T.ca c) (T.fld f)
  fld : ∀ n, T.fld n = flS C.fl n
  nf : T.nf = C.fl.length
  rp : P.rp = rpD
  IS : ∀ X : Cx, X.K = K → IsiF X T P C.kinds
  EG : ∀ X : Cx, X.K = K → ExcG X T P
  EF : ∀ X : Cx, X.K = K → ExcF X T P
  bl : ∀ x ∈ blNames, mg x = none
  fn : ∀ f x n, C.fn[f]? = some (some x, n) → mg x = some (.ref (T.fa f)) ∧ PySem.W.keepIn K (.ref (T.fa f)) = true
  me : ∀ c m f n y, (c, m, f) ∈ C.me → C.fn[f]? = some (y, n) → Cls K (T.ca c) ∧ Meth K (T.ca c) m (T.fa f) ∧ PySem.W.keepIn K (.ref (T.fa f)) = true ∧ ∀ k, T.fld k ≠ m
  mkr : ∀ c x n f y, C.cl[c]? = some x → P.inits[c]? = some f → C.fn[f]? = some (y, n + 1) → Mk K (T.ca c) (T.fa f) ∧ PySem.W.keepIn K (.ref (T.ca c)) = true
  cl : ∀ c x, C.cl[c]? = some x → mg x = some (.ref (T.ca c))
  gl : ∀ (g : Nat) (d : D) (x : Str), P.globs[g]? = some d → C.gl[g]? = some x → ∃ v u, mg x = some u ∧ RelV v u ∧ ∀ W io, Rep T W io d v
  exN : ∀ c x f, C.ex[c]? = some (x, f) → mg x = some (.ref (T.xa c))
  exc : ∀ c x f y, C.ex[c]? = some (x, f) → P.excs[c]? = some y → y.1 = [f] → OexC K (T.xa c) ∧ ∃ fI fd ps, PySem.W.findIn K (.ref (T.xa c)) "__init__" = some (some (.ref fI)) ∧ PySem.W.typeIn K (.ref fI) = some (.type "function") ∧
    FnOk Pg w K mg base (L2.CX Pg w) 1 fI fd ps (spX1 (T.xa c) (T.fld f)) ∧ L2.Binds K fd ps []
def Lev (Pg : Program) (w : World) (K : PySem.W.Frag) (mg : Str → Option Value) (base : Heap) (T : Tx) (P : Prog) (C : Cfg) (k : Nat) : Prop :=
  ∀ f nm n, C.fn[f]? = some (nm, n) → ∃ fd ps, L2.Binds K fd ps [] ∧ FnG Pg w K mg base (L2.CX Pg w) (2 * k + 1) (T.fa f) fd ps (spF T n ((run P k).1 f)) ∧
    ∀ c np, P.inits[c]? = some f → n = np + 1 → FnG Pg w K mg base (L2.CX Pg w) (2 * k + 1) (T.fa f) fd ps (spI T np c ((run P k).2 c))
theorem good_at (S : Stat Pg w K mg base T P C) {k : Nat} (L : Lev Pg w K mg base T P C k) {X : Cx} (hP : X.prog = Pg) (hw : X.w = w) (hK : X.K = K) (hm : X.mg = mg) (hb : X.base = base) (hnd : X.N.Nodup) (hc : X.calm = true) (hg : X.A.guards = some []) (hr : Room (2 * k + 2) X.A) {Wx : WX} (tk : Takes X Wx) :
    Good X T P C (run P k).1 (run P k).2 false Wx := by
  subst hP hw hK hm hb
  refine ⟨⟨S.kt, by have := hr.un; omega, S.inj, S.fl⟩, S.fld, S.nf, S.rp, hg, S.IS X rfl, S.EG X rfl, S.EF X rfl, hnd, S.bl, fun _ => hc, fun _ => tk, fun _ f x n h => ?_, fun _ c m f n y h1 h2 => ?_, fun _ c x n f y h1 h2 h3 => ?_, S.cl, S.gl⟩
  · obtain ⟨fd, ps, b, F, _⟩ := L f (some x) n h
    obtain ⟨q1, q2⟩ := S.fn f x n h
    exact ⟨q1, ⟨_, fd, ps, [], [], F, hg, hr.mono (by omega), b, .nil, rfl⟩, q2⟩
  · obtain ⟨fd, ps, b, F, _⟩ := L f y n h2
    obtain ⟨q1, q2, q3, q4⟩ := S.me c m f n y h1 h2
    exact ⟨q1, q2, ⟨⟨_, fd, ps, [], [], F, hg, hr.mono (by omega), b, .nil, rfl⟩, q3⟩, q4⟩
  · obtain ⟨fd, ps, b, F, G⟩ := L f y (n + 1) h3
    obtain ⟨q1, q2⟩ := S.mkr c x n f y h1 h2 h3
    exact ⟨⟨⟨_, _, fd, ps, q1, G c n h2 rfl, hg, hr, b⟩, q2⟩, ⟨⟨_, _, fd, ps, q1, F, hg, hr, b⟩, q2⟩⟩
theorem lev_all (S : Stat Pg w K mg base T P C) (hd : ∀ f nm n, C.fn[f]? = some (nm, n) → ∃ fd ps, ps.length = n ∧ DefR K T P C f fd ps) : ∀ k, Lev Pg w K mg base T P C k
  | 0 => fun f nm n h => by
    obtain ⟨fd, ps, hl, R⟩ := hd f nm n h
    exact ⟨fd, ps, R.binds, fn_zero fun vs H Q E q => spF_zero q, fun c np _ _ => fn_zero fun vs H Q E q => spI_zero q⟩
  | k + 1 => fun f nm n h => by
    have L := lev_all S hd k
    obtain ⟨fd, ps, hl, R⟩ := hd f nm n h
    obtain ⟨name, qual, params, body, scope, dV, kV, doc, pm, cdv, ct, oc, an, od, osl, N, fn, rfl, lk, hcd, sc, hf, hnp, hns, hchk⟩ := R.body
    have hG : ∀ (A : Around) (outer : List Env) (s : Shared) (H : L2.Hp) (E : XK), A.guards = some [] → Room (2 * k + 2) (A.deeper (envOfC qual scope s.heap.objs.size (T.fa f) cdv)) →
      (∀ Wx, Takes (cxOf (L2.CX Pg w) Pg w K mg base N qual scope (T.fa f) cdv A outer s H E) Wx → Good (cxOf (L2.CX Pg w) Pg w K mg base N qual scope (T.fa f) cdv A outer s H E) T P C (run P k).1 (run P k).2 false Wx) ∧
      (∀ c x f, C.ex[c]? = some (x, f) → mg x = some (.ref (T.xa c))) ∧
      ∀ c x f' y, C.ex[c]? = some (x, f') → P.excs[c]? = some y → y.1 = [f'] → Gl (cxOf (L2.CX Pg w) Pg w K mg base N qual scope (T.fa f) cdv A outer s H E) x → okN x = true → Exc1 (cxOf (L2.CX Pg w) Pg w K mg base N qual scope (T.fa f) cdv A outer s H E) x (T.xa c) (T.fld f') :=
      fun A outer s H E hgd hr => ⟨fun Wx tk => good_at S L rfl rfl rfl rfl rfl sc.nd rfl hgd hr tk, S.exN, fun c x f' y h1 h2 h3 g1 n1 => by
        obtain ⟨o1, fI, fd', ps', i1, i2, i3, i4⟩ := S.exc c x f' y h1 h2 h3
        exact ⟨o1, ⟨1, fI, fd', ps', i1, i2, i3, hr.mono (by omega), i4⟩, ⟨g1, S.exN c x f' h1, (okN_ok n1).1⟩⟩⟩
    refine ⟨_, ps, R.binds, ?_, fun c np hi e => ?_⟩
    · have F := fn_snd (T := T) (P := P) (C := C) (fn := fn) lk hcd sc hns hchk hG
      rw [hl] at F
      exact F.imp (spF_run hf (by rw [hnp, hl]))
    · have F := fn_sndI (T := T) (P := P) (C := C) (fn := fn) (np := np) (ci := c) (by rw [hl, e]) lk hcd sc hns hchk hG
      exact F.imp (spI_run hi hf (by rw [hnp, hl, e]))
end
end Ev
end

section
/-! EvF1: what is known of a text, by a count over its own heap. -/
namespace Ev
open PySem PySem.Spec PySem.W PyProof.Rows L2

/-! ### answers -/
def isNn : Option (Option Value) → Bool
  | some none => true
  | _ => false
theorem isNn_ok {x : Option (Option Value)} (h : isNn x = true) : x = some none := by
  unfold isNn at h
  split at h
  · rfl
  · cases h
def isR (a : Addr) : Option (Option Value) → Bool
  | some (some (.ref b)) => a == b
  | _ => false
theorem isR_ok {a : Addr} {x : Option (Option Value)} (h : isR a x = true) : x = some (some (.ref a)) := by
  unfold isR at h
  split at h
  · rw [beq_iff_eq.mp h]
  · cases h
def isBu (s : String) : Option (Option Value) → Bool
  | some (some (.builtin t)) => s == t
  | _ => false
theorem isBu_ok {s : String} {x : Option (Option Value)} (h : isBu s x = true) : x = some (some (.builtin s)) := by
  unfold isBu at h
  split at h
  · rw [beq_iff_eq.mp h]
  · cases h
def isSo (b : Bool) : Option Bool → Bool
  | some c => b == c
  | none => false
theorem isSo_ok {b : Bool} {x : Option Bool} (h : isSo b x = true) : x = some b := by
  unfold isSo at h
  split at h
  · rw [beq_iff_eq.mp h]
  · cases h

/-! ### lists by place -/
def allN (n : Nat) (p : Nat → Bool) : Bool := (List.range n).all p
theorem allN_ok {n : Nat} {p : Nat → Bool} (h : allN n p = true) {i : Nat} (hi : i < n) : p i = true := List.all_eq_true.mp h i (List.mem_range.mpr hi)
def allL {α : Type} (l : List α) (p : Nat → α → Bool) : Bool := allN l.length fun i => match l[i]? with
  | some x => p i x
  | none => true
theorem allL_ok {α : Type} {l : List α} {p : Nat → α → Bool} (h : allL l p = true) {i : Nat} {x : α} (e : l[i]? = some x) : p i x = true := by
  have := allN_ok h (List.getElem?_eq_some_iff.mp e).1
  rw [e] at this
  exact this

/-! ### names of fields -/
/-- a name -/
def nmOk (x : Str) : Bool := x.cps.toList.all fun c => decide (c < 1114112)
theorem nmOk_ne {x : Str} (h : nmOk x = true) (n : Nat) : x ≠ ⟨#[1114112 + n]⟩ := fun e => by
  subst e
  unfold nmOk at h
  simp at h
  omega
def flB (l : List Str) : Bool := decide l.Nodup && l.all nmOk
theorem flS_inj {l : List Str} (h : flB l = true) : ∀ a b, flS l a = flS l b → a = b := fun a b e => by
  unfold flB at h
  simp only [Bool.and_eq_true, decide_eq_true_eq, List.all_eq_true] at h
  obtain ⟨nd, ok⟩ := h
  unfold flS at e
  cases ha : l[a]? with
  | none =>
    cases hb : l[b]? with
    | none =>
      rw [ha, hb] at e
      have := congrArg (fun x : Str => x.cps.toList) e
      simp at this
      omega
    | some y =>
      rw [ha, hb] at e
      exact absurd e.symm (nmOk_ne (ok y (List.mem_of_getElem? hb)) a)
  | some x =>
    cases hb : l[b]? with
    | none =>
      rw [ha, hb] at e
      exact absurd e (nmOk_ne (ok x (List.mem_of_getElem? ha)) b)
    | some y =>
      rw [ha, hb] at e
      simp only at e
      subst e
      exact (List.getElem?_inj (List.getElem?_eq_some_iff.mp ha).1 nd).mp (ha.trans hb.symm)
theorem flS_ne {l : List Str} {m : Str} (h1 : l.contains m = false) (h2 : nmOk m = true) : ∀ k, flS l k ≠ m := fun k e => by
  unfold flS at e
  cases hk : l[k]? with
  | none => rw [hk] at e; exact nmOk_ne h2 k e.symm
  | some x =>
    rw [hk] at e
    simp only at e
    subst e
    have : x ∈ l := List.mem_of_getElem? hk
    rw [← List.contains_iff_mem] at this
    rw [this] at h1
    cases h1

section
variable (K : PySem.W.Frag) (P : Prog) (C : Cfg) (T : Tx)
/-! ### classes -/
def clsB (c : Addr) : Bool := plainGet K c Str.empty && hasDictIn K c && plainOver K c && isBu "object.__setattr__" (findIn K (.ref c) "__setattr__")
variable {K}
theorem clsB_ok {c : Addr} (h : clsB K c = true) : Cls K c := by
  unfold clsB at h
  simp only [Bool.and_eq_true] at h
  exact ⟨h.1.1.1, h.1.1.2, h.1.2, isBu_ok h.2⟩
variable (K)
def fldsB : Bool := allL P.flds fun c fs => clsB K (T.ca c) && isBu "object.__class__" (findIn K (.ref (T.ca c)) "__class__") && isSo true (mroIn K (T.ca c) (.type "object")) && fs.all fun f => isNn (findIn K (.ref (T.ca c)) (T.fld f))
/-- data of each kind -/
def smp : List D := [.non, .bl true, .int 0, .str [], .tup [], .lst [], .dic [] []] ++ (List.range P.flds.length).map fun c => .obj c [] []
def kindB : Bool := isBu "getset_descriptor.__get__" (specialIn K (.builtin "object.__class__") "__get__") && isSo true (takesIn K (.builtin "object.__class__")) &&
  (smp P).all fun d => C.kinds.all fun k => isSo (isKd d k) (kitOne K (tyD T d) (kdU T k))
/-! ### exceptions -/
def excsB : Bool := allL P.excs fun c x => xfB K (T.xa c) && allN C.fl.length (fun f => isNn (findIn K (.ref (T.xa c)) (T.fld f))) &&
  allN P.excs.length fun h => isSo (x.2.contains h) (exmOne K (.ref (T.xa c)) (.ref (T.xa h)))
/-! ### names -/
def gOf (x : Str) : Option (Option Value) := nsIn K mainGlobals x
def namesB : Bool := blNames.all fun x => isNn (gOf K x)
def fnB : Bool := allL C.fn fun f y => match y.1 with
  | some x => isR (T.fa f) (gOf K x) && keepIn K (.ref (T.fa f))
  | none => true
def meB : Bool := C.me.all fun y => clsB K (T.ca y.1) && isR (T.fa y.2.2) (findIn K (.ref (T.ca y.1)) y.2.1) && isFn K (.ref (T.fa y.2.2)) && keepIn K (.ref (T.fa y.2.2)) && !C.fl.contains y.2.1 && nmOk y.2.1
def mkB : Bool := allL P.inits fun c f => makesIn K (T.ca c) && isR (T.fa f) (findIn K (.ref (T.ca c)) "__init__") && isFn K (.ref (T.fa f)) && keepIn K (.ref (T.ca c))
def clB : Bool := allL C.cl fun c x => isR (T.ca c) (gOf K x)
def exB : Bool := allL C.ex fun c y => isR (T.xa c) (gOf K y.1)
def glD (d : D) (u : Option (Option Value)) : Bool := match d, u with
  | .non, some (some .none) => true
  | .bl b, some (some (.bool c)) => b == c
  | .int i, some (some (.int j _)) => decide (i = j)
  | .str cs, some (some (.str x _)) => decide (x.cps.toList = cs) && decide (cs.length ≤ 1000)
  | .fn f, some (some (.ref a)) => a == T.fa f
  | _, _ => false
def glB : Bool := allL P.globs fun g d => match C.gl[g]? with
  | some x => glD T d (gOf K x)
  | none => true
def statB : Bool := fldsB K P T && (kindB K P C T && (excsB K P C T && (namesB K && (fnB K C T && (meB K C T && (mkB K P T && (clB K C T && (exB K C T && (glB K P C T && flB C.fl)))))))))
end
theorem sOf_toList (x : Str) : sOf x.cps.toList = x := sOf_cps x

theorem glD_ok {T : Tx} {d : D} {u : Option (Option Value)} (h : glD T d u = true) : ∃ v y, u = some (some y) ∧ RelV v y ∧ ∀ W io, Rep T W io d v := by
  unfold glD at h
  split at h
  · exact ⟨.non, _, rfl, rfl, fun _ _ => by simp only [Rep]⟩
  · have := beq_iff_eq.mp h; subst this
    exact ⟨.bl _, _, rfl, rfl, fun _ _ => by simp only [Rep]⟩
  · have := of_decide_eq_true h; subst this
    exact ⟨.int _, _, rfl, ⟨_, rfl⟩, fun _ _ => by simp only [Rep]⟩
  · simp only [Bool.and_eq_true, decide_eq_true_eq] at h
    obtain ⟨rfl, h2⟩ := h
    rename_i x _
    refine ⟨.str x, _, rfl, ⟨_, rfl⟩, fun _ _ => ?_⟩
    simp only [Rep]
    refine ⟨by rw [sOf_toList], ?_⟩
    have hlim : lim = 16777216 := rfl
    omega
  · have := beq_iff_eq.mp h; subst this
    exact ⟨.ref _, _, rfl, rfl, fun _ _ => by simp only [Rep]⟩
  · cases h
theorem smp_of {P : Prog} {T : Tx} {d : D} (h : kdOk P d = true) : ∃ d' ∈ smp P, tyD T d = tyD T d' ∧ ∀ k, isKd d k = isKd d' k := by
  cases d with
  | non => exact ⟨.non, by simp [smp], rfl, fun k => rfl⟩
  | bl b => exact ⟨.bl true, by simp [smp], rfl, fun k => by cases k <;> rfl⟩
  | int i => exact ⟨.int 0, by simp [smp], rfl, fun k => by cases k <;> rfl⟩
  | str cs => exact ⟨.str [], by simp [smp], rfl, fun k => by cases k <;> rfl⟩
  | tup xs => exact ⟨.tup [], by simp [smp], rfl, fun k => by cases k <;> rfl⟩
  | lst xs => exact ⟨.lst [], by simp [smp], rfl, fun k => by cases k <;> rfl⟩
  | dic ks vs => exact ⟨.dic [] [], by simp [smp], rfl, fun k => by cases k <;> rfl⟩
  | obj c ns vs =>
    have : c < P.flds.length := of_decide_eq_true h
    refine ⟨.obj c [] [], ?_, rfl, fun k => by cases k <;> rfl⟩
    simp only [smp, List.mem_append, List.mem_map, List.mem_range]
    exact .inr ⟨c, this, rfl⟩
  | fn => cases h
  | ref => cases h
  | scr => cases h

/-- an exception with one field: its __init__ -/
def ExcR1 (Pg : Program) (w : World) (K : PySem.W.Frag) (mg : Str → Option Value) (base : Heap) (T : Tx) (c f : Nat) : Prop :=
  OexC K (T.xa c) ∧ ∃ fI fd ps, PySem.W.findIn K (.ref (T.xa c)) "__init__" = some (some (.ref fI)) ∧ PySem.W.typeIn K (.ref fI) = some (.type "function") ∧
    FnOk Pg w K mg base (L2.CX Pg w) 1 fI fd ps (spX1 (T.xa c) (T.fld f)) ∧ L2.Binds K fd ps []

theorem stat_of {Pg : Program} {w : World} {K : PySem.W.Frag} {h : Heap} {mg : Str → Option Value} {base : Heap} {T : Tx} {P : Prog} {C : Cfg} (X : K.In h) (G : h.Ns mainGlobals mg) (hT : T.K = K) (hfl : T.fld = flS C.fl) (hnf : T.nf = C.fl.length) (hrp : P.rp = rpD)
    (hB : statB K P C T = true) (hex : ∀ c x f y, C.ex[c]? = some (x, f) → P.excs[c]? = some y → y.1 = [f] → ExcR1 Pg w K mg base T c f) : Stat Pg w K mg base T P C := by
  subst hT
  unfold statB at hB
  simp only [Bool.and_eq_true] at hB
  obtain ⟨b1, b2, b3, b4, b5, b6, b7, b8, b9, b10, b11⟩ := hB
  have mgr : ∀ {a : Addr} {x : Str}, isR a (gOf T.K x) = true → mg x = some (.ref a) := fun z => mg_of X G (isR_ok z)
  have mgn : ∀ {x : Str}, isNn (gOf T.K x) = true → mg x = none := fun z => mg_none_of X G (isNn_ok z)
  have fl1 : ∀ c fs, P.flds[c]? = some fs → Cls T.K (T.ca c) ∧ PySem.W.findIn T.K (.ref (T.ca c)) "__class__" = some (some (.builtin "object.__class__")) ∧ PySem.W.mroIn T.K (T.ca c) (.type "object") = some true ∧ ∀ f ∈ fs, NoAttr T.K (T.ca c) (T.fld f) := fun c fs e => by
    have := allL_ok b1 e
    simp only [Bool.and_eq_true, List.all_eq_true] at this
    exact ⟨clsB_ok this.1.1.1, isBu_ok this.1.1.2, isSo_ok this.1.2, fun f hf => isNn_ok (this.2 f hf)⟩
  have kd : ∀ d k, kdOk P d = true → k ∈ C.kinds → PySem.W.kitOne T.K (tyD T d) (kdU T k) = some (isKd d k) := fun d k hd hk => by
    unfold kindB at b2
    simp only [Bool.and_eq_true, List.all_eq_true] at b2
    obtain ⟨d', hd', e1, e2⟩ := smp_of (T := T) hd
    rw [e1, e2]
    exact isSo_ok (b2.2 d' hd' k hk)
  have ex1 : ∀ c x, P.excs[c]? = some x → XfC T.K (T.xa c) ∧ (∀ f, f < C.fl.length → PySem.W.findIn T.K (.ref (T.xa c)) (T.fld f) = some none) ∧ ∀ h, h < P.excs.length → PySem.W.exmOne T.K (.ref (T.xa c)) (.ref (T.xa h)) = some (x.2.contains h) := fun c x e => by
    have := allL_ok b3 e
    simp only [Bool.and_eq_true] at this
    exact ⟨xfB_ok this.1.1, fun f hf => isNn_ok (allN_ok this.1.2 hf), fun h hh => isSo_ok (allN_ok this.2 hh)⟩
  refine ⟨rfl, by rw [hfl]; exact flS_inj b11, fun c f hf => ?_, fun n => by rw [hfl], hnf, hrp, fun X' e => ?_, fun X' e => ?_, fun X' e => ?_, fun x hx => mgn (List.all_eq_true.mp b4 x hx), fun f x n e => ?_, fun c m f n y hm e => ?_, fun c x n f y e1 e2 e3 => ?_, fun c x e => mgr (allL_ok b8 e), fun g d x e1 e2 => ?_, fun c x f e => mgr (allL_ok b9 e), hex⟩
  · unfold hasF at hf
    cases z : P.flds[c]? with
    | none => rw [z] at hf; simp at hf
    | some fs =>
      rw [z] at hf
      obtain ⟨q1, _, _, q4⟩ := fl1 c fs z
      exact ⟨q1, q4 f (List.contains_iff_mem.mp hf)⟩
  · unfold kindB at b2
    simp only [Bool.and_eq_true] at b2
    refine ⟨fun c hc => ?_, by rw [e]; exact isBu_ok b2.1.1, by rw [e]; exact isSo_ok b2.1.2, fun d k h1 h2 => by rw [e]; exact kd d k h1 h2⟩
    rw [e]
    obtain ⟨q1, q2, q3, _⟩ := fl1 c _ (List.getElem?_eq_getElem hc)
    exact ⟨q1, q2, q3⟩
  · rw [← hnf] at ex1
    exact ⟨fun c hc => by rw [e]; exact (ex1 c _ (List.getElem?_eq_getElem hc)).1, fun c f hc hf => by rw [e]; exact (ex1 c _ (List.getElem?_eq_getElem hc)).2.1 f hf⟩
  · refine ⟨fun c h b hx hh => ?_⟩
    unfold isX at hx
    cases z : P.excs[c]? with
    | none => rw [z] at hx; simp at hx
    | some x =>
      rw [z] at hx
      simp only [Option.map_some, Option.some.injEq] at hx
      rw [e, ← hx]
      exact (ex1 c x z).2.2 h hh
  · have := allL_ok b5 e
    simp only [Bool.and_eq_true] at this
    exact ⟨mgr this.1, this.2⟩
  · have := List.all_eq_true.mp b6 _ hm
    simp only [Bool.and_eq_true, Bool.not_eq_true'] at this
    obtain ⟨⟨⟨⟨⟨q1, q2⟩, q3⟩, q4⟩, q5⟩, q6⟩ := this
    exact ⟨clsB_ok q1, ⟨isR_ok q2, q3, q4⟩, q4, fun k => by rw [hfl]; exact flS_ne q5 q6 k⟩
  · have := allL_ok b7 e2
    simp only [Bool.and_eq_true] at this
    obtain ⟨⟨⟨q1, q2⟩, q3⟩, q4⟩ := this
    exact ⟨⟨q1, isR_ok q2, q3, q4⟩, q4⟩
  · have := allL_ok b10 e1
    rw [e2] at this
    obtain ⟨v, y, q1, q2, q3⟩ := glD_ok this
    exact ⟨v, y, mg_of X G q1, q2, q3⟩
end Ev
end

section
/-! EvF2: the defs and the exceptions of a text, the end. -/
namespace Ev
open PySem PySem.Spec PySem.W PyProof.Rows L2

/-! ### the statements of a text -/
def topOf (Pg : Program) (i : Nat) : Stmt := Pg.main.body.getD i (.Pass ⟨0, 0, 0, 0⟩)
def subOf (Pg : Program) (i j : Nat) : Stmt := match topOf Pg i with
  | .ClassDef _ _ _ b _ _ _ _ _ _ _ => b.getD j (.Pass ⟨0, 0, 0, 0⟩)
  | _ => .Pass ⟨0, 0, 0, 0⟩
def scpB (N ps : List Str) (sc : Scope) : Bool :=
  (match sc.kind with | .function => true | _ => false) && !sc.isCoroutine && !sc.isGenerator && decide N.Nodup && decide (N.take ps.length = ps) &&
  (ps.all fun x => match sc.names.lookup x with
    | some .local => true
    | some .cell => true
    | _ => false) && sc.names.all fun y => match y.2 with
    | .free => false
    | _ => true
theorem scpB_ok {N ps : List Str} {sc : Scope} (h : scpB N ps sc = true) : FnScope N ps sc := by
  unfold scpB at h
  simp only [Bool.and_eq_true, Bool.not_eq_true', decide_eq_true_eq, List.all_eq_true] at h
  obtain ⟨⟨⟨⟨⟨⟨h1, h2⟩, h3⟩, h4⟩, h5⟩, h6⟩, h7⟩ := h
  refine ⟨?_, h2, h3, h4, h5, fun x hx => ?_, fun y hy e => ?_⟩
  · split at h1
    · assumption
    · cases h1
  · have := h6 x hx
    split at this
    · rename_i e; exact .inl e
    · rename_i e; exact .inr e
    · cases this
  · have := h7 y hy
    rw [e] at this
    cases this
def defB (P : Prog) (C : Cfg) (N ps : List Str) (f : Nat) (st : Stmt) : Bool := scpB N ps (defScope st) && match P.fns[f]? with
  | some fn => fn.np == ps.length && (fn.ns == N.length && chkSs C P N false (defScope st) fn.body (defBody st))
  | none => false
theorem defR_of {K : PySem.W.Frag} {T : Tx} {P : Prog} {C : Cfg} {f n : Nat} {N ps : List Str} {st : Stmt} {fa : Addr} {oc kV doc pm cdv ct : Value} {od an : Option Addr} {osl : Array (Option Value)} {x qual : Str} (hB : defB P C N ps f st = true) (hf : T.fa f = fa) (hn : ps.length = n)
    (l : K.lookup fa = some ⟨oc, od, .func (fnOf x qual (defArgs st) (defBody st) (defScope st) .none kV doc pm an cdv ct), osl⟩) (c : codeIn K cdv qual = true)
    (hb : ∀ us : List Value, us.length = ps.length → bindArgs (fnOf x qual (defArgs st) (defBody st) (defScope st) .none kV doc pm an cdv ct) ⟨us, []⟩ = pure (ps.zip us)) : ∃ fd ps, ps.length = n ∧ DefR K T P C f fd ps := by
  unfold defB at hB
  simp only [Bool.and_eq_true] at hB
  obtain ⟨h1, h2⟩ := hB
  split at h2
  · rename_i fn e
    simp only [Bool.and_eq_true, beq_iff_eq] at h2
    subst hf
    exact ⟨_, ps, hn, ⟨⟨x, qual, _, _, _, _, kV, doc, pm, cdv, ct, oc, an, od, osl, N, fn, rfl, l, c, scpB_ok h1, e, h2.1, h2.2.1, h2.2.2⟩, .all hb⟩⟩
  · cases h2
/-- by place -/
inductive AllD {α : Type} (Q : Nat → α → Prop) : Nat → List α → Prop
  | nil {i : Nat} : AllD Q i []
  | cons {i : Nat} {x : α} {xs : List α} : Q i x → AllD Q (i + 1) xs → AllD Q i (x :: xs)
theorem AllD.at {α : Type} {Q : Nat → α → Prop} : ∀ {xs : List α} {i k : Nat} {x : α}, AllD Q i xs → xs[k]? = some x → Q (i + k) x
  | _ :: _, i, 0, x, .cons h _, e => by
    simp at e
    subst e
    exact h
  | _ :: xs, i, k + 1, x, .cons _ h, e => by
    have := AllD.at (k := k) h (by simpa using e)
    rw [show i + (k + 1) = i + 1 + k by omega]
    exact this

/-! ### an exception's __init__ -/
def supB (N : List Str) (sc : Scope) : Bool := decide N.Nodup && (match sc.kind with | .function => true | _ => false) && !sc.isCoroutine && !sc.isGenerator &&
  (N.all fun x => decide (sc.names.lookup x = some .local)) && (sc.names.all fun y => match y.2 with
    | .cell => false
    | .free => decide (y.1 = ("__class__" : Str))
    | _ => true) && decide (sc.names.lookup ("__class__" : Str) = some .free) && decide (sc.names.lookup ("super" : Str) = some .globalImplicit)
theorem supB_ok {N : List Str} {sc : Scope} (h : supB N sc = true) : SupScope N N sc := by
  unfold supB at h
  simp only [Bool.and_eq_true, Bool.not_eq_true', decide_eq_true_eq, List.all_eq_true] at h
  obtain ⟨⟨⟨⟨⟨⟨⟨h1, h2⟩, h3⟩, h4⟩, h5⟩, h6⟩, h7⟩, h8⟩ := h
  refine ⟨h1, List.take_length, ?_, h3, h4, h5, fun y hy e => ?_, fun y hy e => ?_, h7, h8⟩
  · split at h2
    · assumption
    · cases h2
  · have := h6 y hy
    rw [e] at this
    cases this
  · have := h6 y hy
    rw [e] at this
    exact of_decide_eq_true this
def codB (Pg : Program) (K : PySem.W.Frag) (cdv : Value) : Bool := match cdv with
  | .ref cda => (match K.lookup cda with
    | some ⟨_, _, .fields vs, _⟩ => (match (vs[2]? : Option Value) with
      | some (.str file _) => (Pg.main.file : Str) == file
      | _ => false)
    | _ => false)
  | _ => false
theorem codB_ok {Pg : Program} {K : PySem.W.Frag} {cdv : Value} (h : codB Pg K cdv = true) : ∃ cda ccl cdd vs ccs file tf, cdv = .ref cda ∧ K.lookup cda = some ⟨ccl, cdd, .fields vs, ccs⟩ ∧ vs[2]? = some (.str file tf) ∧ ((Pg.main.file : Str) == file) = true := by
  unfold codB at h
  split at h
  · split at h
    · rename_i e
      split at h
      · rename_i e2
        exact ⟨_, _, _, _, _, _, _, rfl, e, e2, h⟩
      · cases h
    · cases h
  · cases h
def celB (K : PySem.W.Frag) (cc C : Addr) : Bool := match K.lookup cc with
  | some ⟨_, _, .cell (some (.ref a)), _⟩ => a == C
  | _ => false
theorem celB_ok {K : PySem.W.Frag} {cc C : Addr} (h : celB K cc C = true) : ∃ cl cld csl, K.lookup cc = some ⟨cl, cld, .cell (some (.ref C)), csl⟩ := by
  unfold celB at h
  split at h
  · rename_i e
    rw [beq_iff_eq.mp h] at e
    exact ⟨_, _, _, e⟩
  · cases h
def isTy (s : String) : Option Value → Bool
  | some (.type t) => s == t
  | _ => false
theorem isTy_ok {s : String} {x : Option Value} (h : isTy s x = true) : x = some (.type s) := by
  unfold isTy at h
  split at h
  · rw [beq_iff_eq.mp h]
  · cases h
def exc1B (Pg : Program) (K : PySem.W.Frag) (C fI cc : Addr) (cdv : Value) (bm : List Value) (qual : Str) (scope : Scope) (self y f : Str) : Bool :=
  PySem.HandSPX.refsVE bm && (isBu "object.__setattr__" (findIn K (.ref C) "__setattr__") && (isSo true (subIn K (.ref C) (.type "BaseException")) && (isTy "type" (typeIn K (.ref C)) && (keepIn K (.ref C) && (codeIn K cdv qual &&
  (codB Pg K cdv && (celB K cc C && ((clsIn K C).isSome && (isSo true (mroIn K C (.ref C)) && (isNn (nsIn K mainGlobals "super") && (!(Pg.main.scope.names.lookup ("super" : Str)).isSome && (isBu "ValueError.__init__" (ks_superIn K C C "__init__") &&
  (isSo true (subIn K (.ref C) (.type "ValueError")) && (isNn (nsIn K cStatics "thirdparty.any") && (isTy "function" (typeIn K (.ref fI)) && (isR fI (findIn K (.ref C) "__init__") && (isNn (findIn K (.ref C) f) && (okN self && (okN y && supB [self, y] scope)))))))))))))))))))
theorem sup_form {y : Str} {p0 p1 p2 p3 p5 : Pos} (hl : (p2.endLine == p3.line) = true) (env : Env) : eval (.Call (.Attribute (.Call (.Name "super" p0) [] [] p1) "__init__" p2) [.Name y p5] [] p3) env = (do
      let ov ← attributeBase (.Call (.Name "super" p0) [] [] p1) "__init__" env (eval (.Call (.Name "super" p0) [] [] p1) env)
      standAt p2.atName
      let (f, first) ← holding [ov] (getMethod ov "__init__" (do return (← importBound (.Call (.Name "super" p0) [] [] p1) env).getD true))
      callWith p3 f first (backTo p3 (starEach [.Name y p5] env)) []) := by
  show (do let ov ← attributeBase (.Call (.Name "super" p0) [] [] p1) "__init__" env (eval (.Call (.Name "super" p0) [] [] p1) env); standAt p2.atName; methodCall (.Call (.Name "super" p0) [] [] p1) "__init__" p2 p3 env ov (([Expr.Name y p5] : List Expr).length + 0) (backTo p3 (starEach [.Name y p5] env)) (backToKw p3 (keywordEach [] env))) = _
  have hf : methodCallForm (([Expr.Name y p5] : List Expr).length + 0) (backTo p3 (starEach [.Name y p5] env)) (backToKw p3 (keywordEach [] env)) = true := rfl
  unfold methodCall
  rw [hf]
  unfold calleeOf methodCallPos
  rw [hl]
  rfl
theorem excR1_of {Pg : Program} {w : World} {K : PySem.W.Frag} {h : Heap} {mg : Str → Option Value} {base : Heap} {T : Tx} {c fi : Nat} (X : K.In h) (G : h.Ns mainGlobals mg) {C fI cc Nn : Addr} {nm q qual self y f : Str} {bs bm sub : List Value} {sn : List Str} {ab : Bool} {col : Option Bool} {dd od an : Option Addr}
    {k0 k1 k2 k3 k5 : Option Value} {oc kV doc pm cdv ct : Value} {osl : Array (Option Value)} {st : Stmt} {p0 p1 p2 p3 p4 p5 p6 p7 p8 p9 : Pos} {ar : Arg} (hC : T.xa c = C) (hf : T.fld fi = f)
    (xL : K.lookup C = some (excClassObj nm q C Nn bs bm true sn sub ab col dd k0 k1 k2 k3 k5 "ValueError.__new__"))
    (l : K.lookup fI = some ⟨oc, od, .func (ksFn "__init__" qual (defArgs st) (defBody st) (defScope st) .none kV doc pm an cdv ct cc), osl⟩)
    (hbd : defBody st = .Expr (.Call (.Attribute (.Call (.Name "super" p0) [] [] p1) "__init__" p2) [.Name y p5] [] p3) p4 :: [.Assign [.Attribute (.Name self p6) f p7] (.Name y p8) p9])
    (hpar : ((defArgs st).posonlyargs ++ (defArgs st).args).head? = some ar) (har : ar.arg = self) (hl : (p2.endLine == p3.line) = true)
    (hb : ∀ us : List Value, us.length = ([self, y] : List Str).length → bindArgs (ksFn "__init__" qual (defArgs st) (defBody st) (defScope st) .none kV doc pm an cdv ct cc) ⟨us, []⟩ = pure (([self, y] : List Str).zip us))
    (hB : exc1B Pg K C fI cc cdv bm qual (defScope st) self y f = true) : ExcR1 Pg w K mg base T c fi := by
  subst hC hf
  unfold exc1B at hB
  simp only [Bool.and_eq_true, Bool.not_eq_true'] at hB
  obtain ⟨b1, b2, b3, b4, b5, b6, b7, b8, b9, b10, b11, b12, b13, b14, b15, b16, b17, b18, b19, b20, b21⟩ := hB
  have oex : OexC K (T.xa c) := ⟨⟨nm, q, Nn, bs, bm, sn, sub, ab, col, dd, k0, k1, k2, k3, k5, xL, b1⟩, isBu_ok b2, isSo_ok b3, isTy_ok b4, b5⟩
  have SK : SupK Pg K mg (T.xa c) cdv cc := ⟨oex, codB_ok b7, celB_ok b8, Option.isSome_iff_exists.mp b9, isSo_ok b10, mg_none_of X G (isNn_ok b11), b12, isBu_ok b13, isSo_ok b14, isNn_ok b15⟩
  have F := fn_exc1 (Pg := Pg) (w := w) (K := K) (mg := mg) (base := base) (k := 0) (name := "__init__") (qual := qual) (params := defArgs st) (scope := defScope st) (dV := .none) (kV := kV) (doc := doc) (pm := pm) (cdv := cdv) (ct := ct) (oc := oc) (an := an) (od := od) (cc := cc) (C := T.xa c) (osl := osl) (fa := fI)
    (by rw [← hbd]; exact l) b6 (supB_ok b21) SK hpar har b19 b20 (isNn_ok b18) (fun env _ => sup_form hl env)
  refine ⟨oex, fI, _, _, isR_ok b17, isTy_ok b16, F, ?_⟩
  rw [← hbd]
  exact .all hb

/-! ### the end -/
/-- the call from outside -/
theorem law_callG {Pg : Program} {w : World} {K : PySem.W.Frag} {mg mb : Str → Option Value} {CX : CXT} {k : Nat} {fa a : Addr} {sp : Sp} {s1 : Shared} {vs : List Value} {ns : List Int}
    (KX : K.In s1.heap) (hns : s1.heap.Ns mainGlobals mg) (hb : s1.heap.Ns builtinsNs mb) (hbb : ∀ x : Str, x ≠ "__name__" → mb x = bootBuiltins x) (hlim : s1.heap.NoLimit) (hg : s1.gens = #[])
    (ha : s1.heap.get? a = some { cls := .type "list", data := .seq vs.toArray }) (hi : IntsAre vs ns) (hl : ns.length ≤ sizeLine) (hr : Room k callerA)
    (F : ∀ base : Heap, K.In base → base.Ns mainGlobals mg → ∃ fd ps, L2.Binds K fd ps [] ∧ FnG Pg w K mg base CX k fa fd ps sp)
    (hsp : ∀ H : L2.Hp, Only H → SqL K H a (ns.map V.int) → sp [.ref a] H (fun v _ => v = .bl true) fun _ _ _ => False)
    (hCX : ∀ H e s', CX [] H s1 (fun _ _ _ => False) e s' → False) :
    codeAny (model Pg w) callerA (.call (.ref fa) ⟨[.ref a], []⟩) (fun r s' => r = .ok (.ret (.bool true)) ∧ OldK s1.heap s'.heap ∧ s'.os = s1.os ∧ AllBare s'.gens) s1 := by
  have lenV := hi.length
  have rv := vals_ints hi
  -- nothing but the script may be told of
  have core : ∀ H : L2.Hp, Only H → SqL K H a (ns.map V.int) → HOk Pg w H s1.heap → (∀ b, H b ≠ none → b = a) → (H a ≠ none → K.lookup a = none) →
      codeAny (model Pg w) callerA (.call (.ref fa) ⟨[.ref a], []⟩) (fun r s' => r = .ok (.ret (.bool true)) ∧ OldK s1.heap s'.heap ∧ s'.os = s1.os ∧ AllBare s'.gens) s1 := by
    intro H hO hS hok hA hK
    have notA : ∀ {b : Addr}, b ≠ a → H b = none := fun {b} ne => by
      cases q : H b with
      | none => rfl
      | some u => exact absurd (hA b (by rw [q]; simp)) ne
    have baseOf : ∀ {b : Addr} {o : Obj}, s1.heap.get? b = some o → H b = none → (hidT s1.heap H).get? b = some o := fun e n => hidT_get e n
    have noA : ∀ {b : Addr} {o : Obj} {es : Array DictEntry} {ep : Nat}, s1.heap.get? b = some o → o.data = .dict es ep → H b = none := fun {b o es ep} e d => notA fun z => by
      subst z
      rw [ha] at e
      cases e
      exact nomatch (show Data.seq vs.toArray _ = Data.dict es ep from d)
    have nsK : ∀ {b : Addr} {m : Str → Option Value}, s1.heap.Ns b m → (hidT s1.heap H).Ns b m := fun {b m} ⟨o, es, ep, e, d, r⟩ => ⟨o, es, ep, baseOf e (noA e d), d, r⟩
    have hKb : K.In (hidT s1.heap H) := fun b o e => baseOf (KX b o e) (by
      by_cases ne : b = a
      · subst ne
        cases q : H b with
        | none => rfl
        | some u => rw [hK (by rw [q]; simp)] at e; cases e
      · exact notA ne)
    have hM : Mod K mg (hidT s1.heap H) := ⟨hKb, nsK hns, ⟨mb, nsK hb, hbb⟩, let ⟨mc, h1, h2⟩ := hlim; ⟨mc, nsK h1, h2⟩⟩
    have e0 : Env0 Pg w K mg (hidT s1.heap H) callerA [] s1 H := ⟨rfl, hM, fun b o e => of_hidT e, Nat.le_of_eq (hidT_size _ _), trivial, fun b hb => absurd (show b ∈ ([] : List Addr) from hb) (by simp), hok, .of_eq hg⟩
    obtain ⟨fd, ps, hbd, F1⟩ := F _ hKb (nsK hns)
    have hps := F1.len _ _ _ _ (hsp H hO hS)
    have bnd := hbd s1 [.ref a] KX (by rw [List.append_nil]; exact hps)
    rw [List.append_nil] at bnd
    refine codeAny_mono (F1.run callerA [] s1 H ⟨[.ref a], []⟩ [.ref a] [.ref a] _ _ rfl hr e0 bnd (.cons rfl .nil) (hsp H hO hS)) fun r s' h => ?_
    match r, h with
    | .error e, h => exact (hCX H e s' h).elim
    | .ok .next, h => exact h.elim
    | .ok .brk, h => exact h.elim
    | .ok .cont, h => exact h.elim
    | .ok (.ret u), h =>
      obtain ⟨v, H', os, bare, un, hok', r', q⟩ := h
      obtain rfl : v = V.bl true := q
      obtain rfl : u = Value.bool true := r'
      refine ⟨rfl, OldK.of_keep fun b o e => ?_, os, bare⟩
      cases q : H b with
      | none => exact un.keep b o e q (by intro z; exact absurd (show b ∈ ([] : List Addr) from z) (by simp)) (by simp)
      | some u =>
        rcases hO b with z | ⟨ob, xs, z⟩
        · rw [q] at z; cases z
        · obtain ⟨e1, _⟩ := hok b _ z
          obtain ⟨e2, _⟩ := hok' b _ (un.frzs b ob _ z)
          rw [e] at e1; cases e1
          exact e2
  by_cases hk : K.lookup a = none
  · refine core (fun b => if b = a then some (.frz { cls := .type "list", data := .seq vs.toArray } (.lst (ns.map V.int))) else none) (fun b => ?_) (.inl (.inr ⟨{ cls := .type "list", data := .seq vs.toArray }, if_pos rfl⟩)) (fun b u z => ?_) (fun b z => ?_) fun _ => hk
    · by_cases hb : b = a
      · exact .inr ⟨_, _, if_pos hb⟩
      · exact .inl (if_neg hb)
    · by_cases hb : b = a
      · have z' := (if_pos hb).symm.trans z
        cases z'
        subst hb
        exact ⟨ha, by rw [List.length_map]; exact hl, vs, _, rv, ha⟩
      · have z' := (if_neg hb).symm.trans z
        cases z'
    · exact Decidable.byContradiction fun hb => z (if_neg hb)
  · obtain ⟨o, hk⟩ := Option.ne_none_iff_exists'.mp hk
    -- the script is one of the module's own
    have e := KX a o hk
    rw [ha] at e
    cases e
    exact core (fun _ => none) (fun _ => .inl rfl) (.inr ⟨_, vs.toArray, _, hk, rfl, rfl, rfl, by rw [List.size_toArray, lenV]; exact hl, by simpa using rv⟩) (fun b u z => nomatch (show (none : Option HO) = some u from z)) (fun b z => absurd rfl z) fun z => absurd rfl z
/-- the promise of the law, from its evaluation -/
theorem spF_law {T : Tx} {call : List D → Mem → CRes} {ns : List Int} {a : Addr} {H : L2.Hp} (hS : SqL T.K H a (ns.map V.int)) (h : ∃ fr m, call [.scr ns] [] = .ok (.bl true) fr m) : spF T 1 call [.ref a] H (fun v _ => v = .bl true) fun _ _ _ => False := by
  obtain ⟨fr, m, e⟩ := h
  refine ⟨rfl, H, [], [], [.scr ns], ⟨fun _ _ z => z, rfl, List.nodup_nil, fun i d z => by simp at z⟩, RepL.cons (by simp only [Rep]; exact ⟨a, rfl, hS⟩) RepL.nil, ?_⟩
  rw [e]
  intro W' io' H' v _ _ r
  unfold RetR at r
  split at r
  · obtain ⟨_, _, z, _⟩ := r
    exact z.elim
  · simp only [if_true, Rep] at r
    exact r
/-- the end -/
theorem walk_ofG {l : PySem.W.OpenLaw} {n f dp : Nat} {q : Program} {loose : List Str} {XP : (Str → Option Value) → Heap → Prop} {YP : World → Heap → Prop} {d : DefRec} {K : Params → PySem.W.Frag} {T : Params → Tx} {P : Prog} {C : Cfg}
    (hn : l.most = some n) (hn2 : n ≤ sizeLine) (hdf : d.params.defaults = []) (hr : Room (2 * dp + 1) callerA)
    (hY : ∀ (w : World) (h : Heap), YP w h → (K w.params).In h) (hT : ∀ p, (T p).K = K p) (hx : C.fn[f]? = some (some d.name, 1))
    (F : ∀ (w : World) (mg : Str → Option Value) (h : Heap), (K w.params).In h → h.Ns mainGlobals mg →
      (∀ f nm n, C.fn[f]? = some (nm, n) → ∃ fd ps, ps.length = n ∧ DefR (K w.params) (T w.params) P C f fd ps) ∧
      ∀ base : Heap, Stat l.prog w (K w.params) mg base (T w.params) P C)
    (law : ∀ ns : List Int, ns.length ≤ n → ∃ fr m, (run P dp).1 f [.scr ns] [] = .ok (.bl true) fr m) :
    PySem.W.WalkO q loose XP YP l.row.toRowW d [] (fun f vs => PySem.call f vs) := by
  refine Att.attach_call hn hdf fun w s₀ s₁ mg mb fa o pm cd doc a vs ns G Y ho hd hcd hmg hobj hints hlen hg => ?_
  have KX := hY w _ Y
  obtain ⟨hd, hS⟩ := F w mg _ KX G.T.g
  have hfa : fa = (T w.params).fa f := by
    have := ((hS s₁.heap).fn f d.name 1 hx).1
    rw [hmg] at this
    cases this
    rfl
  subst hfa
  refine law_callG (sp := spF (T w.params) 1 ((run P dp).1 f)) (CX := L2.CX l.prog w) KX G.T.g G.T.b G.T.builtins G.T.nolimit hg hobj hints (Nat.le_trans hlen hn2) hr (fun base _ _ => ?_) (fun H _ hSq => ?_) fun H e s' h => ?_
  · obtain ⟨fd, ps, hb, F1, _⟩ := lev_all (hS base) hd dp f _ _ hx
    exact ⟨fd, ps, hb, F1⟩
  · rw [← hT] at hSq
    exact spF_law hSq (law ns hlen)
  · obtain ⟨_, _, _, _, _, _, _, _, _, _, _, _, h⟩ := h
    exact h.elim
end Ev
end

section
/-! EvG1: the evaluator's equations, for simp. -/
namespace Ev

/-- a statement, then the rest -/
def Out.seq (o : Out) (f : Sta → Out) : Out := match o with
  | .next s => f s
  | .ret d fr s => .ret d fr s
  | .exc c ns vs s => .exc c ns vs s
  | .bad => .bad
section
variable {α β : Type}
theorem seq_congr {o o' : Out} {f : Sta → Out} (h : o = o') : o.seq f = o'.seq f := by rw [h]
theorem bind_congr {r r' : Res α} {f : α → Sta → Res β} (h : r = r') : r.bind f = r'.bind f := by rw [h]
theorem out_congr {r r' : Res α} {f : α → Sta → Out} (h : r = r') : r.out f = r'.out f := by rw [h]
theorem seq_next {s : Sta} {f : Sta → Out} : (Out.next s).seq f = f s := (rfl)
theorem seq_ret {d : D} {fr : Bool} {s : Sta} {f : Sta → Out} : (Out.ret d fr s).seq f = .ret d fr s := (rfl)
theorem seq_exc {c : Nat} {ns : List Nat} {vs : List D} {s : Sta} {f : Sta → Out} : (Out.exc c ns vs s).seq f = .exc c ns vs s := (rfl)
theorem bind_ok {a : α} {s : Sta} {f : α → Sta → Res β} : (Res.ok a s).bind f = f a s := (rfl)
theorem bind_exc {c : Nat} {ns : List Nat} {vs : List D} {s : Sta} {f : α → Sta → Res β} : (Res.exc c ns vs s : Res α).bind f = .exc c ns vs s := (rfl)
theorem out_ok {a : α} {s : Sta} {f : α → Sta → Out} : (Res.ok a s).out f = f a s := (rfl)
theorem out_exc {c : Nat} {ns : List Nat} {vs : List D} {s : Sta} {f : α → Sta → Out} : (Res.exc c ns vs s : Res α).out f = .exc c ns vs s := (rfl)
end

/-! ### slots -/
theorem look_0 {x : SV} {xs : List SV} : look (x :: xs) 0 = x := (rfl)
theorem look_s {x : SV} {xs : List SV} {n : Nat} : look (x :: xs) (n + 1) = look xs n := (rfl)
theorem put_0 {x v : SV} {xs : List SV} : put (x :: xs) 0 v = v :: xs := (rfl)
theorem put_s {x v : SV} {xs : List SV} {n : Nat} : put (x :: xs) (n + 1) v = x :: put xs n v := (rfl)
theorem put_nil {v : SV} {n : Nat} : put [] n v = [] := by cases n <;> rfl
theorem svOf_f {d : D} : svOf ⟨d, false⟩ = .val d := (rfl)
theorem svOf_t {d : D} : svOf ⟨d, true⟩ = .own d := (rfl)
/-- reading a name -/
def nmV (esc : Bool) (i : Nat) (sl : List SV) (hp : Mem) (v : SV) : Res RV := match v with
  | .val d => .ok ⟨d, false⟩ ⟨sl, hp⟩
  | .own d => if esc then .ok ⟨d, false⟩ ⟨put sl i (.val d), hp⟩ else .ok ⟨d, false⟩ ⟨sl, hp⟩
  | .ro d => if esc then .bad else .ok ⟨d, false⟩ ⟨sl, hp⟩
  | _ => .bad
theorem nmE_eq {esc : Bool} {i : Nat} {sl : List SV} {hp : Mem} : nmE esc i ⟨sl, hp⟩ = nmV esc i sl hp (look sl i) := (rfl)
theorem nmV_val {esc : Bool} {i : Nat} {sl : List SV} {hp : Mem} {d : D} : nmV esc i sl hp (.val d) = .ok ⟨d, false⟩ ⟨sl, hp⟩ := (rfl)
theorem nmV_ownF {i : Nat} {sl : List SV} {hp : Mem} {d : D} : nmV false i sl hp (.own d) = .ok ⟨d, false⟩ ⟨sl, hp⟩ := (rfl)
theorem nmV_ownT {i : Nat} {sl : List SV} {hp : Mem} {d : D} : nmV true i sl hp (.own d) = .ok ⟨d, false⟩ ⟨put sl i (.val d), hp⟩ := (rfl)
theorem nmV_ro {i : Nat} {sl : List SV} {hp : Mem} {d : D} : nmV false i sl hp (.ro d) = .ok ⟨d, false⟩ ⟨sl, hp⟩ := (rfl)

/-! ### values -/
theorem deref_non {h : Mem} : deref h .non = .non := (rfl)
theorem deref_bl {h : Mem} {b : Bool} : deref h (.bl b) = .bl b := (rfl)
theorem deref_int {h : Mem} {i : Int} : deref h (.int i) = .int i := (rfl)
theorem deref_str {h : Mem} {i : List Nat} : deref h (.str i) = .str i := (rfl)
theorem deref_tup {h : Mem} {i : List D} : deref h (.tup i) = .tup i := (rfl)
theorem deref_lst {h : Mem} {i : List D} : deref h (.lst i) = .lst i := (rfl)
theorem deref_dic {h : Mem} {i j : List D} : deref h (.dic i j) = .dic i j := (rfl)
theorem deref_obj {h : Mem} {c : Nat} {i : List Nat} {j : List D} : deref h (.obj c i j) = .obj c i j := (rfl)
theorem deref_fn {h : Mem} {c : Nat} : deref h (.fn c) = .fn c := (rfl)
theorem deref_scr {h : Mem} {c : List Int} : deref h (.scr c) = .scr c := (rfl)
theorem deref_0 {h : Mem} {d : D} : deref (d :: h) (.ref 0) = d := (rfl)
theorem deref_s {h : Mem} {d : D} {n : Nat} : deref (d :: h) (.ref (n + 1)) = deref h (.ref n) := (rfl)
theorem truth_bl {b fr : Bool} {s : Sta} : truth ⟨.bl b, fr⟩ s = .ok b s := (rfl)
theorem ofO_some {α : Type} {a : α} {s : Sta} : ofO (some a) s = .ok a s := (rfl)
theorem ofC_ok {d : D} {fr : Bool} {h : Mem} {sl : List SV} {hp : Mem} : ofC (.ok d fr h) ⟨sl, hp⟩ = .ok ⟨d, fr⟩ ⟨sl, h⟩ := (rfl)
theorem ofC_exc {c : Nat} {ns : List Nat} {vs : List D} {h : Mem} {sl : List SV} {hp : Mem} : ofC (.exc c ns vs h) ⟨sl, hp⟩ = .exc c ns vs ⟨sl, h⟩ := (rfl)
theorem asVal_ok {d : D} {fr : Bool} {h : Mem} : asVal (.ok d fr h) = .ok d false h := (rfl)
theorem asVal_exc {c : Nat} {ns : List Nat} {vs : List D} {h : Mem} : asVal (.exc c ns vs h) = .exc c ns vs h := (rfl)
theorem newV_f {d : D} {s : Sta} : newV false d s = .ok ⟨d, true⟩ s := (rfl)
theorem newV_t {d : D} {sl : List SV} {hp : Mem} : newV true d ⟨sl, hp⟩ = .ok ⟨.ref hp.length, false⟩ ⟨sl, hp ++ [d]⟩ := (rfl)

/-! ### expressions -/
/-- x[i] -/
def subV (x y : D) : Option D := match x, y with
  | .lst xs, .int i => (ixOf xs.length i).bind fun k => xs[k]?
  | .tup xs, .int i => (ixOf xs.length i).bind fun k => xs[k]?
  | .str cs, .int i => ((ixOf cs.length i).bind fun k => cs[k]?).map fun c => .str [c]
  | .scr xs, .int i => ((ixOf xs.length i).bind fun k => xs[k]?).map fun n => .int n
  | .dic ks vs, k => if D.keyed k then dfind ks vs k else none
  | _, _ => none
def slcV (x : D) (l u : Option Int) : Option RV := match x with
  | .lst xs => some ⟨.lst (cutL xs l u), true⟩
  | .tup xs => some ⟨.tup (cutL xs l u), false⟩
  | .str cs => some ⟨.str (cutL cs l u), false⟩
  | _ => none
def revV (x : D) : Option RV := match x with
  | .lst xs => some ⟨.lst xs.reverse, true⟩
  | _ => none
def rng (a b : Int) : Option RV := if smaller a b then some ⟨.lst (rangeD a b), true⟩ else none
def rngI (a b : D) : Option RV := match a, b with
  | .int m, .int n => rng m n
  | _, _ => none
def negV (x : D) : Option RV := match x with
  | .int i => some ⟨.int (-i), false⟩
  | _ => none
def fldV (P : Prog) (f : Nat) (x : D) : Option RV := match x with
  | .obj c ns vs => if hasF P c f then (fget ns vs f).map fun d => ⟨d, false⟩ else none
  | _ => none
def fld0 (P : Prog) (i f : Nat) (sl : List SV) (hp : Mem) (v : SV) : Res RV := match v with
  | .exc c ns vs => if c < P.excs.length then ofO ((fget ns vs f).map fun d => ⟨d, false⟩) ⟨sl, hp⟩ else .bad
  | v => (nmV false i sl hp v).bind fun x s => ofO (fldV P f (deref s.hp x.d)) s
def isi0 (P : Prog) (i : Nat) (ks : List Kd) (sl : List SV) (hp : Mem) (v : SV) : Res RV := match v with
  | .exc c _ _ => .ok ⟨.bl (ks.any fun k => match k with
          | .bexc c' => ((P.excs[c]?).map fun e => e.2.contains c').getD false
          | _ => false), false⟩ ⟨sl, hp⟩
  | v => (nmV false i sl hp v).bind fun x s => ofO ((isiD P (deref s.hp x.d) ks).map fun k => ⟨.bl k, false⟩) s
/-- a comprehension's turn -/
def lcT (t : Tg) (sl : List SV) (f : Sta → Res (Option D)) (x : D) (h : Mem) : Res (Option D) := match asgT t x (wipeS (sl.map hide) (slotsT t)) with
  | some sl => f ⟨sl, h⟩
  | none => .bad
def lcR (r : Bool) (sl : List SV) (o : Option (List D × Mem)) : Res RV := match o with
  | some (ds, h) => if ds.length ≤ lim then newV r (.lst ds) ⟨sl, h⟩ else .bad
  | none => .bad
def methV (c f : Nat) (call : Nat → List D → Mem → CRes) (x : D) (s : Sta) (ea : Sta → Res (List D)) : Res RV := match deref s.hp x with
  | .obj c' _ _ => if c' = c then (ea s).bind fun ds s => ofC (call f (x :: ds) s.hp) s else .bad
  | _ => .bad
section
variable {P : Prog} {call mk : Nat → List D → Mem → CRes} {esc : Bool} {s : Sta} {sl : List SV} {hp : Mem} {a b c e o : E} {es : List E}
theorem e_nm {i : Nat} : evalE P call mk esc (.nm i) ⟨sl, hp⟩ = nmV esc i sl hp (look sl i) := by rw [evalE]; rfl
theorem e_cst {d : D} : evalE P call mk esc (.cst d) s = .ok ⟨d, false⟩ s := by rw [evalE]
theorem e_glob {g : Nat} : evalE P call mk esc (.glob g) s = ofO ((P.globs[g]?).map fun d => ⟨d, false⟩) s := by
  rw [evalE]; cases P.globs[g]? <;> rfl
theorem e_bin {op : BOp} : evalE P call mk esc (.bin op a b) s = (evalE P call mk false a s).bind fun x s => (evalE P call mk false b s).bind fun y s => ofO (binop op (deref s.hp x.d) (deref s.hp y.d)) s := by rw [evalE]
theorem e_neg : evalE P call mk esc (.neg a) s = (evalE P call mk false a s).bind fun x s => ofO (negV x.d) s := by
  rw [evalE]; congr; funext x s; cases x.d <;> rfl
theorem e_not : evalE P call mk esc (.not a) s = (evalE P call mk false a s).bind fun x s => (truth x s).bind fun b s => .ok ⟨.bl (!b), false⟩ s := by rw [evalE]
theorem e_and : evalE P call mk esc (.and a b) s = (evalE P call mk false a s).bind fun x s => (truth x s).bind fun k s => if k then (evalE P call mk false b s).bind fun y s => (truth y s).bind fun k s => .ok ⟨.bl k, false⟩ s else .ok ⟨.bl false, false⟩ s := by rw [evalE]
theorem e_or : evalE P call mk esc (.or a b) s = (evalE P call mk false a s).bind fun x s => (truth x s).bind fun k s => if k then .ok ⟨.bl true, false⟩ s else (evalE P call mk false b s).bind fun y s => (truth y s).bind fun k s => .ok ⟨.bl k, false⟩ s := by rw [evalE]
theorem e_ife : evalE P call mk esc (.ife c a b) s = (evalE P call mk false c s).bind fun x s => (truth x s).bind fun k s => if k then evalE P call mk esc a s else evalE P call mk esc b s := by rw [evalE]
theorem e_cmp {op : COp} : evalE P call mk esc (.cmp op a b) s = (evalE P call mk false a s).bind fun x s => (evalE P call mk false b s).bind fun y s => (ofO (cmpop op (deref s.hp x.d) (deref s.hp y.d)) s).bind fun k s => .ok ⟨.bl k, false⟩ s := by rw [evalE]
theorem e_cmp2 {op op' : COp} : evalE P call mk esc (.cmp2 op op' a b c) s = (evalE P call mk false a s).bind fun x s => (evalE P call mk false b s).bind fun y s => (ofO (cmpop op x.d y.d) s).bind fun k s =>
      if k then (evalE P call mk false c s).bind fun z s => (ofO (cmpop op' y.d z.d) s).bind fun k s => .ok ⟨.bl k, false⟩ s else .ok ⟨.bl false, false⟩ s := by rw [evalE]
theorem e_tup : evalE P call mk esc (.tup es) s = (evalEs P call mk es s).bind fun ds s => .ok ⟨.tup ds, false⟩ s := by rw [evalE]
theorem e_lst {r : Bool} : evalE P call mk esc (.lst r es) s = (evalEs P call mk es s).bind fun ds s => newV r (.lst ds) s := by rw [evalE]
theorem e_dic {r : Bool} {ks vs : List E} : evalE P call mk esc (.dic r ks vs) s = (evalEs P call mk ks s).bind fun kd s => (evalEs P call mk vs s).bind fun vd s =>
      if keyedL kd && kd.length == vd.length && decide (kd.length ≤ 1) then newV r (.dic kd vd) s else .bad := by rw [evalE]
theorem e_call {f : Nat} : evalE P call mk esc (.call f es) s = (evalEs P call mk es s).bind fun ds s => ofC (call f ds s.hp) s := by rw [evalE]
theorem e_meth {c f : Nat} : evalE P call mk esc (.meth c f o es) s = (evalE P call mk true o s).bind fun x s => methV c f call x.d s (evalEs P call mk es) := by rw [evalE]; rfl
theorem e_make {c : Nat} : evalE P call mk esc (.make false c es) s = (evalEs P call mk es s).bind fun ds s => ofC (asVal (mk c ds s.hp)) s := by rw [evalE]; rfl
theorem e_blt {b : Bf} : evalE P call mk esc (.blt b es) s = (evalBs P call mk es s).bind fun ds s => ofO (runB P.rp b (ds.map (deref s.hp))) s := by rw [evalE]
theorem fldD_eq {f : Nat} {x : RV} : fldD P f x s = ofO (fldV P f (deref s.hp x.d)) s := by
  unfold fldD fldV
  cases deref s.hp x.d <;> try rfl
  dsimp only
  split <;> rfl
theorem e_fldN {i f : Nat} : evalE P call mk esc (.fld (.nm i) f) ⟨sl, hp⟩ = fld0 P i f sl hp (look sl i) := by
  rw [evalE]
  have : fldD P f = fun x s => ofO (fldV P f (deref s.hp x.d)) s := by funext x s; exact fldD_eq
  cases z : look sl i <;> simp only [z, fld0, nmE_eq, this]
theorem fld_gen {f : Nat} (h : ∀ i, o ≠ .nm i) : evalE P call mk esc (.fld o f) s = (evalE P call mk false o s).bind fun x s => ofO (fldV P f (deref s.hp x.d)) s := by
  have h2 : fldD P f = fun x s => ofO (fldV P f (deref s.hp x.d)) s := by funext x s; exact fldD_eq
  rw [← h2]
  cases o <;> first
    | (exact absurd rfl (h _))
    | rfl
theorem e_fldF {f g : Nat} : evalE P call mk esc (.fld (.fld o g) f) s = (evalE P call mk false (.fld o g) s).bind fun x s => ofO (fldV P f (deref s.hp x.d)) s := fld_gen fun i z => by cases z
theorem e_fldS {f : Nat} : evalE P call mk esc (.fld (.sub a b) f) s = (evalE P call mk false (.sub a b) s).bind fun x s => ofO (fldV P f (deref s.hp x.d)) s := fld_gen fun i z => by cases z
theorem e_fldC {f g : Nat} : evalE P call mk esc (.fld (.call g es) f) s = (evalE P call mk false (.call g es) s).bind fun x s => ofO (fldV P f (deref s.hp x.d)) s := fld_gen fun i z => by cases z
theorem e_fldM {f g c : Nat} : evalE P call mk esc (.fld (.meth c g o es) f) s = (evalE P call mk false (.meth c g o es) s).bind fun x s => ofO (fldV P f (deref s.hp x.d)) s := fld_gen fun i z => by cases z
theorem e_sub {i : E} : evalE P call mk esc (.sub a i) s = (evalE P call mk false a s).bind fun x s => (evalE P call mk false i s).bind fun y s => ofO ((subV (deref s.hp x.d) y.d).map fun d => ⟨d, false⟩) s := by
  rw [evalE]; congr; funext x s; congr; funext y s
  cases deref s.hp x.d <;> cases y.d <;> try rfl
  all_goals (simp only [subV, Option.map_map]; first | rfl | (split <;> rfl))
theorem e_slc {lo hi : Option E} : evalE P call mk esc (.slc a lo hi) s = (evalE P call mk false a s).bind fun x s => (evalO P call mk lo s).bind fun l s => (evalO P call mk hi s).bind fun u s => ofO (slcV (deref s.hp x.d) l u) s := by
  rw [evalE]; congr; funext x s; congr; funext l s; congr; funext u s
  cases deref s.hp x.d <;> rfl
theorem e_rev : evalE P call mk esc (.rev a) s = (evalE P call mk false a s).bind fun x s => ofO (revV (deref s.hp x.d)) s := by
  rw [evalE]; congr; funext x s
  cases deref s.hp x.d <;> rfl
theorem e_lrg1 : evalE P call mk esc (.lrg1 a) s = (evalE P call mk false a s).bind fun x s => ofO (rngI (.int 0) x.d) s := by
  rw [evalE]; congr; funext x s
  cases x.d <;> try rfl
  simp only [rngI, rng]; split <;> rfl
theorem e_lrg2 : evalE P call mk esc (.lrg2 a b) s = (evalE P call mk false a s).bind fun x s => (evalE P call mk false b s).bind fun y s => ofO (rngI x.d y.d) s := by
  rw [evalE]; congr; funext x s; congr; funext y s
  cases x.d <;> cases y.d <;> try rfl
  simp only [rngI, rng]; split <;> rfl
theorem e_lc {r : Bool} {t : Tg} {it : It} {c : Option E} : evalE P call mk esc (.lc r e t it c) s = (evalI P call mk false it s).bind fun xs s =>
    lcR r s.sl (lcL (lcT t s.sl fun s => (evalC P call mk c s).bind fun k s => if k then (evalE P call mk true e s).bind fun y s => .ok (some y.d) s else .ok none s) xs s.hp) := by
  rw [evalE]; rfl
theorem e_isiN {i : Nat} {ks : List Kd} : evalE P call mk esc (.isi (.nm i) ks) ⟨sl, hp⟩ = isi0 P i ks sl hp (look sl i) := by
  rw [evalE]
  have h : ∀ (x : RV) (s : Sta), ((ofO (isiD P (deref s.hp x.d) ks) s).bind fun k s => (.ok ⟨.bl k, false⟩ s : Res RV)) = ofO ((isiD P (deref s.hp x.d) ks).map fun k => ⟨.bl k, false⟩) s := fun x s => by cases isiD P (deref s.hp x.d) ks <;> rfl
  cases z : look sl i <;> simp only [z, isi0, nmE_eq, h] <;> rfl
theorem isi_gen {ks : List Kd} (h : ∀ i, a ≠ .nm i) : evalE P call mk esc (.isi a ks) s = (evalE P call mk false a s).bind fun x s => ofO ((isiD P (deref s.hp x.d) ks).map fun k => ⟨.bl k, false⟩) s := by
  have h2 : ∀ (x : RV) (s : Sta), ((ofO (isiD P (deref s.hp x.d) ks) s).bind fun k s => (.ok ⟨.bl k, false⟩ s : Res RV)) = ofO ((isiD P (deref s.hp x.d) ks).map fun k => ⟨.bl k, false⟩) s := fun x s => by cases isiD P (deref s.hp x.d) ks <;> rfl
  have h3 : (fun (x : RV) (s : Sta) => (ofO (isiD P (deref s.hp x.d) ks) s).bind fun k s => (.ok ⟨.bl k, false⟩ s : Res RV)) = fun x s => ofO ((isiD P (deref s.hp x.d) ks).map fun k => ⟨.bl k, false⟩) s := by funext x s; exact h2 x s
  rw [← h3]
  cases a <;> first
    | (exact absurd rfl (h _))
    | rfl
theorem e_isiS {i : E} {ks : List Kd} : evalE P call mk esc (.isi (.sub a i) ks) s = (evalE P call mk false (.sub a i) s).bind fun x s => ofO ((isiD P (deref s.hp x.d) ks).map fun k => ⟨.bl k, false⟩) s := isi_gen fun i z => by cases z
theorem es_nil : evalEs P call mk [] s = .ok [] s := by rw [evalEs]
theorem es_cons : evalEs P call mk (e :: es) s = (evalE P call mk true e s).bind fun x s => (evalEs P call mk es s).bind fun xs s => .ok (x.d :: xs) s := by rw [evalEs]
theorem bs_nil : evalBs P call mk [] s = .ok [] s := by rw [evalBs]
theorem bs_cons : evalBs P call mk (e :: es) s = (evalE P call mk false e s).bind fun x s => (evalBs P call mk es s).bind fun xs s => .ok (x.d :: xs) s := by rw [evalBs]
theorem ps_nil : evalPs P call mk [] s = .ok [] s := by rw [evalPs]
theorem ps_cons : evalPs P call mk (e :: es) s = (evalE P call mk true e s).bind fun x s => (evalPs P call mk es s).bind fun xs s => .ok (x :: xs) s := by rw [evalPs]
theorem o_none : evalO P call mk none s = .ok none s := by rw [evalO]
def intO (d : D) : Option (Option Int) := match d with
  | .int i => some (some i)
  | _ => none
theorem o_some : evalO P call mk (some e) s = (evalE P call mk false e s).bind fun x s => ofO (intO x.d) s := by
  rw [evalO]; congr; funext x s; cases x.d <;> rfl
theorem c_none : evalC P call mk none s = .ok true s := by rw [evalC]
theorem c_some : evalC P call mk (some e) s = (evalE P call mk false e s).bind fun x s => truth x s := by rw [evalC]
theorem i_of : evalI P call mk esc (.of e) s = (evalE P call mk esc e s).bind fun x s => ofO (seq? x.d) s := by rw [evalI]
theorem i_enum {it : It} : evalI P call mk esc (.enum it) s = (evalI P call mk esc it s).bind fun xs s => .ok (xs.zipIdx.map fun p => .tup [.int p.2, p.1]) s := by rw [evalI]
def rg1 (x : D) : Option (List D) := match x with
  | .int n => if small n then some (rangeD 0 n) else none
  | _ => none
def rg2 (x y : D) : Option (List D) := match x, y with
  | .int m, .int n => if small m && small n then some (rangeD m n) else none
  | _, _ => none
theorem i_range1 : evalI P call mk esc (.range1 a) s = (evalE P call mk false a s).bind fun x s => ofO (rg1 x.d) s := by
  rw [evalI]; congr; funext x s; cases x.d <;> try rfl
  simp only [rg1]; split <;> rfl
theorem i_range2 : evalI P call mk esc (.range2 a b) s = (evalE P call mk false a s).bind fun x s => (evalE P call mk false b s).bind fun y s => ofO (rg2 x.d y.d) s := by
  rw [evalI]; congr; funext x s; congr; funext y s; cases x.d <;> cases y.d <;> try rfl
  simp only [rg2]; split <;> rfl
end
end Ev
end

section
/-! EvG2: statements, operators, built-ins: equations. -/
namespace Ev

/-! ### statements -/
def nx (hp : Mem) (o : Option (List SV)) : Out := match o with
  | some sl => .next ⟨sl, hp⟩
  | none => .bad
theorem nx_some {hp : Mem} {sl : List SV} : nx hp (some sl) = .next ⟨sl, hp⟩ := (rfl)
theorem asgT_nm {i : Nat} {d : D} {sl : List SV} : asgT (.nm i) d sl = some (put sl i (.val d)) := by rw [asgT]
theorem asgT_tup {ts : List Tg} {ds : List D} {sl : List SV} : asgT (.tup ts) (.tup ds) sl = asgTs ts ds sl := by rw [asgT]
theorem asgTs_nil {sl : List SV} : asgTs [] [] sl = some sl := by rw [asgTs]
theorem asgTs_cons {t : Tg} {ts : List Tg} {d : D} {ds : List D} {sl : List SV} : asgTs (t :: ts) (d :: ds) sl = (asgT t d sl).bind fun sl => asgTs ts ds sl := by rw [asgTs]
theorem putP_nil {rs : List RV} {sl : List SV} : putP [] rs sl = sl := by cases rs <;> rfl
theorem putP_cons {i : Nat} {is : List Nat} {r : RV} {rs : List RV} {sl : List SV} : putP (i :: is) (r :: rs) sl = putP is rs (put sl i (svOf r)) := (rfl)
theorem killS_nil {sl : List SV} : killS sl [] = sl := (rfl)
theorem killS_cons {sl : List SV} {i : Nat} {is : List Nat} : killS sl (i :: is) = killS (put sl i .un) is := (rfl)
/-- a shared object changed -/
def chR (j : Nat) (sl : List SV) (hp : Mem) (o : Option D) : Out := match o with
  | some d => .next ⟨sl, hp.set j d⟩
  | none => .bad
theorem chR_some {j : Nat} {sl : List SV} {hp : Mem} {d : D} : chR j sl hp (some d) = .next ⟨sl, hp.set j d⟩ := (rfl)
/-- an own one -/
def chN (i : Nat) (sl : List SV) (hp : Mem) (o : Option D) : Out := match o with
  | some d => .next ⟨put sl i (.own d), hp⟩
  | none => .bad
theorem chN_some {i : Nat} {sl : List SV} {hp : Mem} {d : D} : chN i sl hp (some d) = .next ⟨put sl i (.own d), hp⟩ := (rfl)
def chO (i : Nat) (sl : List SV) (hp : Mem) (f : D → Option D) (v : SV) : Out := match v with
  | .own d => chN i sl hp (f d)
  | _ => .bad
theorem chO_own {i : Nat} {sl : List SV} {hp : Mem} {f : D → Option D} {d : D} : chO i sl hp f (.own d) = chN i sl hp (f d) := (rfl)
theorem chg_ref {o : E} {j : Nat} {fr : Bool} {sl : List SV} {hp : Mem} {f : D → Option D} : chg o ⟨.ref j, fr⟩ ⟨sl, hp⟩ f = chR j sl hp (f (deref hp (.ref j))) := by
  show (match f ((hp[j]?).getD .non) with | some d => _ | none => _) = chR j sl hp (f ((hp[j]?).getD .non))
  cases f ((hp[j]?).getD .non) <;> rfl
theorem chg_lst {i : Nat} {fr : Bool} {sl : List SV} {hp : Mem} {f : D → Option D} {xs : List D} : chg (.nm i) ⟨.lst xs, fr⟩ ⟨sl, hp⟩ f = chO i sl hp f (look sl i) := by
  show (match look sl i with | .own d => (match f d with | some d' => _ | none => _) | _ => _) = _
  cases look sl i with
  | own d =>
    show (match f d with | some d' => _ | none => _) = chN i sl hp (f d)
    cases f d <;> rfl
  | _ => rfl
theorem chg_dic {i : Nat} {fr : Bool} {sl : List SV} {hp : Mem} {f : D → Option D} {ks vs : List D} : chg (.nm i) ⟨.dic ks vs, fr⟩ ⟨sl, hp⟩ f = chO i sl hp f (look sl i) := by
  show (match look sl i with | .own d => (match f d with | some d' => _ | none => _) | _ => _) = _
  cases look sl i with
  | own d =>
    show (match f d with | some d' => _ | none => _) = chN i sl hp (f d)
    cases f d <;> rfl
  | _ => rfl
theorem chg_obj {i c : Nat} {fr : Bool} {sl : List SV} {hp : Mem} {f : D → Option D} {ks : List Nat} {vs : List D} : chg (.nm i) ⟨.obj c ks vs, fr⟩ ⟨sl, hp⟩ f = chO i sl hp f (look sl i) := by
  show (match look sl i with | .own d => (match f d with | some d' => _ | none => _) | _ => _) = _
  cases look sl i with
  | own d =>
    show (match f d with | some d' => _ | none => _) = chN i sl hp (f d)
    cases f d <;> rfl
  | _ => rfl
def retN (sl : List SV) (hp : Mem) (v : SV) : Out := match v with
  | .own d => .ret d true ⟨sl, hp⟩
  | .val d => .ret d false ⟨sl, hp⟩
  | _ => .bad
theorem retN_own {sl : List SV} {hp : Mem} {d : D} : retN sl hp (.own d) = .ret d true ⟨sl, hp⟩ := (rfl)
theorem retN_val {sl : List SV} {hp : Mem} {d : D} : retN sl hp (.val d) = .ret d false ⟨sl, hp⟩ := (rfl)
/-- what follows the body of a try -/
def Out.try (o : Out) (f : Nat → List Nat → List D → Sta → Out) : Out := match o with
  | .exc c ns vs s => f c ns vs s
  | .next s => .next s
  | .ret d fr s => .ret d fr s
  | .bad => .bad
theorem try_congr {o o' : Out} {f : Nat → List Nat → List D → Sta → Out} (h : o = o') : o.try f = o'.try f := by rw [h]
theorem tr_next {s : Sta} {f : Nat → List Nat → List D → Sta → Out} : (Out.next s).try f = .next s := (rfl)
theorem tr_ret {s : Sta} {d : D} {fr : Bool} {f : Nat → List Nat → List D → Sta → Out} : (Out.ret d fr s).try f = .ret d fr s := (rfl)
theorem tr_exc {s : Sta} {c : Nat} {ns : List Nat} {vs : List D} {f : Nat → List Nat → List D → Sta → Out} : (Out.exc c ns vs s).try f = f c ns vs s := (rfl)
def augN2 (op : BOp) (i : Nat) (x : D) (y : RV) (s : Sta) : Out := match aug2 op x y.d with
  | some v => .next ⟨put s.sl i (.val v), s.hp⟩
  | none => .bad
def augN1 (i : Nat) (f : D → Out) (v : SV) : Out := match v with
  | .val x => f x
  | _ => .bad
theorem augN1_val {i : Nat} {f : D → Out} {x : D} : augN1 i f (.val x) = f x := (rfl)
theorem augN2_add {i : Nat} {x y : Int} {fr : Bool} {s : Sta} : augN2 .add i (.int x) ⟨.int y, fr⟩ s = .next ⟨put s.sl i (.val (.int (x + y))), s.hp⟩ := (rfl)
theorem augN2_sub {i : Nat} {x y : Int} {fr : Bool} {s : Sta} : augN2 .sub i (.int x) ⟨.int y, fr⟩ s = .next ⟨put s.sl i (.val (.int (x - y))), s.hp⟩ := (rfl)
def raiseO (P : Prog) (c : Nat) (ds : List D) (s : Sta) (o : Option (List Nat × List Nat)) : Out := match o with
  | some x => if x.1.length = ds.length then .exc c x.1 ds s else .bad
  | none => .bad
/-- is it a list? then .. -/
def onL (d : D) (o : Out) : Out := if isL d then o else .bad
theorem onL_lst {xs : List D} {o : Out} : onL (.lst xs) o = o := (rfl)
section
variable {P : Prog} {call mk : Nat → List D → Mem → CRes} {cur : Cur} {s : Sta} {sl : List SV} {hp : Mem} {a b c e o : E} {es : List E} {x : S} {xs ys : List S}
theorem sq_nil : evalSs P call mk cur [] s = .next s := by rw [evalSs]
theorem sq_cons : evalSs P call mk cur (x :: xs) s = (evalS P call mk cur x s).seq (evalSs P call mk cur xs) := by
  rw [evalSs]; cases evalS P call mk cur x s <;> rfl
theorem s_asgN {i : Nat} : evalS P call mk cur (.asg (.nm i) e) s = (evalE P call mk true e s).out fun x s => .next ⟨put s.sl i (svOf x), s.hp⟩ := by rw [evalS]
theorem s_asgT {ts : List Tg} : evalS P call mk cur (.asg (.tup ts) e) s = (evalE P call mk true e s).out fun x s => nx s.hp (asgT (.tup ts) x.d s.sl) := by
  have h : ∀ (x : RV) (s : Sta), (match asgT (.tup ts) x.d s.sl with | some sl => Out.next { s with sl := sl } | none => .bad) = nx s.hp (asgT (.tup ts) x.d s.sl) := fun x s => by cases asgT (.tup ts) x.d s.sl <;> rfl
  rw [evalS]
  · congr 1
  · intro i z; cases z
theorem s_asgP {is : List Nat} : evalS P call mk cur (.asgP is es) s = (evalPs P call mk es s).out fun rs s => .next ⟨putP is rs s.sl, s.hp⟩ := by rw [evalS]
theorem s_setF {f : Nat} : evalS P call mk cur (.setF o f e) s = (evalE P call mk true e s).out fun v s => (evalE P call mk false o s).out fun x s => chg o x s fun d => setFD P d f v.d := by rw [evalS]
theorem s_setI {i : E} : evalS P call mk cur (.setI o i e) s = (evalE P call mk true e s).out fun v s => (evalE P call mk false o s).out fun x s => (evalE P call mk true i s).out fun y s => chg o x s fun d => putI d y.d v.d := by rw [evalS]
theorem s_augN {op : BOp} {i : Nat} : evalS P call mk cur (.augN op i e) ⟨sl, hp⟩ = augN1 i (fun x => (evalE P call mk false e ⟨sl, hp⟩).out (augN2 op i x)) (look sl i) := by
  rw [evalS]
  cases z : look sl i <;> simp only [z, augN1]
  congr 1
theorem s_app : evalS P call mk cur (.app o e) s = (evalE P call mk false o s).out fun x s => onL (deref s.hp x.d) ((evalE P call mk true e s).out fun v s => chg o x s fun d => appD d v.d) := by rw [evalS]; rfl
theorem s_ext : evalS P call mk cur (.ext o e) s = (evalE P call mk false o s).out fun x s => onL (deref s.hp x.d) ((evalE P call mk false e s).out fun v s => chg o x s fun d => extD d (deref s.hp v.d)) := by rw [evalS]; rfl
theorem s_ins {i : E} : evalS P call mk cur (.ins o i e) s = (evalE P call mk false o s).out fun x s => onL (deref s.hp x.d) ((evalE P call mk false i s).out fun k s => (evalE P call mk true e s).out fun v s => chg o x s fun d => insD d k.d v.d) := by rw [evalS]; rfl
theorem s_upd : evalS P call mk cur (.upd o e) s = (evalE P call mk false o s).out fun x s => (evalE P call mk false e s).out fun v s => chg o x s fun d => updD d v.d := by rw [evalS]
theorem s_expr : evalS P call mk cur (.expr e) s = (evalE P call mk false e s).out fun _ s => .next s := by rw [evalS]
theorem s_iff : evalS P call mk cur (.iff c xs ys) s = ((evalE P call mk false c s).bind truth).out fun k s => if k then evalSs P call mk cur xs s else evalSs P call mk cur ys s := by rw [evalS]
theorem s_wh : evalS P call mk cur (.wh c xs) s = loop (whS (evalE P call mk false c) (evalSs P call mk cur xs)) .bad s := by rw [evalS]
theorem s_for {t : Tg} {it : It} : evalS P call mk cur (.for_ t it xs) s = (evalI P call mk true it s).out fun ds s => forL t (evalSs P call mk cur xs) ds s := by rw [evalS]
theorem s_ret0 : evalS P call mk cur (.ret none) s = .ret .non false s := by rw [evalS]
theorem s_retN {i : Nat} : evalS P call mk cur (.ret (some (.nm i))) ⟨sl, hp⟩ = retN sl hp (look sl i) := by
  rw [evalS]; cases z : look sl i <;> simp only [z, retN]
theorem s_retG (h : ∀ i, e ≠ .nm i) : evalS P call mk cur (.ret (some e)) s = (evalE P call mk true e s).out fun x s => .ret x.d x.fr s := by
  cases e <;> first | (exact absurd rfl (h _)) | rfl
theorem s_raise {k : Nat} : evalS P call mk cur (.raise k es) s = (evalEs P call mk es s).out fun ds s => raiseO P k ds s P.excs[k]? := by
  rw [evalS]; congr 1
theorem s_try {hs : List (Nat × Option Nat)} {bs : List (List S)} : evalS P call mk cur (.try_ xs hs bs) s = (evalSs P call mk cur xs s).try fun c ns vs s => evalHs P call mk c ns vs hs bs s := by
  rw [evalS]; cases evalSs P call mk cur xs s <;> rfl
theorem s_pass : evalS P call mk cur .pass s = .next s := by rw [evalS]
theorem s_kill {is : List Nat} : evalS P call mk cur (.kill is) s = .next ⟨killS s.sl is, s.hp⟩ := by rw [evalS]
end
section
variable {P : Prog} {call mk : Nat → List D → Mem → CRes} {cur : Cur} {s : Sta} {a b c o : E} {es ks : List E} {i : E}
theorem r_cst {d : D} : evalS P call mk cur (.ret (some (.cst d))) s = .ret d false s := (rfl)
theorem r_glob {g : Nat} : evalS P call mk cur (.ret (some (.glob g))) s = (evalE P call mk true (.glob g) s).out fun x s => .ret x.d x.fr s := (rfl)
theorem r_bin {op : BOp} : evalS P call mk cur (.ret (some (.bin op a b))) s = (evalE P call mk true (.bin op a b) s).out fun x s => .ret x.d x.fr s := (rfl)
theorem r_neg : evalS P call mk cur (.ret (some (.neg a))) s = (evalE P call mk true (.neg a) s).out fun x s => .ret x.d x.fr s := (rfl)
theorem r_not : evalS P call mk cur (.ret (some (.not a))) s = (evalE P call mk true (.not a) s).out fun x s => .ret x.d x.fr s := (rfl)
theorem r_and : evalS P call mk cur (.ret (some (.and a b))) s = (evalE P call mk true (.and a b) s).out fun x s => .ret x.d x.fr s := (rfl)
theorem r_or : evalS P call mk cur (.ret (some (.or a b))) s = (evalE P call mk true (.or a b) s).out fun x s => .ret x.d x.fr s := (rfl)
theorem r_ife : evalS P call mk cur (.ret (some (.ife a b c))) s = (evalE P call mk true (.ife a b c) s).out fun x s => .ret x.d x.fr s := (rfl)
theorem r_cmp {op : COp} : evalS P call mk cur (.ret (some (.cmp op a b))) s = (evalE P call mk true (.cmp op a b) s).out fun x s => .ret x.d x.fr s := (rfl)
theorem r_cmp2 {op op' : COp} : evalS P call mk cur (.ret (some (.cmp2 op op' a b c))) s = (evalE P call mk true (.cmp2 op op' a b c) s).out fun x s => .ret x.d x.fr s := (rfl)
theorem r_tup : evalS P call mk cur (.ret (some (.tup es))) s = (evalE P call mk true (.tup es) s).out fun x s => .ret x.d x.fr s := (rfl)
theorem r_lst {r : Bool} : evalS P call mk cur (.ret (some (.lst r es))) s = (evalE P call mk true (.lst r es) s).out fun x s => .ret x.d x.fr s := (rfl)
theorem r_dic {r : Bool} : evalS P call mk cur (.ret (some (.dic r es ks))) s = (evalE P call mk true (.dic r es ks) s).out fun x s => .ret x.d x.fr s := (rfl)
theorem r_call {f : Nat} : evalS P call mk cur (.ret (some (.call f es))) s = (evalE P call mk true (.call f es) s).out fun x s => .ret x.d x.fr s := (rfl)
theorem r_callv {f : Nat} : evalS P call mk cur (.ret (some (.callv f es))) s = (evalE P call mk true (.callv f es) s).out fun x s => .ret x.d x.fr s := (rfl)
theorem r_meth {c f : Nat} : evalS P call mk cur (.ret (some (.meth c f o es))) s = (evalE P call mk true (.meth c f o es) s).out fun x s => .ret x.d x.fr s := (rfl)
theorem r_make {r : Bool} {c : Nat} : evalS P call mk cur (.ret (some (.make r c es))) s = (evalE P call mk true (.make r c es) s).out fun x s => .ret x.d x.fr s := (rfl)
theorem r_blt {b : Bf} : evalS P call mk cur (.ret (some (.blt b es))) s = (evalE P call mk true (.blt b es) s).out fun x s => .ret x.d x.fr s := (rfl)
theorem r_fld {f : Nat} : evalS P call mk cur (.ret (some (.fld o f))) s = (evalE P call mk true (.fld o f) s).out fun x s => .ret x.d x.fr s := (rfl)
theorem r_sub : evalS P call mk cur (.ret (some (.sub a i))) s = (evalE P call mk true (.sub a i) s).out fun x s => .ret x.d x.fr s := (rfl)
theorem r_slc {l u : Option E} : evalS P call mk cur (.ret (some (.slc a l u))) s = (evalE P call mk true (.slc a l u) s).out fun x s => .ret x.d x.fr s := (rfl)
theorem r_rev : evalS P call mk cur (.ret (some (.rev a))) s = (evalE P call mk true (.rev a) s).out fun x s => .ret x.d x.fr s := (rfl)
theorem r_lc {r : Bool} {t : Tg} {it : It} {k : Option E} : evalS P call mk cur (.ret (some (.lc r a t it k))) s = (evalE P call mk true (.lc r a t it k) s).out fun x s => .ret x.d x.fr s := (rfl)
theorem r_isi {ks : List Kd} : evalS P call mk cur (.ret (some (.isi a ks))) s = (evalE P call mk true (.isi a ks) s).out fun x s => .ret x.d x.fr s := (rfl)
theorem r_lrg1 : evalS P call mk cur (.ret (some (.lrg1 a))) s = (evalE P call mk true (.lrg1 a) s).out fun x s => .ret x.d x.fr s := (rfl)
theorem r_lrg2 : evalS P call mk cur (.ret (some (.lrg2 a b))) s = (evalE P call mk true (.lrg2 a b) s).out fun x s => .ret x.d x.fr s := (rfl)
theorem r_fstr : evalS P call mk cur (.ret (some (.fstr es))) s = (evalE P call mk true (.fstr es) s).out fun x s => .ret x.d x.fr s := (rfl)
end

/-! ### operators -/
theorem b_add {i j : Int} : binop .add (.int i) (.int j) = some ⟨.int (i + j), false⟩ := (rfl)
theorem b_sub {i j : Int} : binop .sub (.int i) (.int j) = some ⟨.int (i - j), false⟩ := (rfl)
theorem b_mulL {i j : Int} (h : -18446744073709551616 < i ∧ i < 18446744073709551616) : binop .mul (.int i) (.int j) = some ⟨.int (i * j), false⟩ := by
  simp only [binop]; rw [if_pos (.inl (by omega))]
theorem b_mulR {i j : Int} (h : -18446744073709551616 < j ∧ j < 18446744073709551616) : binop .mul (.int i) (.int j) = some ⟨.int (i * j), false⟩ := by
  simp only [binop]; rw [if_pos (.inr (by omega))]
theorem b_fdiv {i j : Int} (h : 0 < j ∧ j < 1073741824) : binop .fdiv (.int i) (.int j) = some ⟨.int (i / j), false⟩ := by
  simp only [binop]; rw [if_pos h]
theorem b_mod {i j : Int} (h : 0 < j) : binop .mod (.int i) (.int j) = some ⟨.int (i % j), false⟩ := by
  simp only [binop]; rw [if_pos h]
theorem b_pow18 : binop .pow (.int 10) (.int 18) = some ⟨.int 1000000000000000000, false⟩ := (rfl)
theorem b_addS {x y : List Nat} (h : x.length + y.length ≤ lim) : binop .add (.str x) (.str y) = some ⟨.str (x ++ y), false⟩ := by
  simp only [binop]; rw [if_pos h]
theorem b_addT {x y : List D} (h : x.length + y.length ≤ lim) : binop .add (.tup x) (.tup y) = some ⟨.tup (x ++ y), false⟩ := by
  simp only [binop]; rw [if_pos h]
theorem b_addL {x y : List D} (h : x.length + y.length ≤ lim) : binop .add (.lst x) (.lst y) = some ⟨.lst (x ++ y), true⟩ := by
  simp only [binop]; rw [if_pos h]
theorem c_eqI {i j : Int} : cmpop .eq (.int i) (.int j) = some (decide (i = j)) := by simp only [cmpop, D.plain, D.pl, D.eqv, Bool.and_self, if_true]; rfl
theorem c_neI {i j : Int} : cmpop .ne (.int i) (.int j) = some (decide (i ≠ j)) := by simp only [cmpop, D.plain, D.pl, D.eqv, Bool.and_self, if_true]; simp; rfl
theorem c_ltI {i j : Int} : cmpop .lt (.int i) (.int j) = some (decide (i < j)) := by simp only [cmpop, D.plain, D.pl, D.alike, isNon, D.ltv, Bool.and_self, if_true, Bool.not_false]
theorem c_gtI {i j : Int} : cmpop .gt (.int i) (.int j) = some (decide (j < i)) := by simp only [cmpop, D.plain, D.pl, D.alike, isNon, D.ltv, Bool.and_self, if_true, Bool.not_false]
theorem c_leI {i j : Int} : cmpop .le (.int i) (.int j) = some (decide (i ≤ j)) := by
  simp only [cmpop, D.plain, D.pl, D.alike, isNon, D.ltv, Bool.and_self, if_true, Bool.not_false, Option.some.injEq]
  by_cases h : j < i
  · rw [decide_eq_true h, decide_eq_false (by omega)]; rfl
  · rw [decide_eq_false h, decide_eq_true (by omega)]; rfl
theorem c_geI {i j : Int} : cmpop .ge (.int i) (.int j) = some (decide (j ≤ i)) := by
  simp only [cmpop, D.plain, D.pl, D.alike, isNon, D.ltv, Bool.and_self, if_true, Bool.not_false, Option.some.injEq]
  by_cases h : i < j
  · rw [decide_eq_true h, decide_eq_false (by omega)]; rfl
  · rw [decide_eq_false h, decide_eq_true (by omega)]; rfl
theorem c_eq {a b : D} (h1 : D.plain a = true) (h2 : D.plain b = true) : cmpop .eq a b = some (D.eqv a b) := by simp only [cmpop, h1, h2, Bool.and_self, if_true]
theorem c_ne {a b : D} (h1 : D.plain a = true) (h2 : D.plain b = true) : cmpop .ne a b = some (!D.eqv a b) := by simp only [cmpop, h1, h2, Bool.and_self, if_true]
theorem c_eqB {a b : Bool} : cmpop .eq (.bl a) (.bl b) = some (a == b) := (rfl)
theorem c_neB {a b : Bool} : cmpop .ne (.bl a) (.bl b) = some (!(a == b)) := (rfl)
theorem beqS {a b : List Nat} : (a == b) = decide (a = b) := by rw [Bool.eq_iff_iff, beq_iff_eq, decide_eq_true_eq]
theorem c_eqS {a b : List Nat} : cmpop .eq (.str a) (.str b) = some (decide (a = b)) := congrArg some beqS
theorem c_neS {a b : List Nat} : cmpop .ne (.str a) (.str b) = some (!decide (a = b)) := congrArg (fun x => some (!x)) beqS
theorem c_eqNN : cmpop .eq .non .non = some true := (rfl)
theorem c_eqLL : cmpop .eq (.lst []) (.lst []) = some true := (rfl)
theorem c_neLL : cmpop .ne (.lst []) (.lst []) = some false := (rfl)
theorem c_isn {a : D} : cmpop .isn a .non = some (isNon a) := (rfl)
theorem c_isnt {a : D} : cmpop .isnt a .non = some (!isNon a) := (rfl)
theorem non_non : isNon .non = true := (rfl)
theorem non_bl {b : Bool} : isNon (.bl b) = false := (rfl)
theorem non_int {b : Int} : isNon (.int b) = false := (rfl)
theorem non_str {b : List Nat} : isNon (.str b) = false := (rfl)
theorem non_tup {b : List D} : isNon (.tup b) = false := (rfl)
theorem non_lst {b : List D} : isNon (.lst b) = false := (rfl)
theorem non_dic {a b : List D} : isNon (.dic a b) = false := (rfl)
theorem non_obj {c : Nat} {a : List Nat} {b : List D} : isNon (.obj c a b) = false := (rfl)
theorem negV_int {i : Int} : negV (.int i) = some ⟨.int (-i), false⟩ := (rfl)

/-! ### isinstance -/
section
variable {P : Prog} {ks : List Kd}
theorem isi_non : isiD P .non ks = some (ks.any (isKd .non)) := (rfl)
theorem isi_bl {b : Bool} : isiD P (.bl b) ks = some (ks.any (isKd (.bl b))) := (rfl)
theorem isi_int {i : Int} : isiD P (.int i) ks = some (ks.any (isKd (.int i))) := (rfl)
theorem isi_str {i : List Nat} : isiD P (.str i) ks = some (ks.any (isKd (.str i))) := (rfl)
theorem isi_tup {i : List D} : isiD P (.tup i) ks = some (ks.any (isKd (.tup i))) := (rfl)
theorem isi_lst {i : List D} : isiD P (.lst i) ks = some (ks.any (isKd (.lst i))) := (rfl)
theorem isi_dic {i j : List D} : isiD P (.dic i j) ks = some (ks.any (isKd (.dic i j))) := (rfl)
theorem isi_obj {c : Nat} {i : List Nat} {j : List D} (h : c < P.flds.length) : isiD P (.obj c i j) ks = some (ks.any (isKd (.obj c i j))) := by
  unfold isiD kdOk; rw [if_pos (decide_eq_true h)]
theorem isi0_val {i : Nat} {sl : List SV} {hp : Mem} {d : D} : isi0 P i ks sl hp (.val d) = ofO ((isiD P (deref hp d) ks).map fun k => ⟨.bl k, false⟩) ⟨sl, hp⟩ := (rfl)
theorem isi0_own {i : Nat} {sl : List SV} {hp : Mem} {d : D} : isi0 P i ks sl hp (.own d) = ofO ((isiD P (deref hp d) ks).map fun k => ⟨.bl k, false⟩) ⟨sl, hp⟩ := (rfl)
theorem isi0_ro {i : Nat} {sl : List SV} {hp : Mem} {d : D} : isi0 P i ks sl hp (.ro d) = ofO ((isiD P (deref hp d) ks).map fun k => ⟨.bl k, false⟩) ⟨sl, hp⟩ := (rfl)
theorem fld0_val {i f : Nat} {sl : List SV} {hp : Mem} {d : D} : fld0 P i f sl hp (.val d) = ofO (fldV P f (deref hp d)) ⟨sl, hp⟩ := (rfl)
theorem fld0_own {i f : Nat} {sl : List SV} {hp : Mem} {d : D} : fld0 P i f sl hp (.own d) = ofO (fldV P f (deref hp d)) ⟨sl, hp⟩ := (rfl)
theorem fld0_ro {i f : Nat} {sl : List SV} {hp : Mem} {d : D} : fld0 P i f sl hp (.ro d) = ofO (fldV P f (deref hp d)) ⟨sl, hp⟩ := (rfl)
theorem fld0_exc {i f c : Nat} {sl : List SV} {hp : Mem} {ns : List Nat} {vs : List D} (h : c < P.excs.length) : fld0 P i f sl hp (.exc c ns vs) = ofO ((fget ns vs f).map fun d => ⟨d, false⟩) ⟨sl, hp⟩ := by
  show (if _ then _ else _) = _; rw [if_pos h]
theorem fldV_obj {f c : Nat} {ns : List Nat} {vs : List D} (h : hasF P c f = true) : fldV P f (.obj c ns vs) = (fget ns vs f).map fun d => ⟨d, false⟩ := by
  unfold fldV; dsimp only; rw [if_pos h]
theorem fget_cons {n f : Nat} {v : D} {ns : List Nat} {vs : List D} : fget (n :: ns) (v :: vs) f = if n = f then some v else fget ns vs f := (rfl)
theorem fput_cons {n f : Nat} {v w : D} {ns : List Nat} {vs : List D} : fput (n :: ns) (w :: vs) f v = if n = f then (n :: ns, v :: vs) else (n :: (fput ns vs f v).1, w :: (fput ns vs f v).2) := (rfl)
theorem fput_nil {f : Nat} {v : D} : fput [] [] f v = ([f], [v]) := (rfl)
theorem setFD_obj {f c : Nat} {v : D} {ns : List Nat} {vs : List D} (h : hasF P c f = true) (h2 : ns.length < 900) : setFD P (.obj c ns vs) f v = some (.obj c (fput ns vs f v).1 (fput ns vs f v).2) := by
  unfold setFD; dsimp only; rw [if_pos (by simp [h, h2])]
end
theorem k_int1 {i : Int} : isKd (.int i) .int = true := (rfl)
theorem k_int2 {b : Bool} : isKd (.bl b) .int = true := (rfl)

/-! ### subscripts -/
theorem ix_pos {n : Nat} {i : Int} (h : 0 ≤ i ∧ i < n) : ixOf n i = some i.toNat := by unfold ixOf; rw [if_pos h.1, if_pos h.2]
theorem ix_neg {n : Nat} {i : Int} (h : i < 0 ∧ 0 ≤ i + n) : ixOf n i = some (i + n).toNat := by unfold ixOf; rw [if_neg (by omega), if_pos h.2]
theorem sub_T0 {x : D} {xs : List D} : subV (.tup (x :: xs)) (.int 0) = some x := by simp only [subV]; rw [ix_pos (by simp)]; rfl
theorem sub_T1 {x y : D} {xs : List D} : subV (.tup (x :: y :: xs)) (.int 1) = some y := by simp only [subV]; rw [ix_pos (by simp; omega)]; rfl
theorem sub_T2 {x y z : D} {xs : List D} : subV (.tup (x :: y :: z :: xs)) (.int 2) = some z := by simp only [subV]; rw [ix_pos (by simp; omega)]; rfl
theorem sub_T3 {x y z u : D} {xs : List D} : subV (.tup (x :: y :: z :: u :: xs)) (.int 3) = some u := by simp only [subV]; rw [ix_pos (by simp; omega)]; rfl
theorem sub_T4 {x y z u v : D} {xs : List D} : subV (.tup (x :: y :: z :: u :: v :: xs)) (.int 4) = some v := by simp only [subV]; rw [ix_pos (by simp; omega)]; rfl
theorem sub_L0 {x : D} {xs : List D} : subV (.lst (x :: xs)) (.int 0) = some x := by simp only [subV]; rw [ix_pos (by simp)]; rfl
theorem sub_L1 {x y : D} {xs : List D} : subV (.lst (x :: y :: xs)) (.int 1) = some y := by simp only [subV]; rw [ix_pos (by simp; omega)]; rfl
theorem sub_L2 {x y z : D} {xs : List D} : subV (.lst (x :: y :: z :: xs)) (.int 2) = some z := by simp only [subV]; rw [ix_pos (by simp; omega)]; rfl
theorem sub_L3 {x y z u : D} {xs : List D} : subV (.lst (x :: y :: z :: u :: xs)) (.int 3) = some u := by simp only [subV]; rw [ix_pos (by simp; omega)]; rfl
theorem sub_L4 {x y z u v : D} {xs : List D} : subV (.lst (x :: y :: z :: u :: v :: xs)) (.int 4) = some v := by simp only [subV]; rw [ix_pos (by simp; omega)]; rfl
theorem sub_LI {xs : List D} {i : Int} {k : Nat} {x : D} (h : i = k) (e : xs[k]? = some x) : subV (.lst xs) (.int i) = some x := by
  have hk := (List.getElem?_eq_some_iff.mp e).1
  simp only [subV]; rw [ix_pos (by omega), Option.bind_some, show i.toNat = k by omega, e]
theorem sub_TI {xs : List D} {i : Int} {k : Nat} {x : D} (h : i = k) (e : xs[k]? = some x) : subV (.tup xs) (.int i) = some x := by
  have hk := (List.getElem?_eq_some_iff.mp e).1
  simp only [subV]; rw [ix_pos (by omega), Option.bind_some, show i.toNat = k by omega, e]
theorem sub_scr {xs : List Int} {i : Int} {k : Nat} {x : Int} (h : i = k) (e : xs[k]? = some x) : subV (.scr xs) (.int i) = some (.int x) := by
  have hk := (List.getElem?_eq_some_iff.mp e).1
  simp only [subV]; rw [ix_pos (by omega), Option.bind_some, show i.toNat = k by omega, e]; rfl

/-! ### built-ins -/
section
variable {rp : D → Option (List Nat)}
theorem lenT {xs : List D} : runB rp .len [.tup xs] = some ⟨.int xs.length, false⟩ := (rfl)
theorem lenL {xs : List D} : runB rp .len [.lst xs] = some ⟨.int xs.length, false⟩ := (rfl)
theorem lenS {xs : List Nat} : runB rp .len [.str xs] = some ⟨.int xs.length, false⟩ := (rfl)
theorem lenDi {xs ys : List D} : runB rp .len [.dic xs ys] = some ⟨.int xs.length, false⟩ := (rfl)
theorem lenSc {xs : List Int} : runB rp .len [.scr xs] = some ⟨.int xs.length, false⟩ := (rfl)
theorem tupL {xs : List D} : runB rp .tuple [.lst xs] = some ⟨.tup xs, false⟩ := (rfl)
theorem tupT {xs : List D} : runB rp .tuple [.tup xs] = some ⟨.tup xs, false⟩ := (rfl)
theorem lstL {xs : List D} : runB rp .list [.lst xs] = some ⟨.lst xs, true⟩ := (rfl)
theorem lstT {xs : List D} : runB rp .list [.tup xs] = some ⟨.lst xs, true⟩ := (rfl)
theorem absI {i : Int} : runB rp .abs [.int i] = some ⟨.int (if i < 0 then -i else i), false⟩ := (rfl)
theorem intI {i : Int} : runB rp .int [.int i] = some ⟨.int i, false⟩ := (rfl)
theorem intB {b : Bool} : runB rp .int [.bl b] = some ⟨.int (if b then 1 else 0), false⟩ := (rfl)
theorem min2I {i j : Int} : runB rp .min2 [.int i, .int j] = some ⟨.int (if j < i then j else i), false⟩ := (rfl)
theorem max2I {i j : Int} : runB rp .max2 [.int i, .int j] = some ⟨.int (if j > i then j else i), false⟩ := (rfl)
end
theorem raiseO_some {P : Prog} {c : Nat} {ds : List D} {s : Sta} {x : List Nat × List Nat} (h : x.1.length = ds.length) : raiseO P c ds s (some x) = .exc c x.1 ds s := by
  show (if _ then _ else _) = _; rw [if_pos h]
theorem lcR_f {sl : List SV} {ds : List D} {h : Mem} (hl : ds.length ≤ lim) : lcR false sl (some (ds, h)) = .ok ⟨.lst ds, true⟩ ⟨sl, h⟩ := by
  show (if _ then _ else _) = _; rw [if_pos hl]; rfl
theorem seqL {xs : List D} : seq? (.lst xs) = some xs := (rfl)
theorem seqT {xs : List D} : seq? (.tup xs) = some xs := (rfl)
theorem seqS {xs : List Nat} : seq? (.str xs) = some (chars xs) := (rfl)
theorem appD_lst {xs : List D} {v : D} (h : xs.length < lim) : appD (.lst xs) v = some (.lst (xs ++ [v])) := by
  show (if _ then _ else _) = _; rw [if_pos h]
theorem extD_lst {xs ys : List D} (h : xs.length + ys.length ≤ lim) : extD (.lst xs) (.lst ys) = some (.lst (xs ++ ys)) := by
  show (if _ then _ else _) = _; rw [if_pos h]
theorem insD_lst {xs : List D} {k : Int} {v : D} (h : 0 ≤ k ∧ k ≤ xs.length ∧ xs.length < lim) : insD (.lst xs) (.int k) v = some (.lst (xs.take k.toNat ++ v :: xs.drop k.toNat)) := by
  show (if _ then _ else _) = _; rw [if_pos h]
theorem putI_L {xs : List D} {i : Int} {v : D} (h : 0 ≤ i ∧ i < xs.length) : putI (.lst xs) (.int i) v = some (.lst (xs.set i.toNat v)) := by
  show (ixOf _ _).map _ = _; rw [ix_pos h]; rfl

/-! ### a comprehension's turn -/
def lcN (o : Option (List SV)) (f : Sta → Res (Option D)) (h : Mem) : Res (Option D) := match o with
  | some sl => f ⟨sl, h⟩
  | none => .bad
theorem lcN_some {sl : List SV} {f : Sta → Res (Option D)} {h : Mem} : lcN (some sl) f h = f ⟨sl, h⟩ := (rfl)
theorem lcT_eq {t : Tg} {sl : List SV} {f : Sta → Res (Option D)} {x : D} {h : Mem} : lcT t sl f x h = lcN (asgT t x (wipeS (sl.map hide) (slotsT t))) f h := by
  unfold lcT lcN; cases asgT t x (wipeS (sl.map hide) (slotsT t)) <;> rfl
theorem wipeS_nil {sl : List SV} : wipeS sl [] = sl := (rfl)
theorem wipeS_cons {sl : List SV} {i : Nat} {is : List Nat} : wipeS sl (i :: is) = wipeS (put sl i .un) is := (rfl)
theorem slotsT_nm {i : Nat} : slotsT (.nm i) = [i] := by rw [slotsT]
theorem slotsT_tup {ts : List Tg} : slotsT (.tup ts) = slotsTs ts := by rw [slotsT]
theorem slotsTs_nil : slotsTs [] = [] := by rw [slotsTs]
theorem slotsTs_cons {t : Tg} {ts : List Tg} : slotsTs (t :: ts) = slotsT t ++ slotsTs ts := by rw [slotsTs]
theorem hide_un : hide .un = .un := (rfl)
theorem hide_val {d : D} : hide (.val d) = .val d := (rfl)
theorem hide_own {d : D} : hide (.own d) = .ro d := (rfl)
theorem hide_ro {d : D} : hide (.ro d) = .ro d := (rfl)
theorem hide_exc {c : Nat} {ns : List Nat} {vs : List D} : hide (.exc c ns vs) = .un := (rfl)

/-! ### calls -/
theorem fin_next {s : Sta} : fin (.next s) = .ok .non false s.hp := (rfl)
theorem fin_ret {d : D} {fr : Bool} {s : Sta} : fin (.ret d fr s) = .ok d fr s.hp := (rfl)
theorem fin_exc {c : Nat} {ns : List Nat} {vs : List D} {s : Sta} : fin (.exc c ns vs s) = .exc c ns vs s.hp := (rfl)
theorem run_fn {P : Prog} {k f : Nat} {args : List D} {h : Mem} {fn : Fn} (e : P.fns[f]? = some fn) (hl : args.length = fn.np) : (run P (k + 1)).1 f args h = fin (evalSs P (run P k).1 (run P k).2 none fn.body ⟨slots0 fn (args.map .val), h⟩) := by
  rw [run]; simp only [e]; rw [if_pos hl]
theorem run_mk {P : Prog} {k c f : Nat} {args : List D} {h : Mem} {fn : Fn} (ei : P.inits[c]? = some f) (e : P.fns[f]? = some fn) (hl : args.length + 1 = fn.np) : (run P (k + 1)).2 c args h = finI (evalSs P (run P k).1 (run P k).2 none fn.body ⟨slots0 fn (.own (.obj c [] []) :: args.map .val), h⟩) := by
  rw [run]; simp only [ei, Option.bind_some, e]; rw [if_pos hl]

/-! ### loops -/
theorem forL_nil {t : Tg} {body : Sta → Out} {s : Sta} : forL t body [] s = .next s := (rfl)
theorem forL_cons {t : Tg} {body : Sta → Out} {x : D} {xs : List D} {s : Sta} : forL t body (x :: xs) s = (nx s.hp (asgT t x s.sl)).seq fun s => (body s).seq (forL t body xs) := by
  show (match asgT t x s.sl with | some sl => _ | none => _) = _
  cases asgT t x s.sl with
  | none => rfl
  | some sl =>
    show (match body ⟨sl, s.hp⟩ with | .next s' => _ | o => _) = (body ⟨sl, s.hp⟩).seq (forL t body xs)
    cases body ⟨sl, s.hp⟩ <;> rfl
/-- a loop that goes to its end -/
theorem forL_inv {t : Tg} {body : Sta → Out} (I : List D → Sta → Prop) : ∀ {xs : List D} {s : Sta}, I xs s → (∀ x xs s, I (x :: xs) s → ∃ s', (nx s.hp (asgT t x s.sl)).seq body = .next s' ∧ I xs s') → ∃ s', forL t body xs s = .next s' ∧ I [] s'
  | [], s, h, _ => ⟨s, rfl, h⟩
  | x :: xs, s, h, H => by
    obtain ⟨s1, e1, h1⟩ := H x xs s h
    obtain ⟨s2, e2, h2⟩ := forL_inv I h1 H
    refine ⟨s2, ?_, h2⟩
    rw [forL_cons]
    cases z : nx s.hp (asgT t x s.sl) with
    | next s0 =>
      rw [z] at e1
      rw [seq_next] at e1 ⊢
      rw [e1, seq_next, e2]
    | ret d fr s0 => rw [z] at e1; cases e1
    | exc c ns vs s0 => rw [z] at e1; cases e1
    | bad => rw [z] at e1; cases e1
/-- a while that goes to its end, by a measure -/
theorem wh_inv {c : Sta → Res RV} {body : Sta → Out} (I : Nat → Sta → Prop) : ∀ {n : Nat} {s : Sta}, I n s → (∀ n s, I n s → (∃ s0 fr, c s = .ok ⟨.bl false, fr⟩ s0 ∧ I 0 s0) ∨ ∃ s0 s1 fr m, c s = .ok ⟨.bl true, fr⟩ s0 ∧ body s0 = .next s1 ∧ m < n ∧ I m s1) → ∃ s' fr s'', loop (whS c body) .bad s = .next s' ∧ I 0 s' ∧ c s'' = .ok ⟨.bl false, fr⟩ s' := by
  intro n
  induction n using Nat.strongRecOn with
  | _ n ih =>
    intro s h H
    rcases H n s h with ⟨s0, fr, e, h0⟩ | ⟨s0, s1, fr, m, e, e2, hm, h1⟩
    · refine ⟨s0, fr, s, loop_stop ?_, h0, e⟩
      unfold whS
      rw [e]; rfl
    · obtain ⟨s', fr', s'', q1, q2, q3⟩ := ih m hm h1 H
      refine ⟨s', fr', s'', ?_, q2, q3⟩
      rw [← q1]
      refine loop_again ?_
      unfold whS
      rw [e]
      show (match body s0 with | .next s => _ | o => _) = _
      rw [e2]
end Ev
end

section
/-! EvG3: loops and comprehensions. -/
namespace Ev

/-! ### while -/
theorem wh_stop {c : Sta → Res RV} {body : Sta → Out} {s s' : Sta} (h : (c s).bind truth = .ok false s') : loop (whS c body) .bad s = .next s' := loop_stop (by unfold whS; rw [h])
theorem wh_go {c : Sta → Res RV} {body : Sta → Out} {s s1 s2 : Sta} (h : (c s).bind truth = .ok true s1) (h2 : body s1 = .next s2) : loop (whS c body) .bad s = loop (whS c body) .bad s2 :=
  loop_again (by unfold whS; rw [h]; show (match body s1 with | .next s => _ | o => _) = _; rw [h2])

/-! ### comprehensions -/
section
variable {t : Tg} {sl : List SV} {f : Sta → Res (Option D)} {h : Mem} {α β σ : Type}
def consO (o : Option D) (r : List D) : List D := match o with
  | some d => d :: r
  | none => r
theorem lcL_cons {F : D → Mem → Res (Option D)} {x : D} {xs : List D} {h h1 h2 : Mem} {o : Option D} {r : List D} {s : Sta} (e : F x h = .ok o s) (hs : s.hp = h1) (e2 : lcL F xs h1 = some (r, h2)) : lcL F (x :: xs) h = some (consO o r, h2) := by
  subst hs
  simp only [lcL, e, e2]
  cases o <;> rfl
theorem lcL_nil {F : D → Mem → Res (Option D)} {h : Mem} : lcL F [] h = some ([], h) := rfl
/-- a comprehension that changes nothing shared -/
theorem lc_gen (g : α → Option D) (enc : α → D) : ∀ {l : List α}, (∀ a ∈ l, ∃ s, lcT t sl f (enc a) h = .ok (g a) s ∧ s.hp = h) → lcL (lcT t sl f) (l.map enc) h = some (l.filterMap g, h)
  | [], _ => rfl
  | a :: l, H => by
    obtain ⟨s, e1, e2⟩ := H a List.mem_cons_self
    rw [List.map_cons, lcL_cons e1 e2 (lc_gen g enc fun b hb => H b (List.mem_cons_of_mem _ hb)), List.filterMap_cons]
    cases z : g a <;> simp only [consO]
theorem lc_map (e enc : α → D) {l : List α} (H : ∀ a ∈ l, ∃ s, lcT t sl f (enc a) h = .ok (some (e a)) s ∧ s.hp = h) : lcL (lcT t sl f) (l.map enc) h = some (l.map e, h) := by
  rw [lc_gen (fun a => some (e a)) enc H]
  congr 2
  induction l with
  | nil => rfl
  | cons a l ih => rw [List.filterMap_cons, List.map_cons, ih fun b hb => H b (List.mem_cons_of_mem _ hb)]
theorem lc_filter (p : α → Bool) (e enc : α → D) {l : List α} (H : ∀ a ∈ l, ∃ s, lcT t sl f (enc a) h = .ok (if p a = true then some (e a) else none) s ∧ s.hp = h) : lcL (lcT t sl f) (l.map enc) h = some ((l.filter p).map e, h) := by
  rw [lc_gen (fun a => if p a = true then some (e a) else none) enc H]
  congr 2
  induction l with
  | nil => rfl
  | cons a l ih =>
    rw [List.filterMap_cons, List.filter_cons]
    split
    · rename_i z
      split at z
      · cases z
      · rename_i z2; rw [if_neg z2]; exact ih fun b hb => H b (List.mem_cons_of_mem _ hb)
    · rename_i z
      split at z
      · rename_i z2
        cases z
        rw [if_pos z2, List.map_cons, ih fun b hb => H b (List.mem_cons_of_mem _ hb)]
      · cases z
/-- nothing passes -/
theorem lc_none (enc : α → D) {l : List α} (H : ∀ a ∈ l, ∃ s, lcT t sl f (enc a) h = .ok none s ∧ s.hp = h) : lcL (lcT t sl f) (l.map enc) h = some ([], h) := by
  rw [lc_gen (fun _ => none) enc H]
  congr 2
  induction l with
  | nil => rfl
  | cons a l ih => rw [List.filterMap_cons]; exact ih fun b hb => H b (List.mem_cons_of_mem _ hb)
/-- n draws, one behind another -/
def draws (step : σ → β × σ) : Nat → σ → List β × σ
  | 0, w => ([], w)
  | n + 1, w => let r := step w; let q := draws step n r.2; (r.1 :: q.1, q.2)
theorem draws_len {step : σ → β × σ} : ∀ {n : Nat} {w : σ}, (draws step n w).1.length = n
  | 0, _ => rfl
  | n + 1, w => by show (draws step n (step w).2).1.length + 1 = n + 1; rw [draws_len]
theorem draws_all {step : σ → β × σ} {Q : β → Prop} (H : ∀ w, Q (step w).1) : ∀ {n : Nat} {w : σ}, ∀ b ∈ (draws step n w).1, Q b
  | 0, _, b, hb => nomatch hb
  | n + 1, w, b, hb => by
    rcases List.mem_cons.mp (show b ∈ (step w).1 :: (draws step n (step w).2).1 from hb) with z | z
    · subst z; exact H w
    · exact draws_all H b z
theorem lc_draw (step : σ → β × σ) (e : β → D) (em : σ → Mem) : ∀ {xs : List D} {w : σ}, (∀ x ∈ xs, ∀ w, ∃ s, lcT t sl f x (em w) = .ok (some (e (step w).1)) s ∧ s.hp = em (step w).2) → lcL (lcT t sl f) xs (em w) = some ((draws step xs.length w).1.map e, em (draws step xs.length w).2)
  | [], w, _ => rfl
  | x :: xs, w, H => by
    obtain ⟨s, e1, e2⟩ := H x List.mem_cons_self w
    rw [lcL_cons e1 e2 (lc_draw step e em fun y hy => H y (List.mem_cons_of_mem _ hy))]
    rfl
end

/-! ### ranges -/
theorem small_ok {i : Int} (h : -1073741824 < i ∧ i < 1073741824) : small i = true := decide_eq_true h
theorem rg1_ok {n : Int} (h : -1073741824 < n ∧ n < 1073741824) : rg1 (.int n) = some (rangeD 0 n) := by show (if small n then _ else _) = _; rw [if_pos (small_ok h)]
theorem rg2_ok {m n : Int} (h : -1073741824 < m ∧ m < 1073741824 ∧ -1073741824 < n ∧ n < 1073741824) : rg2 (.int m) (.int n) = some (rangeD m n) := by
  show (if small m && small n then _ else _) = _; rw [if_pos (by rw [small_ok ⟨h.1, h.2.1⟩, small_ok ⟨h.2.2.1, h.2.2.2⟩]; rfl)]
theorem rngI_ok {m n : Int} (h : -1073741824 < m ∧ m < 1073741824 ∧ -1073741824 < n ∧ n < 1073741824 ∧ n - m ≤ 16777216) : rngI (.int m) (.int n) = some ⟨.lst (rangeD m n), true⟩ := by
  show (if smaller m n then _ else _) = _; rw [if_pos (show smaller m n = true from decide_eq_true h)]
theorem rangeD_len {a b : Int} : (rangeD a b).length = (b - a).toNat := by unfold rangeD; rw [List.length_map, List.length_range]
/-- the whole numbers from a up to b -/
def intR (a b : Int) : List Int := (List.range (b - a).toNat).map fun (k : Nat) => a + (k : Int)
theorem rangeD_eq {a b : Int} : rangeD a b = (intR a b).map D.int := by unfold rangeD intR; rw [List.map_map]; rfl
theorem mem_ints {a b i : Int} : i ∈ intR a b ↔ a ≤ i ∧ i < b := by
  unfold intR
  rw [List.mem_map]
  constructor
  · rintro ⟨k, hk, rfl⟩
    rw [List.mem_range] at hk
    omega
  · rintro ⟨h1, h2⟩
    exact ⟨(i - a).toNat, by rw [List.mem_range]; omega, by omega⟩
theorem ints_len {a b : Int} : (intR a b).length = (b - a).toNat := by unfold intR; rw [List.length_map, List.length_range]
theorem ints_nil {a b : Int} (h : b ≤ a) : intR a b = [] := by unfold intR; rw [show (b - a).toNat = 0 by omega]; rfl
theorem ints_cons {a b : Int} (h : a < b) : intR a b = a :: intR (a + 1) b := by
  unfold intR
  rw [show (b - a).toNat = (b - (a + 1)).toNat + 1 by omega, List.range_succ_eq_map, List.map_cons, List.map_map]
  congr 1
  · simp
  · apply List.map_congr_left
    intro k _
    simp only [Function.comp]
    omega
theorem ints_snoc {a b : Int} (h : a ≤ b) : intR a (b + 1) = intR a b ++ [b] := by
  unfold intR
  rw [show (b + 1 - a).toNat = (b - a).toNat + 1 by omega, List.range_succ, List.map_append]
  congr 1
  simp only [List.map_cons, List.map_nil]
  congr 1
  omega

/-! ### data that can be compared -/
def D.fine : Nat → D → Prop
  | 0, d => match d with
    | .non => True
    | .bl _ => True
    | .int _ => True
    | .str _ => True
    | _ => False
  | n + 1, d => match d with
    | .non => True
    | .bl _ => True
    | .int _ => True
    | .str _ => True
    | .tup xs => xs.length ≤ lim ∧ ∀ x ∈ xs, D.fine n x
    | .lst xs => xs.length ≤ lim ∧ ∀ x ∈ xs, D.fine n x
    | _ => False
theorem plL_all {n : Nat} : ∀ {xs : List D}, (∀ x ∈ xs, D.pl n x = true) → plL n xs = true
  | [], _ => by rw [plL]
  | y :: ys, h => by rw [plL, h y List.mem_cons_self, plL_all fun x hx => h x (List.mem_cons_of_mem _ hx)]; rfl
theorem fine_pl : ∀ (n m : Nat) (d : D), n ≤ m → D.fine n d → D.pl m d = true
  | n, m, .non, _, _ => by cases m <;> rfl
  | n, m, .bl _, _, _ => by cases m <;> rfl
  | n, m, .int _, _, _ => by cases m <;> rfl
  | n, m, .str _, _, _ => by cases m <;> rfl
  | 0, m, .tup xs, _, h => h.elim
  | 0, m, .lst xs, _, h => h.elim
  | n + 1, 0, .tup _, hm, _ => by omega
  | n + 1, 0, .lst _, hm, _ => by omega
  | n + 1, m + 1, .tup xs, hm, h => by rw [D.pl]; exact plL_all fun x hx => fine_pl n m x (by omega) (h.2 x hx)
  | n + 1, m + 1, .lst xs, hm, h => by rw [D.pl]; exact plL_all fun x hx => fine_pl n m x (by omega) (h.2 x hx)
  | n, m, .dic _ _, _, h => by cases n <;> exact h.elim
  | n, m, .obj _ _ _, _, h => by cases n <;> exact h.elim
  | n, m, .fn _, _, h => by cases n <;> exact h.elim
  | n, m, .ref _, _, h => by cases n <;> exact h.elim
  | n, m, .scr _, _, h => by cases n <;> exact h.elim
mutual
theorem eqv_refl : ∀ (n : Nat) (d : D), D.pl n d = true → D.eqv d d = true
  | _, .non, _ => by rw [D.eqv]
  | _, .bl b, _ => by rw [D.eqv]; exact beq_self_eq_true b
  | _, .int i, _ => by rw [D.eqv]; exact beq_self_eq_true i
  | _, .str i, _ => by rw [D.eqv]; exact beq_self_eq_true i
  | 0, .tup xs, h => by cases h
  | n + 1, .tup xs, h => by rw [D.eqv]; rw [D.pl] at h; exact eqvL_refl n xs h
  | 0, .lst xs, h => by cases h
  | n + 1, .lst xs, h => by rw [D.eqv]; rw [D.pl] at h; exact eqvL_refl n xs h
  | n, .dic _ _, h => by cases n <;> cases h
  | n, .obj _ _ _, h => by cases n <;> cases h
  | n, .fn _, h => by cases n <;> cases h
  | n, .ref _, h => by cases n <;> cases h
  | n, .scr _, h => by cases n <;> cases h
theorem eqvL_refl : ∀ (n : Nat) (ds : List D), plL n ds = true → eqvL ds ds = true
  | _, [], _ => by rw [eqvL]
  | n, d :: ds, h => by
    rw [plL, Bool.and_eq_true] at h
    rw [eqvL, eqv_refl n d h.1, eqvL_refl n ds h.2]; rfl
end
end Ev
end

section
/-! EvG4: except clauses; max, min, sum over numbers. -/
namespace Ev

/-! ### except -/
theorem raiseO_0 {P : Prog} {c : Nat} {s : Sta} {m : List Nat} : raiseO P c [] s (some ([], m)) = .exc c [] [] s := rfl
theorem raiseO_1 {P : Prog} {c a : Nat} {d : D} {s : Sta} {m : List Nat} : raiseO P c [d] s (some ([a], m)) = .exc c [a] [d] s := rfl
theorem raiseO_2 {P : Prog} {c a b : Nat} {d e : D} {s : Sta} {m : List Nat} : raiseO P c [d, e] s (some ([a, b], m)) = .exc c [a, b] [d, e] s := rfl
theorem drop_un : dropX .un = .un := rfl
theorem drop_val {d : D} : dropX (.val d) = .val d := rfl
theorem drop_own {d : D} : dropX (.own d) = .own d := rfl
theorem drop_ro {d : D} : dropX (.ro d) = .ro d := rfl
theorem drop_exc {c : Nat} {ns : List Nat} {vs : List D} : dropX (.exc c ns vs) = .un := rfl
theorem endX_nextS {i : Nat} {sl : List SV} {hp : Mem} : endX (some i) (.next ⟨sl, hp⟩) = .next ⟨(put sl i .un).map dropX, hp⟩ := rfl
theorem endX_nextN {sl : List SV} {hp : Mem} : endX none (.next ⟨sl, hp⟩) = .next ⟨sl.map dropX, hp⟩ := rfl
theorem endX_ret {i : Option Nat} {d : D} {fr : Bool} {sl : List SV} {hp : Mem} : endX i (.ret d fr ⟨sl, hp⟩) = .ret d fr ⟨sl.map dropX, hp⟩ := by cases i <;> rfl
def isXl (c h : Nat) (es : List (List Nat × List Nat)) : Option Bool := (es[c]?).map fun e => e.2.contains h
section
variable {P : Prog} {call mk : Nat → List D → Mem → CRes} {c h i : Nat} {ns : List Nat} {vs : List D} {hs : List (Nat × Option Nat)} {b : List S} {bs : List (List S)} {s : Sta}
theorem hs_nil : evalHs P call mk c ns vs [] bs s = .exc c ns vs s := by rw [evalHs]; intros; contradiction
theorem hs_yesN (hx : isX P c h = some true) : evalHs P call mk c ns vs ((h, none) :: hs) (b :: bs) s = endX none (evalSs P call mk (some (c, ns, vs)) b s) := by
  rw [evalHs]; simp only [hx]
theorem hs_yesS {sl : List SV} {hp : Mem} (hx : isX P c h = some true) : evalHs P call mk c ns vs ((h, some i) :: hs) (b :: bs) ⟨sl, hp⟩ = endX (some i) (evalSs P call mk (some (c, ns, vs)) b ⟨put sl i (.exc c ns vs), hp⟩) := by
  rw [evalHs]; simp only [hx]
theorem hs_no {o : Option Nat} (hx : isX P c h = some false) : evalHs P call mk c ns vs ((h, o) :: hs) (b :: bs) s = evalHs P call mk c ns vs hs bs s := by
  rw [evalHs]; simp only [hx]
end

theorem sq_app {P : Prog} {call mk : Nat → List D → Mem → CRes} {cur : Cur} {ys : List S} : ∀ {xs : List S} {s : Sta}, evalSs P call mk cur (xs ++ ys) s = (evalSs P call mk cur xs s).seq (evalSs P call mk cur ys)
  | [], s => by rw [List.nil_append, sq_nil, seq_next]
  | x :: xs, s => by
    rw [List.cons_append, sq_cons, sq_cons]
    cases evalS P call mk cur x s with
    | next s => rw [seq_next, seq_next, sq_app]
    | _ => rfl
theorem sq_split {P : Prog} {call mk : Nat → List D → Mem → CRes} {cur : Cur} {xs : List S} {s : Sta} (n : Nat) : evalSs P call mk cur xs s = (evalSs P call mk cur (xs.take n) s).seq (evalSs P call mk cur (xs.drop n)) := by
  rw [← sq_app, List.take_append_drop]

/-! ### numbers -/
theorem ints_pl {l : List Int} {n : Nat} : plL n (l.map D.int) = true := plL_all fun x hx => by
  obtain ⟨i, _, rfl⟩ := List.mem_map.mp hx
  cases n <;> rfl
theorem ints_alike {l : List Int} : allAlike (l.map D.int) = true := by
  unfold allAlike
  rw [List.all_eq_true]
  intro x hx
  rw [List.all_eq_true]
  intro y hy
  obtain ⟨i, _, rfl⟩ := List.mem_map.mp hx
  obtain ⟨j, _, rfl⟩ := List.mem_map.mp hy
  rfl
theorem ints_sortable {l : List Int} : sortable (l.map D.int) = true := by
  unfold sortable plainL
  rw [ints_alike, ints_pl]
  have h1 : (l.map D.int).any isNon = false := by
    rw [List.any_eq_false]; intro x hx; obtain ⟨i, _, rfl⟩ := List.mem_map.mp hx; simp [isNon]
  have h2 : (l.map D.int).any isNil = false := by
    rw [List.any_eq_false]; intro x hx; obtain ⟨i, _, rfl⟩ := List.mem_map.mp hx; simp [isNil]
  rw [h1, h2]; rfl
theorem ltv_int {i j : Int} : D.ltv (.int i) (.int j) = decide (i < j) := by rw [D.ltv]
theorem maxD_int : ∀ {l : List Int} {a : Int}, ∃ m, maxD (.int a) (l.map D.int) = .int m ∧ m ∈ a :: l ∧ ∀ x ∈ a :: l, x ≤ m
  | [], a => ⟨a, rfl, List.mem_cons_self, fun x hx => by rw [List.mem_singleton] at hx; omega⟩
  | b :: l, a => by
    obtain ⟨m, h1, h2, h3⟩ := maxD_int (l := l) (a := if a < b then b else a)
    refine ⟨m, ?_, ?_, ?_⟩
    · rw [List.map_cons, maxD, ltv_int, ← h1]
      congr 1
      by_cases z : a < b <;> simp [z]
    · rcases List.mem_cons.mp h2 with e | e
      · rw [e]; split
        · exact List.mem_cons_of_mem _ List.mem_cons_self
        · exact List.mem_cons_self
      · exact List.mem_cons_of_mem _ (List.mem_cons_of_mem _ e)
    · intro x hx
      have h4 := h3 _ List.mem_cons_self
      rcases List.mem_cons.mp hx with e | e
      · subst e; split at h4 <;> omega
      · rcases List.mem_cons.mp e with e | e
        · subst e; split at h4 <;> omega
        · exact h3 x (List.mem_cons_of_mem _ e)
theorem minD_int : ∀ {l : List Int} {a : Int}, ∃ m, minD (.int a) (l.map D.int) = .int m ∧ m ∈ a :: l ∧ ∀ x ∈ a :: l, m ≤ x
  | [], a => ⟨a, rfl, List.mem_cons_self, fun x hx => by rw [List.mem_singleton] at hx; omega⟩
  | b :: l, a => by
    obtain ⟨m, h1, h2, h3⟩ := minD_int (l := l) (a := if b < a then b else a)
    refine ⟨m, ?_, ?_, ?_⟩
    · rw [List.map_cons, minD, ltv_int, ← h1]
      congr 1
      by_cases z : b < a <;> simp [z]
    · rcases List.mem_cons.mp h2 with e | e
      · rw [e]; split
        · exact List.mem_cons_of_mem _ List.mem_cons_self
        · exact List.mem_cons_self
      · exact List.mem_cons_of_mem _ (List.mem_cons_of_mem _ e)
    · intro x hx
      have h4 := h3 _ List.mem_cons_self
      rcases List.mem_cons.mp hx with e | e
      · subst e; split at h4 <;> omega
      · rcases List.mem_cons.mp e with e | e
        · subst e; split at h4 <;> omega
        · exact h3 x (List.mem_cons_of_mem _ e)
section
variable {rp : D → Option (List Nat)} {l : List Int} {m : Int}
theorem max_ints (hm : m ∈ l) (h : ∀ x ∈ l, x ≤ m) : runB rp .max [.lst (l.map D.int)] = some ⟨.int m, false⟩ := by
  cases l with
  | nil => cases hm
  | cons a l =>
    obtain ⟨m', h1, h2, h3⟩ := maxD_int (l := l) (a := a)
    have e : m' = m := by have := h3 m hm; have := h m' h2; omega
    simp only [runB, seqs?, Option.bind_some, List.map_cons]
    rw [if_pos (by have := ints_sortable (l := a :: l); exact this), h1, e]; rfl
theorem min_ints (hm : m ∈ l) (h : ∀ x ∈ l, m ≤ x) : runB rp .min [.lst (l.map D.int)] = some ⟨.int m, false⟩ := by
  cases l with
  | nil => cases hm
  | cons a l =>
    obtain ⟨m', h1, h2, h3⟩ := minD_int (l := l) (a := a)
    have e : m' = m := by have := h3 m hm; have := h m' h2; omega
    simp only [runB, seqs?, Option.bind_some, List.map_cons]
    rw [if_pos (by have := ints_sortable (l := a :: l); exact this), h1, e]; rfl
theorem ints_map : ∀ {l : List Int}, ints? (l.map D.int) = some l
  | [] => rfl
  | x :: l => by rw [List.map_cons, ints?, ints_map]; rfl
theorem bls_map : ∀ {l : List Bool}, bls? (l.map D.bl) = some l
  | [] => rfl
  | x :: l => by rw [List.map_cons, bls?, bls_map]; rfl
theorem strs_map : ∀ {l : List (List Nat)}, strs? (l.map D.str) = some l
  | [] => rfl
  | x :: l => by rw [List.map_cons, strs?, strs_map]; rfl
theorem sum_ints : runB rp .sum [.lst (l.map D.int)] = some ⟨.int l.sum, false⟩ := by
  simp only [runB, ints_map, Option.map_some]
theorem all_bls {l : List Bool} : runB rp .all [.lst (l.map D.bl)] = some ⟨.bl (l.all id), false⟩ := by
  simp only [runB, bls_map, Option.map_some]
theorem any_bls {l : List Bool} : runB rp .any [.lst (l.map D.bl)] = some ⟨.bl (l.any id), false⟩ := by
  simp only [runB, bls_map, Option.map_some]
end
/-! ### in -/
theorem in_L {α : Type} [DecidableEq α] {enc : α → D} {a : α} {l : List α} (h1 : ∀ x ∈ l, ∀ y, D.eqv (enc x) (enc y) = decide (x = y)) (h2 : D.plain (enc a) = true) (h3 : plainL (l.map enc) = true) : isinD (enc a) (.lst (l.map enc)) = some (decide (a ∈ l)) := by
  simp only [isinD, h2, h3, Bool.and_self, if_true, Option.some.injEq]
  rw [Bool.eq_iff_iff, List.any_map, List.any_eq_true, decide_eq_true_eq]
  constructor
  · rintro ⟨x, hx, e⟩
    simp only [Function.comp] at e
    rw [h1 x hx, decide_eq_true_eq] at e
    exact e ▸ hx
  · intro h
    exact ⟨a, h, by simp only [Function.comp]; rw [h1 a h, decide_eq_true_eq]⟩
end Ev
end

section
/-! EvH1: what all the laws draw by. -/
namespace Ev
local macro_rules | `(tactic| walk_at "ev") => `(tactic| simp only [sq_nil, ↓sq_cons, ↓seq_next, ↓seq_ret, ↓seq_exc, ↓bind_ok, ↓bind_exc, ↓out_ok, ↓out_exc, look_0, look_s, put_0, put_s, svOf_f, svOf_t, nmV_val, nmV_ownF, nmV_ownT, nmV_ro,
  deref_non, deref_bl, deref_int, deref_str, deref_tup, deref_lst, deref_dic, deref_obj, deref_fn, deref_scr, deref_0, deref_s, truth_bl, ofO_some, ofC_ok, ofC_exc, asVal_ok, asVal_exc, newV_f, newV_t,
  e_nm, e_cst, e_glob, e_bin, e_neg, e_not, e_and, e_or, e_ife, e_cmp, e_cmp2, e_tup, e_lst, e_dic, e_call, e_meth, e_make, e_blt, e_fldN, e_fldF, e_fldS, e_fldC, e_fldM, e_sub, e_slc, e_rev, e_lrg1, e_lrg2, e_isiN, e_isiS, es_nil, es_cons, bs_nil, bs_cons, ps_nil, ps_cons, o_none, o_some, c_none, c_some, i_of, i_enum, i_range1, i_range2,
  nx_some, asgT_nm, asgT_tup, asgTs_nil, asgTs_cons, putP_nil, putP_cons, killS_nil, killS_cons, chR_some, chN_some, chO_own, chg_ref, chg_lst, chg_dic, chg_obj, retN_own, retN_val, ↓tr_next, ↓tr_ret, ↓tr_exc, augN1_val, augN2_add, augN2_sub, onL_lst,
  s_asgN, s_asgT, s_asgP, s_setF, s_setI, s_augN, s_app, s_ext, s_ins, s_upd, s_expr, s_iff, s_ret0, s_retN, s_raise, s_try, s_pass, s_kill, r_cst, r_glob, r_bin, r_neg, r_not, r_and, r_or, r_ife, r_cmp, r_cmp2, r_tup, r_lst, r_dic, r_call, r_callv, r_meth, r_make, r_blt, r_fld, r_sub, r_slc, r_rev, r_lc, r_isi, r_lrg1, r_lrg2, r_fstr,
  b_add, b_sub, b_mulL, b_mulR, b_fdiv, b_mod, b_pow18, b_addS, b_addT, b_addL, c_eqI, c_neI, c_ltI, c_gtI, c_leI, c_geI, c_eqB, c_neB, c_isn, c_isnt, non_non, non_bl, non_int, non_str, non_tup, non_lst, non_dic, non_obj, negV_int,
  isi_non, isi_bl, isi_int, isi_str, isi_tup, isi_lst, isi_dic, isi_obj, isi0_val, isi0_own, isi0_ro, fld0_val, fld0_own, fld0_ro, fld0_exc, fldV_obj, fget_cons, fput_cons, fput_nil, setFD_obj, isKd, List.any_cons, List.any_nil, Bool.or_false, Bool.or_true, Bool.true_or, Bool.false_or, Bool.not_true, Bool.not_false, Bool.and_true, Bool.and_false, Bool.true_and, Bool.false_and, Bool.and_self, Bool.or_self,
  sub_T0, sub_T1, sub_T2, sub_T3, sub_T4, sub_L0, sub_L1, sub_L2, sub_L3, sub_L4, lenT, lenL, lenS, lenDi, lenSc, tupL, tupT, lstL, lstT, absI, intI, intB, min2I, max2I, raiseO_0, raiseO_1, raiseO_2, lcR_f, seqL, seqT, seqS, appD_lst, extD_lst, insD_lst, putI_L, lcT_eq, lcN_some, wipeS_nil, wipeS_cons, slotsT_nm, slotsT_tup, slotsTs_nil, slotsTs_cons, hide_un, hide_val, hide_own, hide_ro, hide_exc, c_eqS, c_neS, c_eqNN, c_eqLL, c_neLL, s_wh, s_for, e_lc, fin_next, fin_ret, fin_exc, forL_nil, hs_nil, hs_yesN, hs_yesS, hs_no, endX_nextS, endX_nextN, endX_ret, drop_un, drop_val, drop_own, drop_ro, drop_exc,
  List.map_cons, List.map_nil, List.length_cons, List.length_nil, Option.map_some, Option.bind_some, List.set_cons_zero, List.set_cons_succ, List.getElem?_cons_zero, List.getElem?_cons_succ, List.nil_append, List.cons_append,
  Nat.reduceAdd, Nat.reduceMul, Nat.reduceSub, Int.reduceNeg, Int.reduceAdd, Int.reduceSub, Int.reduceMul, Int.reduceDiv, Int.reduceMod, Int.reduceToNat, Int.reduceLT, Int.reduceLE, Int.reduceEq, Int.reduceNe, Nat.reduceLT, Nat.reduceLeDiff, Nat.reduceEqDiff, decide_true, decide_false, decide_eq_true_eq, decide_not, Bool.not_eq_true', decide_eq_false_iff_not, bne_self_eq_false, beq_self_eq_true, ↓reduceIte, if_true, if_false, Bool.false_eq_true, not_true_eq_false, not_false_eq_true, reduceCtorEq, Int.cast_ofNat_Int, Int.natCast_add, and_self, and_true, true_and, and_false, false_and, or_true, true_or, or_false, false_or, Int.ofNat_zero, Int.zero_add, Nat.zero_add, Nat.zero_le, *])
local macro_rules | `(tactic| walk_at "evo") => `(tactic| simp (maxSteps := 1000000) (disch := first | omega | assumption) only [sq_nil, ↓sq_cons, ↓seq_next, ↓seq_ret, ↓seq_exc, ↓bind_ok, ↓bind_exc, ↓out_ok, ↓out_exc, look_0, look_s, put_0, put_s, svOf_f, svOf_t, nmV_val, nmV_ownF, nmV_ownT, nmV_ro,
  deref_non, deref_bl, deref_int, deref_str, deref_tup, deref_lst, deref_dic, deref_obj, deref_fn, deref_scr, deref_0, deref_s, truth_bl, ofO_some, ofC_ok, ofC_exc, asVal_ok, asVal_exc, newV_f, newV_t,
  e_nm, e_cst, e_glob, e_bin, e_neg, e_not, e_and, e_or, e_ife, e_cmp, e_cmp2, e_tup, e_lst, e_dic, e_call, e_meth, e_make, e_blt, e_fldN, e_fldF, e_fldS, e_fldC, e_fldM, e_sub, e_slc, e_rev, e_lrg1, e_lrg2, e_isiN, e_isiS, es_nil, es_cons, bs_nil, bs_cons, ps_nil, ps_cons, o_none, o_some, c_none, c_some, i_of, i_enum, i_range1, i_range2,
  nx_some, asgT_nm, asgT_tup, asgTs_nil, asgTs_cons, putP_nil, putP_cons, killS_nil, killS_cons, chR_some, chN_some, chO_own, chg_ref, chg_lst, chg_dic, chg_obj, retN_own, retN_val, ↓tr_next, ↓tr_ret, ↓tr_exc, augN1_val, augN2_add, augN2_sub, onL_lst,
  s_asgN, s_asgT, s_asgP, s_setF, s_setI, s_augN, s_app, s_ext, s_ins, s_upd, s_expr, s_iff, s_ret0, s_retN, s_raise, s_try, s_pass, s_kill, r_cst, r_glob, r_bin, r_neg, r_not, r_and, r_or, r_ife, r_cmp, r_cmp2, r_tup, r_lst, r_dic, r_call, r_callv, r_meth, r_make, r_blt, r_fld, r_sub, r_slc, r_rev, r_lc, r_isi, r_lrg1, r_lrg2, r_fstr,
  b_add, b_sub, b_mulL, b_mulR, b_fdiv, b_mod, b_pow18, b_addS, b_addT, b_addL, c_eqI, c_neI, c_ltI, c_gtI, c_leI, c_geI, c_eqB, c_neB, c_isn, c_isnt, non_non, non_bl, non_int, non_str, non_tup, non_lst, non_dic, non_obj, negV_int,
  isi_non, isi_bl, isi_int, isi_str, isi_tup, isi_lst, isi_dic, isi_obj, isi0_val, isi0_own, isi0_ro, fld0_val, fld0_own, fld0_ro, fld0_exc, fldV_obj, fget_cons, fput_cons, fput_nil, setFD_obj, isKd, List.any_cons, List.any_nil, Bool.or_false, Bool.or_true, Bool.true_or, Bool.false_or, Bool.not_true, Bool.not_false, Bool.and_true, Bool.and_false, Bool.true_and, Bool.false_and, Bool.and_self, Bool.or_self,
  sub_T0, sub_T1, sub_T2, sub_T3, sub_T4, sub_L0, sub_L1, sub_L2, sub_L3, sub_L4, lenT, lenL, lenS, lenDi, lenSc, tupL, tupT, lstL, lstT, absI, intI, intB, min2I, max2I, raiseO_0, raiseO_1, raiseO_2, lcR_f, seqL, seqT, seqS, appD_lst, extD_lst, insD_lst, putI_L, lcT_eq, lcN_some, wipeS_nil, wipeS_cons, slotsT_nm, slotsT_tup, slotsTs_nil, slotsTs_cons, hide_un, hide_val, hide_own, hide_ro, hide_exc, c_eqS, c_neS, c_eqNN, c_eqLL, c_neLL, s_wh, s_for, e_lc, fin_next, fin_ret, fin_exc, forL_nil, hs_nil, hs_yesN, hs_yesS, hs_no, endX_nextS, endX_nextN, endX_ret, drop_un, drop_val, drop_own, drop_ro, drop_exc,
  List.map_cons, List.map_nil, List.length_cons, List.length_nil, Option.map_some, Option.bind_some, List.set_cons_zero, List.set_cons_succ, List.getElem?_cons_zero, List.getElem?_cons_succ, List.nil_append, List.cons_append,
  Nat.reduceAdd, Nat.reduceMul, Nat.reduceSub, Int.reduceNeg, Int.reduceAdd, Int.reduceSub, Int.reduceMul, Int.reduceDiv, Int.reduceMod, Int.reduceToNat, Int.reduceLT, Int.reduceLE, Int.reduceEq, Int.reduceNe, Nat.reduceLT, Nat.reduceLeDiff, Nat.reduceEqDiff, decide_true, decide_false, decide_eq_true_eq, decide_not, Bool.not_eq_true', decide_eq_false_iff_not, bne_self_eq_false, beq_self_eq_true, ↓reduceIte, if_true, if_false, Bool.false_eq_true, not_true_eq_false, not_false_eq_true, reduceCtorEq, Int.cast_ofNat_Int, Int.natCast_add, and_self, and_true, true_and, and_false, false_and, or_true, true_or, or_false, false_or, Int.ofNat_zero, Int.zero_add, Nat.zero_add, Nat.zero_le, *])

/-- a law's own end -/
def Yes (o : Out) : Prop := ∃ s, o = .ret (.bl true) false s
theorem yes {s : Sta} : Yes (.ret (.bl true) false s) := ⟨s, rfl⟩
theorem law_yes {P : Prog} {k f : Nat} {fn : Fn} {xs : List Int} (e : P.fns[f]? = some fn) (h1 : fn.np = 1) (h : Yes (evalSs P (run P k).1 (run P k).2 none fn.body ⟨slots0 fn [.val (.scr xs)], []⟩)) : ∃ fr m, (run P (k + 1)).1 f [.scr xs] [] = .ok (.bl true) fr m := by
  obtain ⟨s, h⟩ := h
  refine ⟨false, s.hp, ?_⟩
  rw [run_fn e (by rw [h1]; rfl)]
  show fin (evalSs P _ _ none fn.body ⟨slots0 fn [.val (.scr xs)], []⟩) = _
  rw [h, fin_ret]

/-- the law's own row: the script, how many were taken, the seed, what is left of a large one -/
structure Row where
  xs : List Int
  p : Nat
  s : Int
  r : Int
def rowD (w : Row) : D := .lst [.scr w.xs, .int w.p, .int w.s, .int w.r]
def Row.tk (w : Row) (many : Int) : Int × Row :=
  if 0 < w.r then (w.r % many, { w with r := w.r / many })
  else match w.xs[w.p]? with
    | none => ((w.s * 48271 + 11) % 2147483647 / 7 % many, { w with p := w.p + 1, s := (w.s * 48271 + 11) % 2147483647 })
    | some c => (c % many, { w with p := w.p + 1, s := (w.s * 48271 + c + 11) % 2147483647, r := if 1000000000000000000 ≤ c then c / many else w.r })
def Btaken : List S := [
  .iff (.cmp .gt (.sub (.nm 0) (.cst (.int 3))) (.cst (.int 0))) [
    .asg (.nm 3) (.bin .mod (.blt .int [(.sub (.nm 0) (.cst (.int 3)))]) (.nm 1)),
    .setI (.nm 0) (.cst (.int 3)) (.bin .fdiv (.sub (.nm 0) (.cst (.int 3))) (.nm 1)),
    .ret (some (.nm 3))] [],
  .setI (.nm 0) (.cst (.int 1)) (.bin .add (.sub (.nm 0) (.cst (.int 1))) (.cst (.int 1))),
  .iff (.cmp .gt (.sub (.nm 0) (.cst (.int 1))) (.blt .len [(.sub (.nm 0) (.cst (.int 0)))])) [
    .setI (.nm 0) (.cst (.int 2)) (.bin .mod (.blt .int [(.bin .add (.bin .mul (.sub (.nm 0) (.cst (.int 2))) (.cst (.int 48271))) (.cst (.int 11)))]) (.cst (.int 2147483647))),
    .ret (some (.bin .mod (.blt .int [(.bin .fdiv (.sub (.nm 0) (.cst (.int 2))) (.cst (.int 7)))]) (.nm 1)))] [],
  .asg (.nm 2) (.sub (.sub (.nm 0) (.cst (.int 0))) (.bin .sub (.sub (.nm 0) (.cst (.int 1))) (.cst (.int 1)))),
  .setI (.nm 0) (.cst (.int 2)) (.bin .mod (.blt .int [(.bin .add (.bin .add (.bin .mul (.sub (.nm 0) (.cst (.int 2))) (.cst (.int 48271))) (.nm 2)) (.cst (.int 11)))]) (.cst (.int 2147483647))),
  .iff (.cmp .ge (.nm 2) (.bin .pow (.cst (.int 10)) (.cst (.int 18)))) [.setI (.nm 0) (.cst (.int 3)) (.bin .fdiv (.nm 2) (.nm 1))] [],
  .ret (some (.bin .mod (.blt .int [(.nm 2)]) (.nm 1)))]
theorem taken_ok {P : Prog} {f : Nat} (e : P.fns[f]? = some ⟨2, 4, Btaken⟩) {k : Nat} {w : Row} {many : Int} {h : Mem} (hm : 0 < many ∧ many < 1073741824) :
    (run P (k + 1)).1 f [.ref 0, .int many] (rowD w :: h) = .ok (.int (w.tk many).1) false (rowD (w.tk many).2 :: h) := by
  rw [run_fn e rfl]
  show fin (evalSs P _ _ none Btaken ⟨[.val (.ref 0), .val (.int many), .un, .un], rowD w :: h⟩) = _
  obtain ⟨xs, p, s, r⟩ := w
  have h1 := hm.1
  have h2 := hm.2
  unfold Btaken rowD Row.tk
  by_cases hr : 0 < r
  · walk_at "ev"
  · cases hx : xs[p]? with
    | none =>
      have hl : (xs.length : Int) < p + 1 := by have := List.getElem?_eq_none_iff.mp hx; omega
      walk_at "ev"
    | some c =>
      have hl : ¬ (xs.length : Int) < p + 1 := by have := (List.getElem?_eq_some_iff.mp hx).1; omega
      have e1 : subV (.scr xs) (.int p) = some (.int c) := sub_scr rfl hx
      have e2 : (p : Int) + 1 - 1 = p := by omega
      by_cases hc : 1000000000000000000 ≤ c
      · walk_at "ev"
      · walk_at "ev"
theorem tk_lo {w : Row} {many : Int} (h : 0 < many) : 0 ≤ (w.tk many).1 := by
  unfold Row.tk; split
  · exact Int.emod_nonneg _ (by omega)
  · split <;> exact Int.emod_nonneg _ (by omega)
theorem tk_hi {w : Row} {many : Int} (h : 0 < many) : (w.tk many).1 < many := by
  unfold Row.tk; split
  · exact Int.emod_lt_of_pos _ h
  · split <;> exact Int.emod_lt_of_pos _ h

theorem draw_ok {P : Prog} {f : Nat} (e : P.fns[f]? = some ⟨2, 4, Btaken⟩) {k : Nat} (w : Row) {many : Int} {h : Mem} (hm : 0 < many ∧ many < 1073741824) :
    ∃ A w', 0 ≤ A ∧ A < many ∧ (run P (k + 1)).1 f [.ref 0, .int many] (rowD w :: h) = .ok (.int A) false (rowD w' :: h) :=
  ⟨_, _, tk_lo hm.1, tk_hi hm.1, taken_ok e hm⟩

/-! ### found is what is due -/
def Balike (f : Nat) : List S := [
  .iff (.isi (.nm 1) [.tuple, .list]) [
    .iff (.or (.not (.isi (.nm 0) [.tuple, .list])) (.cmp .ne (.isi (.nm 0) [.list]) (.isi (.nm 1) [.list]))) [.ret (some (.cst (.bl false)))] [],
    .iff (.cmp .ne (.blt .len [(.nm 0)]) (.blt .len [(.nm 1)])) [.ret (some (.cst (.bl false)))] [],
    .ret (some (.cmp .eq (.lc false (.nm 2) (.nm 2) (.range1 (.blt .len [(.nm 1)])) (some (.not (.call f [(.sub (.nm 0) (.nm 2)), (.sub (.nm 1) (.nm 2))])))) (.lst false [])))] [],
  .iff (.or (.cmp .isn (.nm 1) (.cst .non)) (.isi (.nm 1) [.str])) [.ret (some (.and (.cmp .eq (.nm 0) (.nm 1)) (.cmp .eq (.isi (.nm 0) [.str]) (.isi (.nm 1) [.str]))))] [],
  .ret (some (.and (.isi (.nm 0) [.int]) (.and (.cmp .eq (.isi (.nm 0) [.bool]) (.isi (.nm 1) [.bool])) (.cmp .eq (.nm 0) (.nm 1)))))]
theorem alike_flat {P : Prog} {f : Nat} (e : P.fns[f]? = some ⟨2, 3, Balike f⟩) (k : Nat) (d : D) (h : Mem) (hd : match d with | .non => True | .bl _ => True | .int _ => True | .str _ => True | _ => False) : (run P (k + 1)).1 f [d, d] h = .ok (.bl true) false h := by
  rw [run_fn e rfl]
  show fin (evalSs P _ _ none (Balike f) ⟨[.val d, .val d, .un], h⟩) = _
  unfold Balike
  cases d with
  | non => walk_at "ev"
  | bl b => walk_at "ev"
  | int i => walk_at "ev"
  | str x => walk_at "ev"
  | _ => exact hd.elim
theorem alike_tup {P : Prog} {f : Nat} (e : P.fns[f]? = some ⟨2, 3, Balike f⟩) (k : Nat) (xs : List D) (h : Mem) (hl : xs.length ≤ 16777216) (ih : ∀ x ∈ xs, (run P k).1 f [x, x] h = .ok (.bl true) false h) : (run P (k + 1)).1 f [.tup xs, .tup xs] h = .ok (.bl true) false h := by
  rw [run_fn e rfl]
  show fin (evalSs P _ _ none (Balike f) ⟨[.val (.tup xs), .val (.tup xs), .un], h⟩) = _
  unfold Balike
  have r1 : rg1 (.int xs.length) = some ((intR 0 xs.length).map D.int) := by rw [rg1_ok (by omega), rangeD_eq]
  walk_at "ev"
  rewrite [lc_none]
  · walk_at "ev"
  · intro i hi
    rw [mem_ints] at hi
    have hx : xs[i.toNat]? = some xs[i.toNat] := List.getElem?_eq_getElem (by omega)
    have e1 : subV (.tup xs) (.int i) = some xs[i.toNat] := sub_TI (by omega) hx
    have ih2 := ih _ (List.mem_of_getElem? hx)
    refine ⟨_, by walk_at "ev"; rfl, rfl⟩
theorem alike_lst {P : Prog} {f : Nat} (e : P.fns[f]? = some ⟨2, 3, Balike f⟩) (k : Nat) (xs : List D) (h : Mem) (hl : xs.length ≤ 16777216) (ih : ∀ x ∈ xs, (run P k).1 f [x, x] h = .ok (.bl true) false h) : (run P (k + 1)).1 f [.lst xs, .lst xs] h = .ok (.bl true) false h := by
  rw [run_fn e rfl]
  show fin (evalSs P _ _ none (Balike f) ⟨[.val (.lst xs), .val (.lst xs), .un], h⟩) = _
  unfold Balike
  have r1 : rg1 (.int xs.length) = some ((intR 0 xs.length).map D.int) := by rw [rg1_ok (by omega), rangeD_eq]
  walk_at "ev"
  rewrite [lc_none]
  · walk_at "ev"
  · intro i hi
    rw [mem_ints] at hi
    have hx : xs[i.toNat]? = some xs[i.toNat] := List.getElem?_eq_getElem (by omega)
    have e1 : subV (.lst xs) (.int i) = some xs[i.toNat] := sub_LI (by omega) hx
    have ih2 := ih _ (List.mem_of_getElem? hx)
    refine ⟨_, by walk_at "ev"; rfl, rfl⟩
theorem alike_same {P : Prog} {f : Nat} (e : P.fns[f]? = some ⟨2, 3, Balike f⟩) : ∀ (n k : Nat) (d : D) (h : Mem), D.fine n d → (run P (k + n + 1)).1 f [d, d] h = .ok (.bl true) false h
  | 0, k, d, h, hd => alike_flat e k d h (by cases d <;> first | trivial | exact hd)
  | n + 1, k, .tup xs, h, hd => alike_tup e (k + n + 1) xs h hd.1 fun x hx => alike_same e n k x h (hd.2 x hx)
  | n + 1, k, .lst xs, h, hd => alike_lst e (k + n + 1) xs h hd.1 fun x hx => alike_same e n k x h (hd.2 x hx)
  | n + 1, k, .non, h, hd => alike_flat e _ _ _ trivial
  | n + 1, k, .bl _, h, hd => alike_flat e _ _ _ trivial
  | n + 1, k, .int _, h, hd => alike_flat e _ _ _ trivial
  | n + 1, k, .str _, h, hd => alike_flat e _ _ _ trivial
end Ev
end

section
namespace Ev
/-- is_whole -/
def B0 : List S := [.ret (some (.and (.isi (.nm 0) [.int]) (.not (.isi (.nm 0) [.bool]))))]
/-- is_row -/
def B1 : List S := [.ret (some (.isi (.nm 0) [.list, .tuple]))]
/-- reduced -/
def B2 : List S := [
  .asgP [2, 3] [(.blt .abs [(.nm 0)]), (.nm 1)],
  .wh (.cmp .gt (.nm 3) (.cst (.int 0))) [.asgP [2, 3] [(.nm 3), (.bin .mod (.nm 2) (.nm 3))]],
  .ret (some (.ife (.cmp .gt (.nm 2) (.cst (.int 0))) (.tup [(.bin .fdiv (.nm 0) (.nm 2)), (.bin .fdiv (.nm 1) (.nm 2))]) (.tup [(.cst (.int 0)), (.cst (.int 1))])))]
/-- is_fraction -/
def B3 : List S := [
  .iff (.or (.not (.call 1 [(.nm 0)])) (.or (.cmp .ne (.blt .len [(.nm 0)]) (.cst (.int 2))) (.or (.not (.call 0 [(.sub (.nm 0) (.cst (.int 0)))])) (.or (.not (.call 0 [(.sub (.nm 0) (.cst (.int 1)))])) (.cmp .lt (.sub (.nm 0) (.cst (.int 1))) (.cst (.int 1))))))) [.ret (some (.cst (.bl false)))] [],
  .ret (some (.cmp .eq (.call 2 [(.sub (.nm 0) (.cst (.int 0))), (.sub (.nm 0) (.cst (.int 1)))]) (.tup [(.sub (.nm 0) (.cst (.int 0))), (.sub (.nm 0) (.cst (.int 1)))])))]
/-- want_fraction -/
def B4 : List S := [
  .iff (.not (.call 3 [(.nm 0)])) [.raise 1 [(.nm 0)]] [],
  .ret (some (.blt .tuple [(.nm 0)]))]
/-- plus -/
def B5 : List S := [.ret (some (.call 2 [(.bin .add (.bin .mul (.sub (.nm 0) (.cst (.int 0))) (.sub (.nm 1) (.cst (.int 1)))) (.bin .mul (.sub (.nm 1) (.cst (.int 0))) (.sub (.nm 0) (.cst (.int 1))))), (.bin .mul (.sub (.nm 0) (.cst (.int 1))) (.sub (.nm 1) (.cst (.int 1))))]))]
/-- minus -/
def B6 : List S := [.ret (some (.call 2 [(.bin .sub (.bin .mul (.sub (.nm 0) (.cst (.int 0))) (.sub (.nm 1) (.cst (.int 1)))) (.bin .mul (.sub (.nm 1) (.cst (.int 0))) (.sub (.nm 0) (.cst (.int 1))))), (.bin .mul (.sub (.nm 0) (.cst (.int 1))) (.sub (.nm 1) (.cst (.int 1))))]))]
/-- times -/
def B7 : List S := [.ret (some (.call 2 [(.bin .mul (.sub (.nm 0) (.cst (.int 0))) (.sub (.nm 1) (.cst (.int 0)))), (.bin .mul (.sub (.nm 0) (.cst (.int 1))) (.sub (.nm 1) (.cst (.int 1))))]))]
/-- over -/
def B8 : List S := [.ret (some (.call 2 [(.bin .mul (.sub (.nm 0) (.cst (.int 0))) (.sub (.nm 1) (.cst (.int 1)))), (.bin .mul (.sub (.nm 0) (.cst (.int 1))) (.sub (.nm 1) (.cst (.int 0))))]))]
/-- is_less -/
def B9 : List S := [.ret (some (.cmp .lt (.bin .mul (.sub (.nm 0) (.cst (.int 0))) (.sub (.nm 1) (.cst (.int 1)))) (.bin .mul (.sub (.nm 1) (.cst (.int 0))) (.sub (.nm 0) (.cst (.int 1))))))]
/-- floor_of -/
def B10 : List S := [.ret (some (.bin .fdiv (.sub (.nm 0) (.cst (.int 0))) (.sub (.nm 0) (.cst (.int 1)))))]
/-- ceiling_of -/
def B11 : List S := [.ret (some (.neg (.bin .fdiv (.neg (.sub (.nm 0) (.cst (.int 0)))) (.sub (.nm 0) (.cst (.int 1))))))]
/-- nearest -/
def B12 : List S := [.ret (some (.bin .fdiv (.bin .add (.bin .mul (.cst (.int 2)) (.sub (.nm 0) (.cst (.int 0)))) (.sub (.nm 0) (.cst (.int 1)))) (.bin .mul (.cst (.int 2)) (.sub (.nm 0) (.cst (.int 1))))))]
/-- total -/
def B13 : List S := [
  .asg (.nm 1) (.tup [(.cst (.int 0)), (.cst (.int 1))]),
  .for_ (.nm 2) (.of (.nm 0)) [.asg (.nm 1) (.call 5 [(.nm 1), (.nm 2)])],
  .ret (some (.nm 1))]
/-- median -/
def B14 : List S := [
  .asg (.nm 1) (.lst false [(.sub (.nm 0) (.cst (.int 0)))]),
  .for_ (.nm 2) (.of (.slc (.nm 0) (some (.cst (.int 1))) none)) [
    .asg (.nm 5) (.blt .len [(.lc false (.nm 6) (.nm 6) (.of (.nm 1)) (some (.not (.call 9 [(.nm 2), (.nm 6)]))))]),
    .ins (.nm 1) (.nm 5) (.nm 2)],
  .asgP [3, 4] [(.sub (.nm 1) (.bin .fdiv (.bin .sub (.blt .len [(.nm 1)]) (.cst (.int 1))) (.cst (.int 2)))), (.sub (.nm 1) (.bin .fdiv (.blt .len [(.nm 1)]) (.cst (.int 2))))],
  .ret (some (.call 7 [(.call 5 [(.nm 3), (.nm 4)]), (.tup [(.cst (.int 1)), (.cst (.int 2))])]))]
/-- _law_taken -/
def B15 : List S := [
  .iff (.cmp .gt (.sub (.nm 0) (.cst (.int 3))) (.cst (.int 0))) [
    .asg (.nm 3) (.bin .mod (.blt .int [(.sub (.nm 0) (.cst (.int 3)))]) (.nm 1)),
    .setI (.nm 0) (.cst (.int 3)) (.bin .fdiv (.sub (.nm 0) (.cst (.int 3))) (.nm 1)),
    .ret (some (.nm 3))] [],
  .setI (.nm 0) (.cst (.int 1)) (.bin .add (.sub (.nm 0) (.cst (.int 1))) (.cst (.int 1))),
  .iff (.cmp .gt (.sub (.nm 0) (.cst (.int 1))) (.blt .len [(.sub (.nm 0) (.cst (.int 0)))])) [
    .setI (.nm 0) (.cst (.int 2)) (.bin .mod (.blt .int [(.bin .add (.bin .mul (.sub (.nm 0) (.cst (.int 2))) (.cst (.int 48271))) (.cst (.int 11)))]) (.cst (.int 2147483647))),
    .ret (some (.bin .mod (.blt .int [(.bin .fdiv (.sub (.nm 0) (.cst (.int 2))) (.cst (.int 7)))]) (.nm 1)))] [],
  .asg (.nm 2) (.sub (.sub (.nm 0) (.cst (.int 0))) (.bin .sub (.sub (.nm 0) (.cst (.int 1))) (.cst (.int 1)))),
  .setI (.nm 0) (.cst (.int 2)) (.bin .mod (.blt .int [(.bin .add (.bin .add (.bin .mul (.sub (.nm 0) (.cst (.int 2))) (.cst (.int 48271))) (.nm 2)) (.cst (.int 11)))]) (.cst (.int 2147483647))),
  .iff (.cmp .ge (.nm 2) (.bin .pow (.cst (.int 10)) (.cst (.int 18)))) [.setI (.nm 0) (.cst (.int 3)) (.bin .fdiv (.nm 2) (.nm 1))] [],
  .ret (some (.bin .mod (.blt .int [(.nm 2)]) (.nm 1)))]
/-- _law_alike -/
def B16 : List S := [
  .iff (.isi (.nm 1) [.tuple, .list]) [
    .iff (.or (.not (.isi (.nm 0) [.tuple, .list])) (.cmp .ne (.isi (.nm 0) [.list]) (.isi (.nm 1) [.list]))) [.ret (some (.cst (.bl false)))] [],
    .iff (.cmp .ne (.blt .len [(.nm 0)]) (.blt .len [(.nm 1)])) [.ret (some (.cst (.bl false)))] [],
    .ret (some (.cmp .eq (.lc false (.nm 2) (.nm 2) (.range1 (.blt .len [(.nm 1)])) (some (.not (.call 16 [(.sub (.nm 0) (.nm 2)), (.sub (.nm 1) (.nm 2))])))) (.lst false [])))] [],
  .iff (.or (.cmp .isn (.nm 1) (.cst .non)) (.isi (.nm 1) [.str])) [.ret (some (.and (.cmp .eq (.nm 0) (.nm 1)) (.cmp .eq (.isi (.nm 0) [.str]) (.isi (.nm 1) [.str]))))] [],
  .ret (some (.and (.isi (.nm 0) [.int]) (.and (.cmp .eq (.isi (.nm 0) [.bool]) (.isi (.nm 1) [.bool])) (.cmp .eq (.nm 0) (.nm 1)))))]
/-- _law_truth -/
def B17 : List S := [.ret (some (.and (.isi (.nm 0) [.bool]) (.cmp .eq (.nm 0) (.nm 1))))]
/-- _law_low -/
def B18 : List S := [
  .asg (.nm 2) (.cst (.int 1)),
  .for_ (.nm 3) (.range2 (.cst (.int 1)) (.bin .add (.blt .int [(.nm 1)]) (.cst (.int 1)))) [.iff (.and (.cmp .eq (.bin .mod (.blt .int [(.nm 0)]) (.nm 3)) (.cst (.int 0))) (.cmp .eq (.bin .mod (.blt .int [(.nm 1)]) (.nm 3)) (.cst (.int 0)))) [.asg (.nm 2) (.nm 3)] []],
  .ret (some (.tup [(.bin .fdiv (.blt .int [(.nm 0)]) (.nm 2)), (.bin .fdiv (.blt .int [(.nm 1)]) (.nm 2))]))]
/-- law -/
def B19 : List S := [
  .asg (.nm 1) (.lst true [(.nm 0), (.cst (.int 0)), (.cst (.int 61)), (.cst (.int 0))]),
  .asgP [2, 3, 4, 5] [(.bin .sub (.call 15 [(.nm 1), (.cst (.int 121))]) (.cst (.int 60))), (.bin .add (.cst (.int 1)) (.call 15 [(.nm 1), (.cst (.int 60))])), (.bin .sub (.call 15 [(.nm 1), (.cst (.int 121))]) (.cst (.int 60))), (.bin .add (.cst (.int 1)) (.call 15 [(.nm 1), (.cst (.int 60))]))],
  .asgP [6, 7] [(.call 2 [(.nm 2), (.nm 3)]), (.call 2 [(.nm 4), (.nm 5)])],
  .iff (.or (.not (.call 16 [(.tup [(.nm 6), (.nm 7)]), (.tup [(.call 18 [(.nm 2), (.nm 3)]), (.call 18 [(.nm 4), (.nm 5)])])])) (.or (.not (.call 3 [(.nm 6)])) (.call 3 [(.tup [(.bin .mul (.nm 2) (.cst (.int 2))), (.bin .mul (.nm 3) (.cst (.int 2)))])]))) [.ret (some (.cst (.bl false)))] [],
  .iff (.not (.call 16 [(.tup [(.call 5 [(.nm 6), (.nm 7)]), (.call 6 [(.nm 6), (.nm 7)]), (.call 7 [(.nm 6), (.nm 7)])]), (.tup [(.call 18 [(.bin .add (.bin .mul (.nm 2) (.nm 5)) (.bin .mul (.nm 4) (.nm 3))), (.bin .mul (.nm 3) (.nm 5))]), (.call 18 [(.bin .sub (.bin .mul (.nm 2) (.nm 5)) (.bin .mul (.nm 4) (.nm 3))), (.bin .mul (.nm 3) (.nm 5))]), (.call 18 [(.bin .mul (.nm 2) (.nm 4)), (.bin .mul (.nm 3) (.nm 5))])])])) [.ret (some (.cst (.bl false)))] [],
  .iff (.or (.and (.cmp .gt (.nm 4) (.cst (.int 0))) (.not (.call 16 [(.call 8 [(.nm 6), (.nm 7)]), (.call 18 [(.bin .mul (.nm 2) (.nm 5)), (.bin .mul (.nm 3) (.nm 4))])]))) (.not (.call 17 [(.call 9 [(.nm 6), (.nm 7)]), (.cmp .lt (.bin .mul (.nm 2) (.nm 5)) (.bin .mul (.nm 4) (.nm 3)))]))) [.ret (some (.cst (.bl false)))] [],
  .asg (.nm 8) (.lrg2 (.neg (.cst (.int 61))) (.cst (.int 62))),
  .asgP [9, 10] [(.blt .max [(.lc false (.nm 18) (.nm 18) (.of (.nm 8)) (some (.cmp .le (.bin .mul (.nm 18) (.nm 3)) (.nm 2))))]), (.blt .min [(.lc false (.nm 18) (.nm 18) (.of (.nm 8)) (some (.cmp .ge (.bin .mul (.nm 18) (.nm 3)) (.nm 2))))])],
  .asg (.nm 11) (.blt .max [(.lc false (.nm 18) (.nm 18) (.of (.nm 8)) (some (.cmp .le (.bin .mul (.bin .sub (.bin .mul (.cst (.int 2)) (.nm 18)) (.cst (.int 1))) (.nm 3)) (.bin .mul (.cst (.int 2)) (.nm 2)))))]),
  .iff (.not (.call 16 [(.tup [(.call 10 [(.nm 6)]), (.call 11 [(.nm 6)]), (.call 12 [(.nm 6)])]), (.tup [(.nm 9), (.nm 10), (.nm 11)])])) [.ret (some (.cst (.bl false)))] [],
  .asgP [12, 13] [(.bin .add (.lst false [(.nm 6), (.nm 7)]) (.lc false (.call 2 [(.bin .sub (.call 15 [(.nm 1), (.cst (.int 40))]) (.cst (.int 20))), (.bin .add (.cst (.int 1)) (.call 15 [(.nm 1), (.cst (.int 6))]))]) (.nm 18) (.range1 (.call 15 [(.nm 1), (.cst (.int 5))])) none)), (.tup [(.cst (.int 0)), (.cst (.int 1))])],
  .for_ (.nm 14) (.of (.nm 12)) [.asg (.nm 13) (.call 18 [(.bin .add (.bin .mul (.sub (.nm 13) (.cst (.int 0))) (.sub (.nm 14) (.cst (.int 1)))) (.bin .mul (.sub (.nm 14) (.cst (.int 0))) (.sub (.nm 13) (.cst (.int 1))))), (.bin .mul (.sub (.nm 13) (.cst (.int 1))) (.sub (.nm 14) (.cst (.int 1))))])],
  .iff (.not (.call 16 [(.call 13 [(.nm 12)]), (.nm 13)])) [.ret (some (.cst (.bl false)))] [],
  .asg (.nm 15) (.call 14 [(.nm 12)]),
  .asg (.nm 9) (.blt .len [(.lc false (.cst (.int 1)) (.nm 14) (.of (.nm 12)) (some (.cmp .lt (.bin .mul (.sub (.nm 14) (.cst (.int 0))) (.sub (.nm 15) (.cst (.int 1)))) (.bin .mul (.sub (.nm 15) (.cst (.int 0))) (.sub (.nm 14) (.cst (.int 1)))))))]),
  .asg (.nm 10) (.blt .len [(.lc false (.cst (.int 1)) (.nm 14) (.of (.nm 12)) (some (.cmp .gt (.bin .mul (.sub (.nm 14) (.cst (.int 0))) (.sub (.nm 15) (.cst (.int 1)))) (.bin .mul (.sub (.nm 15) (.cst (.int 0))) (.sub (.nm 14) (.cst (.int 1)))))))]),
  .iff (.or (.cmp .gt (.bin .mul (.cst (.int 2)) (.nm 9)) (.blt .len [(.nm 12)])) (.or (.cmp .gt (.bin .mul (.cst (.int 2)) (.nm 10)) (.blt .len [(.nm 12)])) (.and (.cmp .eq (.bin .mod (.blt .len [(.nm 12)]) (.cst (.int 2))) (.cst (.int 1))) (.cmp .notin (.nm 15) (.nm 12))))) [.ret (some (.cst (.bl false)))] [],
  .for_ (.nm 16) (.of (.lst false [(.cst .non), (.tup [(.cst (.int 1)), (.cst (.int 0))]), (.tup [(.cst (.int 2)), (.cst (.int 4))]), (.tup [(.cst (.int 0)), (.cst (.int 2))]), (.tup [(.cst (.int 1))]), (.tup [(.cst (.bl true)), (.cst (.int 2))]), (.lst false [(.cst (.int 1)), (.cst (.int 2)), (.cst (.int 3))]), (.cst (.int 5)), (.tup [(.cst (.int 1)), (.neg (.cst (.int 1)))])])) [
    .iff (.call 3 [(.nm 16)]) [.ret (some (.cst (.bl false)))] [],
    .try_ [
      .expr (.call 4 [(.nm 16)]),
      .ret (some (.cst (.bl false)))] [(1, some 17)] [[.iff (.cmp .ne (.blt .repr [(.fld (.nm 17) 0)]) (.blt .repr [(.nm 16)])) [.ret (some (.cst (.bl false)))] []]]],
  .ret (some (.call 16 [(.call 4 [(.blt .list [(.nm 6)])]), (.nm 6)]))]
def exQ (rp : D → Option (List Nat)) : Prog where
  fns := [⟨1, 1, B0⟩, ⟨1, 1, B1⟩, ⟨2, 4, B2⟩, ⟨1, 1, B3⟩, ⟨1, 1, B4⟩, ⟨2, 2, B5⟩, ⟨2, 2, B6⟩, ⟨2, 2, B7⟩, ⟨2, 2, B8⟩, ⟨2, 2, B9⟩, ⟨1, 1, B10⟩, ⟨1, 1, B11⟩, ⟨1, 1, B12⟩, ⟨1, 3, B13⟩, ⟨1, 7, B14⟩, ⟨2, 4, B15⟩, ⟨2, 3, B16⟩, ⟨2, 2, B17⟩, ⟨2, 4, B18⟩, ⟨1, 19, B19⟩]
  inits := []
  flds := []
  globs := []
  excs := [([], [0]), ([0], [1, 0])]
  rp := rp
end Ev
end

section
/-! K10m: fractions, plain. -/
namespace Ev.L
def red (a b : Int) : Int × Int := (a / (Int.gcd a b : Int), b / (Int.gcd a b : Int))
theorem gcd_step (x y : Int) : (Int.gcd x y : Int) = Int.gcd y (x % y) := by
  rw [Int.gcd_comm x y]
  conv => lhs; rw [← Int.emod_add_mul_ediv x y, Int.gcd_add_mul_left_right]
theorem gcd_pos {a b : Int} (hb : 0 < b) : 0 < (Int.gcd a b : Int) := by
  have : Int.gcd a b ≠ 0 := by rw [Ne, Int.gcd_eq_zero_iff]; omega
  omega
theorem gcd_le {a b : Int} (hb : 0 < b) : (Int.gcd a b : Int) ≤ b := Int.le_of_dvd hb (Int.gcd_dvd_right ..)
theorem red_1 (a b : Int) : a = (Int.gcd a b : Int) * (red a b).1 := (Int.mul_ediv_cancel' (Int.gcd_dvd_left ..)).symm
theorem red_2 (a b : Int) : b = (Int.gcd a b : Int) * (red a b).2 := (Int.mul_ediv_cancel' (Int.gcd_dvd_right ..)).symm
theorem red_pos {a b : Int} (hb : 0 < b) : 0 < (red a b).2 := by
  have h := red_2 a b
  have g := gcd_pos (a := a) hb
  exact Int.pos_of_mul_pos_right (a := (Int.gcd a b : Int)) (by rw [← h]; exact hb) (by omega)
theorem red_le {a b : Int} (hb : 0 < b) : (red a b).2 ≤ b := by
  have h := red_2 a b
  have g := gcd_pos (a := a) hb
  have p := red_pos (a := a) hb
  conv => rhs; rw [h]
  have := Int.mul_le_mul_of_nonneg_right (a := 1) (b := (Int.gcd a b : Int)) (c := (red a b).2) (by omega) (by omega)
  omega
theorem red_scale {k : Int} (a b : Int) (hk : 0 < k) : red (k * a) (k * b) = red a b := by
  unfold red
  have e : ((Int.gcd (k * a) (k * b) : Nat) : Int) = k * (Int.gcd a b : Int) := by
    rw [Int.gcd_mul_left, Int.natCast_mul]
    congr 1
    omega
  rw [e, Int.mul_ediv_mul_of_pos _ _ hk, Int.mul_ediv_mul_of_pos _ _ hk]
theorem red_red {a b : Int} (hb : 0 < b) : red (red a b).1 (red a b).2 = red a b := by
  have := red_scale (red a b).1 (red a b).2 (gcd_pos (a := a) hb)
  rw [← red_1, ← red_2] at this
  exact this.symm
section
variable {a b c d : Int}
theorem red_plus (hb : 0 < b) (hd : 0 < d) : red ((red a b).1 * (red c d).2 + (red c d).1 * (red a b).2) ((red a b).2 * (red c d).2) = red (a * d + c * b) (b * d) := by
  have h1 := red_1 a b; have h2 := red_2 a b; have h3 := red_1 c d; have h4 := red_2 c d
  have g := gcd_pos (a := a) hb; have g' := gcd_pos (a := c) hd
  rw [← red_scale (k := (Int.gcd a b : Int) * (Int.gcd c d : Int)) _ _ (Int.mul_pos g g')]
  congr 1 <;> grind
theorem red_minus (hb : 0 < b) (hd : 0 < d) : red ((red a b).1 * (red c d).2 - (red c d).1 * (red a b).2) ((red a b).2 * (red c d).2) = red (a * d - c * b) (b * d) := by
  have h1 := red_1 a b; have h2 := red_2 a b; have h3 := red_1 c d; have h4 := red_2 c d
  have g := gcd_pos (a := a) hb; have g' := gcd_pos (a := c) hd
  rw [← red_scale (k := (Int.gcd a b : Int) * (Int.gcd c d : Int)) _ _ (Int.mul_pos g g')]
  congr 1 <;> grind
theorem red_times (hb : 0 < b) (hd : 0 < d) : red ((red a b).1 * (red c d).1) ((red a b).2 * (red c d).2) = red (a * c) (b * d) := by
  have h1 := red_1 a b; have h2 := red_2 a b; have h3 := red_1 c d; have h4 := red_2 c d
  have g := gcd_pos (a := a) hb; have g' := gcd_pos (a := c) hd
  rw [← red_scale (k := (Int.gcd a b : Int) * (Int.gcd c d : Int)) _ _ (Int.mul_pos g g')]
  congr 1 <;> grind
theorem red_over (hb : 0 < b) (hd : 0 < d) : red ((red a b).1 * (red c d).2) ((red a b).2 * (red c d).1) = red (a * d) (b * c) := by
  have h1 := red_1 a b; have h2 := red_2 a b; have h3 := red_1 c d; have h4 := red_2 c d
  have g := gcd_pos (a := a) hb; have g' := gcd_pos (a := c) hd
  rw [← red_scale (k := (Int.gcd a b : Int) * (Int.gcd c d : Int)) _ _ (Int.mul_pos g g')]
  congr 1 <;> grind
theorem red_less (hb : 0 < b) (hd : 0 < d) : (red a b).1 * (red c d).2 < (red c d).1 * (red a b).2 ↔ a * d < c * b := by
  have h1 := red_1 a b; have h2 := red_2 a b; have h3 := red_1 c d; have h4 := red_2 c d
  have g := gcd_pos (a := a) hb; have g' := gcd_pos (a := c) hd
  have k := Int.mul_pos g g'
  have e1 : a * d = ((Int.gcd a b : Int) * (Int.gcd c d : Int)) * ((red a b).1 * (red c d).2) := by grind
  have e2 : c * b = ((Int.gcd a b : Int) * (Int.gcd c d : Int)) * ((red c d).1 * (red a b).2) := by grind
  rw [e1, e2, Int.mul_lt_mul_left k]
theorem red_floor (hb : 0 < b) : (red a b).1 / (red a b).2 = a / b := by
  have g := gcd_pos (a := a) hb
  conv => rhs; rw [red_1 a b]; arg 2; rw [red_2 a b]
  rw [Int.mul_ediv_mul_of_pos _ _ g]
theorem red_ceil (hb : 0 < b) : (-(red a b).1) / (red a b).2 = (-a) / b := by
  have g := gcd_pos (a := a) hb
  have h := red_1 a b; have h2 := red_2 a b
  have : (-a) / b = ((Int.gcd a b : Int) * (-(red a b).1)) / ((Int.gcd a b : Int) * (red a b).2) := by
    rw [← h2, Int.mul_neg, ← h]
  rw [this, Int.mul_ediv_mul_of_pos _ _ g]
theorem red_near (hb : 0 < b) : (2 * (red a b).1 + (red a b).2) / (2 * (red a b).2) = (2 * a + b) / (2 * b) := by
  have g := gcd_pos (a := a) hb
  have h := red_1 a b; have h2 := red_2 a b
  have : (2 * a + b) / (2 * b) = ((Int.gcd a b : Int) * (2 * (red a b).1 + (red a b).2)) / ((Int.gcd a b : Int) * (2 * (red a b).2)) := by
    congr 1 <;> grind
  rw [this, Int.mul_ediv_mul_of_pos _ _ g]
/-- the greatest common divisor, by trial -/
theorem gcd_top (hb : 0 < b) {g : Int} (h1 : a % g = 0) (h2 : b % g = 0) (hg : 0 < g) (h : ∀ k, g < k → k ≤ b → ¬ (a % k = 0 ∧ b % k = 0)) : g = Int.gcd a b := by
  have p := gcd_pos (a := a) hb
  have l := gcd_le (a := a) hb
  have d : g ∣ (Int.gcd a b : Int) := Int.dvd_coe_gcd (Int.dvd_of_emod_eq_zero h1) (Int.dvd_of_emod_eq_zero h2)
  have d2 := Int.le_of_dvd p d
  by_cases z : g < (Int.gcd a b : Int)
  · exact absurd ⟨Int.emod_eq_zero_of_dvd (Int.gcd_dvd_left ..), Int.emod_eq_zero_of_dvd (Int.gcd_dvd_right ..)⟩ (h _ z l)
  · omega
end
/-! ### the middle -/
abbrev Fr := Int × Int
def flt (x y : Fr) : Prop := x.1 * y.2 < y.1 * x.2
instance (x y : Fr) : Decidable (flt x y) := inferInstanceAs (Decidable (_ < _))
theorem flt_trans {x y z : Fr} (hx : 0 < x.2) (hy : 0 < y.2) (hz : 0 < z.2) (h : ¬ flt y x) (h2 : ¬ flt z y) : ¬ flt z x := by
  unfold flt at *
  have a1 : x.1 * y.2 ≤ y.1 * x.2 := by omega
  have a2 : y.1 * z.2 ≤ z.1 * y.2 := by omega
  have b1 := Int.mul_le_mul_of_nonneg_right a1 (c := z.2) (by omega)
  have b2 := Int.mul_le_mul_of_nonneg_right a2 (c := x.2) (by omega)
  have : y.2 * (x.1 * z.2) ≤ y.2 * (z.1 * x.2) := by grind
  have := Int.le_of_mul_le_mul_left this hy
  omega
def insF (row : List Fr) (one : Fr) : List Fr :=
  let place := (row.filter fun other => !decide (flt one other)).length
  row.take place ++ one :: row.drop place
def medRow : List Fr → List Fr → List Fr
  | row, [] => row
  | row, x :: xs => medRow (insF row x) xs
def srt (row : List Fr) : Prop := row.Pairwise fun x y => ¬ flt y x
def posF (row : List Fr) : Prop := ∀ x ∈ row, 0 < x.2
theorem filt_take {row : List Fr} {one : Fr} (h : srt row) (hp : posF row) (ho : 0 < one.2) : row.filter (fun other => !decide (flt one other)) = row.take (row.filter fun other => !decide (flt one other)).length := by
  induction row with
  | nil => rfl
  | cons x xs ih =>
    have h1 := List.pairwise_cons.mp h
    rw [List.filter_cons]
    by_cases z : flt one x
    · have : xs.filter (fun other => !decide (flt one other)) = [] := by
        rw [List.filter_eq_nil_iff]
        intro y hy
        have hx := h1.1 y hy
        have : flt one y := by
          by_cases zz : flt one y
          · exact zz
          · exact absurd z (flt_trans (hp x List.mem_cons_self) (hp y (List.mem_cons_of_mem _ hy)) ho hx zz)
        simp [this]
      simp [z, this]
    · simp [z]
      exact ih h1.2 (fun y hy => hp y (List.mem_cons_of_mem _ hy))
theorem insF_perm (row : List Fr) (one : Fr) : (insF row one).Perm (one :: row) := by
  unfold insF
  refine List.perm_middle.trans ?_
  rw [List.take_append_drop]
theorem insF_pos {row : List Fr} {one : Fr} (hp : posF row) (ho : 0 < one.2) : posF (insF row one) := fun x hx => by
  have := (insF_perm row one).mem_iff.mp hx
  rcases List.mem_cons.mp this with e | e
  · rw [e]; exact ho
  · exact hp x e
theorem insF_srt {row : List Fr} {one : Fr} (h : srt row) (hp : posF row) (ho : 0 < one.2) : srt (insF row one) := by
  induction row with
  | nil => exact List.pairwise_singleton ..
  | cons x xs ih =>
    have h1 := List.pairwise_cons.mp h
    have hp1 : posF xs := fun y hy => hp y (List.mem_cons_of_mem _ hy)
    by_cases z : flt one x
    · have e : xs.filter (fun other => !decide (flt one other)) = [] := by
        rw [List.filter_eq_nil_iff]
        intro y hy
        have : flt one y := by
          by_cases zz : flt one y
          · exact zz
          · exact absurd z (flt_trans (hp x List.mem_cons_self) (hp1 y hy) ho (h1.1 y hy) zz)
        simp [this]
      have : insF (x :: xs) one = one :: x :: xs := by unfold insF; simp [z, e]
      rw [this]
      refine List.pairwise_cons.mpr ⟨fun y hy => ?_, h⟩
      rcases List.mem_cons.mp hy with e | e
      · subst e; unfold flt at z ⊢; omega
      · intro w
        have zz := h1.1 y e
        refine flt_trans ho (hp x List.mem_cons_self) (hp1 y e) ?_ zz w
        unfold flt at z ⊢; omega
    · have : insF (x :: xs) one = x :: insF xs one := by unfold insF; simp [z]
      rw [this]
      refine List.pairwise_cons.mpr ⟨fun y hy => ?_, ih h1.2 hp1⟩
      rcases List.mem_cons.mp ((insF_perm xs one).mem_iff.mp hy) with e | e
      · rw [e]; exact z
      · exact h1.1 y e
theorem medRow_ok : ∀ {xs row : List Fr}, srt row → posF row → posF xs → srt (medRow row xs) ∧ posF (medRow row xs) ∧ (medRow row xs).Perm (xs ++ row)
  | [], row, h, hp, _ => ⟨h, hp, .refl _⟩
  | x :: xs, row, h, hp, hx => by
    have ho := hx x List.mem_cons_self
    obtain ⟨a1, a2, a3⟩ := medRow_ok (xs := xs) (insF_srt h hp ho) (insF_pos hp ho) fun y hy => hx y (List.mem_cons_of_mem _ hy)
    refine ⟨a1, a2, a3.trans ?_⟩
    refine ((insF_perm row x).append_left xs).trans ?_
    exact List.perm_middle
/-- at most so many are below what stands at the place n / 2 or at a lesser one -/
theorem below_le {row : List Fr} {p : Fr → Bool} {m : Nat} (h : ∀ i (hi : i < row.length), m ≤ i → p row[i] = false) : row.countP p ≤ m := by
  conv => lhs; rw [← List.take_append_drop m row]
  rw [List.countP_append]
  have : (row.drop m).countP p = 0 := by
    rw [List.countP_eq_zero]
    intro x hx
    obtain ⟨i, hi, e⟩ := List.getElem_of_mem hx
    rw [List.getElem_drop] at e
    have hl : m + i < row.length := by rw [List.length_drop] at hi; omega
    have := h (m + i) hl (by omega)
    rw [e] at this
    simp [this]
  have := List.countP_le_length (p := p) (l := row.take m)
  rw [List.length_take] at this
  omega
theorem above_le {row : List Fr} {p : Fr → Bool} {m : Nat} (h : ∀ i (hi : i < row.length), i < m → p row[i] = false) : row.countP p ≤ row.length - m := by
  conv => lhs; rw [← List.take_append_drop m row]
  rw [List.countP_append]
  have : (row.take m).countP p = 0 := by
    rw [List.countP_eq_zero]
    intro x hx
    obtain ⟨i, hi, e⟩ := List.getElem_of_mem hx
    rw [List.getElem_take] at e
    have hl := hi
    rw [List.length_take] at hl
    have := h i (by omega) (by omega)
    rw [e] at this
    simp [this]
  have := List.countP_le_length (p := p) (l := row.drop m)
  rw [List.length_drop] at this
  omega
def midF (p q : Fr) : Fr := red (p.1 * q.2 + q.1 * p.2) (p.2 * q.2 * 2)
theorem mid_flt {p q z : Fr} (hp : 0 < p.2) (hq : 0 < q.2) (hz : 0 < z.2) : (flt z (midF p q) ↔ z.1 * (p.2 * q.2 * 2) < (p.1 * q.2 + q.1 * p.2) * z.2) ∧ (flt (midF p q) z ↔ (p.1 * q.2 + q.1 * p.2) * z.2 < z.1 * (p.2 * q.2 * 2)) := by
  have hd : 0 < p.2 * q.2 * 2 := Int.mul_pos (Int.mul_pos hp hq) (by omega)
  have h1 := red_1 (p.1 * q.2 + q.1 * p.2) (p.2 * q.2 * 2)
  have h2 := red_2 (p.1 * q.2 + q.1 * p.2) (p.2 * q.2 * 2)
  have g := gcd_pos (a := p.1 * q.2 + q.1 * p.2) hd
  unfold flt midF
  generalize (red (p.1 * q.2 + q.1 * p.2) (p.2 * q.2 * 2)).1 = m1 at *
  generalize (red (p.1 * q.2 + q.1 * p.2) (p.2 * q.2 * 2)).2 = m2 at *
  generalize (Int.gcd (p.1 * q.2 + q.1 * p.2) (p.2 * q.2 * 2) : Int) = k at *
  generalize p.1 * q.2 + q.1 * p.2 = N at *
  generalize p.2 * q.2 * 2 = M at *
  have e1 : z.1 * M = k * (z.1 * m2) := by grind
  have e2 : N * z.2 = k * (m1 * z.2) := by grind
  rw [e1, e2]
  exact ⟨(Int.mul_lt_mul_left g).symm, (Int.mul_lt_mul_left g).symm⟩
theorem mid_lo {p q z : Fr} (hp : 0 < p.2) (hq : 0 < q.2) (hz : 0 < z.2) (h1 : ¬ flt z p) (h2 : ¬ flt z q) : ¬ flt z (midF p q) := by
  rw [(mid_flt hp hq hz).1]
  unfold flt at h1 h2
  have a1 : p.1 * z.2 ≤ z.1 * p.2 := by omega
  have a2 : q.1 * z.2 ≤ z.1 * q.2 := by omega
  have b1 := Int.mul_le_mul_of_nonneg_right a1 (c := q.2) (by omega)
  have b2 := Int.mul_le_mul_of_nonneg_right a2 (c := p.2) (by omega)
  have e : (p.1 * q.2 + q.1 * p.2) * z.2 ≤ z.1 * (p.2 * q.2 * 2) := by
    have e1 : (p.1 * q.2 + q.1 * p.2) * z.2 = p.1 * z.2 * q.2 + q.1 * z.2 * p.2 := by grind
    have e2 : z.1 * (p.2 * q.2 * 2) = z.1 * p.2 * q.2 + z.1 * q.2 * p.2 := by grind
    omega
  omega
theorem mid_hi {p q z : Fr} (hp : 0 < p.2) (hq : 0 < q.2) (hz : 0 < z.2) (h1 : ¬ flt p z) (h2 : ¬ flt q z) : ¬ flt (midF p q) z := by
  rw [(mid_flt hp hq hz).2]
  unfold flt at h1 h2
  have a1 : z.1 * p.2 ≤ p.1 * z.2 := by omega
  have a2 : z.1 * q.2 ≤ q.1 * z.2 := by omega
  have b1 := Int.mul_le_mul_of_nonneg_right a1 (c := q.2) (by omega)
  have b2 := Int.mul_le_mul_of_nonneg_right a2 (c := p.2) (by omega)
  have e1 : (p.1 * q.2 + q.1 * p.2) * z.2 = p.1 * z.2 * q.2 + q.1 * z.2 * p.2 := by grind
  have e2 : z.1 * (p.2 * q.2 * 2) = z.1 * p.2 * q.2 + z.1 * q.2 * p.2 := by grind
  omega
theorem mid_same {p : Fr} (hp : 0 < p.2) (h : red p.1 p.2 = p) : midF p p = p := by
  unfold midF
  have := red_scale (k := 2 * p.2) p.1 p.2 (by omega)
  rw [h] at this
  conv => rhs; rw [← this]
  congr 1 <;> grind
theorem srt_le {row : List Fr} (hs : srt row) {i j : Nat} (hi : i < row.length) (hj : j < row.length) (h : i ≤ j) : ¬ flt row[j] row[i] := by
  by_cases e : i = j
  · subst e; unfold flt; omega
  · exact (List.pairwise_iff_getElem.mp hs) i j hi hj (by omega)
theorem mid_all {row : List Fr} (hs : srt row) (hp : posF row) {i j : Nat} (hi : i < row.length) (hj : j < row.length) (hij : i ≤ j) :
    row.countP (fun z => decide (flt z (midF row[i] row[j]))) ≤ j ∧ row.countP (fun z => decide (flt (midF row[i] row[j]) z)) ≤ row.length - (i + 1) := by
  have p1 := hp _ (List.getElem_mem hi)
  have p2 := hp _ (List.getElem_mem hj)
  constructor
  · refine below_le fun k hk h => decide_eq_false (mid_lo p1 p2 (hp _ (List.getElem_mem hk)) (srt_le hs hi hk (by omega)) (srt_le hs hj hk h))
  · refine above_le fun k hk h => decide_eq_false (mid_hi p1 p2 (hp _ (List.getElem_mem hk)) (srt_le hs hk hi (by omega)) (srt_le hs hk hj (by omega)))
end Ev.L
end

section
namespace Ev.L
local macro_rules | `(tactic| walk_at "ev") => `(tactic| simp only [sq_nil, ↓sq_cons, ↓seq_next, ↓seq_ret, ↓seq_exc, ↓bind_ok, ↓bind_exc, ↓out_ok, ↓out_exc, look_0, look_s, put_0, put_s, svOf_f, svOf_t, nmV_val, nmV_ownF, nmV_ownT, nmV_ro,
  deref_non, deref_bl, deref_int, deref_str, deref_tup, deref_lst, deref_dic, deref_obj, deref_fn, deref_scr, deref_0, deref_s, truth_bl, ofO_some, ofC_ok, ofC_exc, asVal_ok, asVal_exc, newV_f, newV_t,
  e_nm, e_cst, e_glob, e_bin, e_neg, e_not, e_and, e_or, e_ife, e_cmp, e_cmp2, e_tup, e_lst, e_dic, e_call, e_meth, e_make, e_blt, e_fldN, e_fldF, e_fldS, e_fldC, e_fldM, e_sub, e_slc, e_rev, e_lrg1, e_lrg2, e_isiN, e_isiS, es_nil, es_cons, bs_nil, bs_cons, ps_nil, ps_cons, o_none, o_some, c_none, c_some, i_of, i_enum, i_range1, i_range2,
  nx_some, asgT_nm, asgT_tup, asgTs_nil, asgTs_cons, putP_nil, putP_cons, killS_nil, killS_cons, chR_some, chN_some, chO_own, chg_ref, chg_lst, chg_dic, chg_obj, retN_own, retN_val, ↓tr_next, ↓tr_ret, ↓tr_exc, augN1_val, augN2_add, augN2_sub, onL_lst,
  s_asgN, s_asgT, s_asgP, s_setF, s_setI, s_augN, s_app, s_ext, s_ins, s_upd, s_expr, s_iff, s_ret0, s_retN, s_raise, s_try, s_pass, s_kill, r_cst, r_glob, r_bin, r_neg, r_not, r_and, r_or, r_ife, r_cmp, r_cmp2, r_tup, r_lst, r_dic, r_call, r_callv, r_meth, r_make, r_blt, r_fld, r_sub, r_slc, r_rev, r_lc, r_isi, r_lrg1, r_lrg2, r_fstr,
  b_add, b_sub, b_mulL, b_mulR, b_fdiv, b_mod, b_pow18, b_addS, b_addT, b_addL, c_eqI, c_neI, c_ltI, c_gtI, c_leI, c_geI, c_eqB, c_neB, c_isn, c_isnt, non_non, non_bl, non_int, non_str, non_tup, non_lst, non_dic, non_obj, negV_int,
  isi_non, isi_bl, isi_int, isi_str, isi_tup, isi_lst, isi_dic, isi_obj, isi0_val, isi0_own, isi0_ro, fld0_val, fld0_own, fld0_ro, fld0_exc, fldV_obj, fget_cons, fput_cons, fput_nil, setFD_obj, isKd, List.any_cons, List.any_nil, Bool.or_false, Bool.or_true, Bool.true_or, Bool.false_or, Bool.not_true, Bool.not_false, Bool.and_true, Bool.and_false, Bool.true_and, Bool.false_and, Bool.and_self, Bool.or_self,
  sub_T0, sub_T1, sub_T2, sub_T3, sub_T4, sub_L0, sub_L1, sub_L2, sub_L3, sub_L4, lenT, lenL, lenS, lenDi, lenSc, tupL, tupT, lstL, lstT, absI, intI, intB, min2I, max2I, raiseO_0, raiseO_1, raiseO_2, lcR_f, seqL, seqT, seqS, appD_lst, extD_lst, insD_lst, putI_L, lcT_eq, lcN_some, wipeS_nil, wipeS_cons, slotsT_nm, slotsT_tup, slotsTs_nil, slotsTs_cons, hide_un, hide_val, hide_own, hide_ro, hide_exc, c_eqS, c_neS, c_eqNN, c_eqLL, c_neLL, s_wh, s_for, e_lc, fin_next, fin_ret, fin_exc, forL_nil, hs_nil, hs_yesN, hs_yesS, hs_no, endX_nextS, endX_nextN, endX_ret, drop_un, drop_val, drop_own, drop_ro, drop_exc,
  List.map_cons, List.map_nil, List.length_cons, List.length_nil, Option.map_some, Option.bind_some, List.set_cons_zero, List.set_cons_succ, List.getElem?_cons_zero, List.getElem?_cons_succ, List.nil_append, List.cons_append,
  Nat.reduceAdd, Nat.reduceMul, Nat.reduceSub, Int.reduceNeg, Int.reduceAdd, Int.reduceSub, Int.reduceMul, Int.reduceDiv, Int.reduceMod, Int.reduceToNat, Int.reduceLT, Int.reduceLE, Int.reduceEq, Int.reduceNe, Nat.reduceLT, Nat.reduceLeDiff, Nat.reduceEqDiff, decide_true, decide_false, decide_eq_true_eq, decide_not, Bool.not_eq_true', decide_eq_false_iff_not, bne_self_eq_false, beq_self_eq_true, ↓reduceIte, if_true, if_false, Bool.false_eq_true, not_true_eq_false, not_false_eq_true, reduceCtorEq, Int.cast_ofNat_Int, Int.natCast_add, and_self, and_true, true_and, and_false, false_and, or_true, true_or, or_false, false_or, Int.ofNat_zero, Int.zero_add, Nat.zero_add, Nat.zero_le, *])
local macro_rules | `(tactic| walk_at "evo") => `(tactic| simp (maxSteps := 1000000) (disch := first | omega | assumption) only [sq_nil, ↓sq_cons, ↓seq_next, ↓seq_ret, ↓seq_exc, ↓bind_ok, ↓bind_exc, ↓out_ok, ↓out_exc, look_0, look_s, put_0, put_s, svOf_f, svOf_t, nmV_val, nmV_ownF, nmV_ownT, nmV_ro,
  deref_non, deref_bl, deref_int, deref_str, deref_tup, deref_lst, deref_dic, deref_obj, deref_fn, deref_scr, deref_0, deref_s, truth_bl, ofO_some, ofC_ok, ofC_exc, asVal_ok, asVal_exc, newV_f, newV_t,
  e_nm, e_cst, e_glob, e_bin, e_neg, e_not, e_and, e_or, e_ife, e_cmp, e_cmp2, e_tup, e_lst, e_dic, e_call, e_meth, e_make, e_blt, e_fldN, e_fldF, e_fldS, e_fldC, e_fldM, e_sub, e_slc, e_rev, e_lrg1, e_lrg2, e_isiN, e_isiS, es_nil, es_cons, bs_nil, bs_cons, ps_nil, ps_cons, o_none, o_some, c_none, c_some, i_of, i_enum, i_range1, i_range2,
  nx_some, asgT_nm, asgT_tup, asgTs_nil, asgTs_cons, putP_nil, putP_cons, killS_nil, killS_cons, chR_some, chN_some, chO_own, chg_ref, chg_lst, chg_dic, chg_obj, retN_own, retN_val, ↓tr_next, ↓tr_ret, ↓tr_exc, augN1_val, augN2_add, augN2_sub, onL_lst,
  s_asgN, s_asgT, s_asgP, s_setF, s_setI, s_augN, s_app, s_ext, s_ins, s_upd, s_expr, s_iff, s_ret0, s_retN, s_raise, s_try, s_pass, s_kill, r_cst, r_glob, r_bin, r_neg, r_not, r_and, r_or, r_ife, r_cmp, r_cmp2, r_tup, r_lst, r_dic, r_call, r_callv, r_meth, r_make, r_blt, r_fld, r_sub, r_slc, r_rev, r_lc, r_isi, r_lrg1, r_lrg2, r_fstr,
  b_add, b_sub, b_mulL, b_mulR, b_fdiv, b_mod, b_pow18, b_addS, b_addT, b_addL, c_eqI, c_neI, c_ltI, c_gtI, c_leI, c_geI, c_eqB, c_neB, c_isn, c_isnt, non_non, non_bl, non_int, non_str, non_tup, non_lst, non_dic, non_obj, negV_int,
  isi_non, isi_bl, isi_int, isi_str, isi_tup, isi_lst, isi_dic, isi_obj, isi0_val, isi0_own, isi0_ro, fld0_val, fld0_own, fld0_ro, fld0_exc, fldV_obj, fget_cons, fput_cons, fput_nil, setFD_obj, isKd, List.any_cons, List.any_nil, Bool.or_false, Bool.or_true, Bool.true_or, Bool.false_or, Bool.not_true, Bool.not_false, Bool.and_true, Bool.and_false, Bool.true_and, Bool.false_and, Bool.and_self, Bool.or_self,
  sub_T0, sub_T1, sub_T2, sub_T3, sub_T4, sub_L0, sub_L1, sub_L2, sub_L3, sub_L4, lenT, lenL, lenS, lenDi, lenSc, tupL, tupT, lstL, lstT, absI, intI, intB, min2I, max2I, raiseO_0, raiseO_1, raiseO_2, lcR_f, seqL, seqT, seqS, appD_lst, extD_lst, insD_lst, putI_L, lcT_eq, lcN_some, wipeS_nil, wipeS_cons, slotsT_nm, slotsT_tup, slotsTs_nil, slotsTs_cons, hide_un, hide_val, hide_own, hide_ro, hide_exc, c_eqS, c_neS, c_eqNN, c_eqLL, c_neLL, s_wh, s_for, e_lc, fin_next, fin_ret, fin_exc, forL_nil, hs_nil, hs_yesN, hs_yesS, hs_no, endX_nextS, endX_nextN, endX_ret, drop_un, drop_val, drop_own, drop_ro, drop_exc,
  List.map_cons, List.map_nil, List.length_cons, List.length_nil, Option.map_some, Option.bind_some, List.set_cons_zero, List.set_cons_succ, List.getElem?_cons_zero, List.getElem?_cons_succ, List.nil_append, List.cons_append,
  Nat.reduceAdd, Nat.reduceMul, Nat.reduceSub, Int.reduceNeg, Int.reduceAdd, Int.reduceSub, Int.reduceMul, Int.reduceDiv, Int.reduceMod, Int.reduceToNat, Int.reduceLT, Int.reduceLE, Int.reduceEq, Int.reduceNe, Nat.reduceLT, Nat.reduceLeDiff, Nat.reduceEqDiff, decide_true, decide_false, decide_eq_true_eq, decide_not, Bool.not_eq_true', decide_eq_false_iff_not, bne_self_eq_false, beq_self_eq_true, ↓reduceIte, if_true, if_false, Bool.false_eq_true, not_true_eq_false, not_false_eq_true, reduceCtorEq, Int.cast_ofNat_Int, Int.natCast_add, and_self, and_true, true_and, and_false, false_and, or_true, true_or, or_false, false_or, Int.ofNat_zero, Int.zero_add, Nat.zero_add, Nat.zero_le, *])

def frD (p : Fr) : D := .tup [.int p.1, .int p.2]
section
variable {rp : D → Option (List Nat)}
theorem wh_red {call mk : Nat → List D → Mem → CRes} {a b : Int} {h : Mem} : ∀ (n : Nat) (x y : Int), 0 ≤ x → 0 ≤ y → y.toNat ≤ n →
    loop (whS (evalE (exQ rp) call mk false (.cmp .gt (.nm 3) (.cst (.int 0)))) (evalSs (exQ rp) call mk none [.asgP [2, 3] [(.nm 3), (.bin .mod (.nm 2) (.nm 3))]])) .bad ⟨[.val (.int a), .val (.int b), .val (.int x), .val (.int y)], h⟩
      = .next ⟨[.val (.int a), .val (.int b), .val (.int (Int.gcd x y)), .val (.int 0)], h⟩
  | 0, x, y, hx, hy, hn => by
    have : y = 0 := by omega
    subst this
    have e : (Int.gcd x 0 : Int) = x := by rw [Int.gcd_zero_right]; omega
    refine wh_stop ?_
    rw [e]
    walk_at "ev"
  | n + 1, x, y, hx, hy, hn => by
    by_cases h0 : 0 < y
    · have hm1 := Int.emod_nonneg x (b := y) (by omega)
      have hm2 := Int.emod_lt_of_pos x h0
      rw [gcd_step, ← wh_red n y (x % y) hy hm1 (by omega)]
      refine wh_go (s1 := ⟨[.val (.int a), .val (.int b), .val (.int x), .val (.int y)], h⟩) ?_ ?_
      · walk_at "ev"
      · walk_at "ev"
    · have : y = 0 := by omega
      subst this
      have e : (Int.gcd x 0 : Int) = x := by rw [Int.gcd_zero_right]; omega
      refine wh_stop ?_
      rw [e]
      walk_at "ev"
theorem reduced_ok {k : Nat} {a b : Int} {h : Mem} (hb : 0 < b ∧ b < 1073741824) : (run (exQ rp) (k + 1)).1 2 [.int a, .int b] h = .ok (frD (red a b)) false h := by
  rw [run_fn rfl rfl]
  show fin (evalSs (exQ rp) _ _ none B2 ⟨[.val (.int a), .val (.int b), .un, .un], h⟩) = _
  unfold B2 frD red
  have hg : 0 < (Int.gcd a b : Int) := gcd_pos hb.1
  have hg2 : (Int.gcd a b : Int) ≤ b := gcd_le hb.1
  have hg3 : (Int.gcd a b : Int) < 1073741824 := by omega
  have e : ((if a < 0 then -a else a).gcd b) = Int.gcd a b := by
    split
    · rw [Int.neg_gcd]
    · rfl
  have hh : (0 : Int) ≤ if a < 0 then -a else a := by split <;> omega
  have w := wh_red (rp := rp) (call := (run (exQ rp) k).1) (mk := (run (exQ rp) k).2) (a := a) (b := b) (h := h) b.toNat _ b hh (by omega) (Nat.le_refl _)
  rw [e] at w
  walk_at "ev"
theorem low_loop {call mk : Nat → List D → Mem → CRes} {a b : Int} {h : Mem} : ∀ (n : Nat) (i g : Int) (v : SV), 0 < i → i + n = b + 1 →
    ∃ g' v', forL (.nm 3) (evalSs (exQ rp) call mk none [.iff (.and (.cmp .eq (.bin .mod (.blt .int [(.nm 0)]) (.nm 3)) (.cst (.int 0))) (.cmp .eq (.bin .mod (.blt .int [(.nm 1)]) (.nm 3)) (.cst (.int 0)))) [.asg (.nm 2) (.nm 3)] []])
      ((intR i (b + 1)).map D.int) ⟨[.val (.int a), .val (.int b), .val (.int g), v], h⟩ = .next ⟨[.val (.int a), .val (.int b), .val (.int g'), v'], h⟩ ∧
      (a % g = 0 → b % g = 0 → 0 < g → a % g' = 0 ∧ b % g' = 0 ∧ 0 < g') ∧ (∀ k, i ≤ k → k ≤ b → g' < k → ¬ (a % k = 0 ∧ b % k = 0)) ∧ (g < i → g ≤ g')
  | 0, i, g, v, hi, hn => by
    refine ⟨g, v, ?_, fun h1 h2 h3 => ⟨h1, h2, h3⟩, fun k h1 h2 _ => by omega, fun _ => Int.le_refl _⟩
    rw [ints_nil (by omega), List.map_nil, forL_nil]
  | n + 1, i, g, v, hi, hn => by
    rw [ints_cons (by omega), List.map_cons, forL_cons]
    by_cases z : a % i = 0 ∧ b % i = 0
    · obtain ⟨z1, z2⟩ := z
      obtain ⟨g', v', q1, q2, q3, q4⟩ := low_loop (call := call) (mk := mk) (a := a) (b := b) (h := h) n (i + 1) i (.val (.int i)) (by omega) (by omega)
      refine ⟨g', v', ?_, fun _ _ _ => q2 z1 z2 hi, fun k h1 h2 h3 => ?_, fun hg => ?_⟩
      · walk_at "ev"
      · have := q4 (by omega)
        by_cases zz : k = i
        · omega
        · exact q3 k (by omega) h2 h3
      · have := q4 (by omega); omega
    · obtain ⟨g', v', q1, q2, q3, q4⟩ := low_loop (call := call) (mk := mk) (a := a) (b := b) (h := h) n (i + 1) g (.val (.int i)) (by omega) (by omega)
      refine ⟨g', v', ?_, q2, fun k h1 h2 h3 => ?_, fun hg => q4 (by omega)⟩
      · by_cases z1 : a % i = 0
        · have z2 : ¬ (b % i = 0) := fun z2 => z ⟨z1, z2⟩
          walk_at "ev"
        · walk_at "ev"
      · by_cases zz : k = i
        · subst zz; exact z
        · exact q3 k (by omega) h2 h3
theorem low_ok {k : Nat} {a b : Int} {h : Mem} (hb : 0 < b ∧ b < 1073741823) : (run (exQ rp) (k + 1)).1 18 [.int a, .int b] h = .ok (frD (red a b)) false h := by
  rw [run_fn rfl rfl]
  show fin (evalSs (exQ rp) _ _ none B18 ⟨[.val (.int a), .val (.int b), .un, .un], h⟩) = _
  unfold B18 frD red
  obtain ⟨g', v', q1, q2, q3, q4⟩ := low_loop (rp := rp) (call := (run (exQ rp) k).1) (mk := (run (exQ rp) k).2) (a := a) (b := b) (h := h) b.toNat 1 1 .un (by omega) (by omega)
  obtain ⟨q5, q6, q7⟩ := q2 (Int.emod_one a) (Int.emod_one b) (by omega)
  have e : g' = Int.gcd a b := gcd_top hb.1 q5 q6 q7 fun k h1 h2 => q3 k (by omega) h2 h1
  have hg2 : (Int.gcd a b : Int) ≤ b := gcd_le hb.1
  have hg : 0 < (Int.gcd a b : Int) := gcd_pos hb.1
  have hg3 : (Int.gcd a b : Int) < 1073741824 := by omega
  subst e
  have r1 : rg2 (.int 1) (.int (b + 1)) = some ((intR 1 (b + 1)).map D.int) := by rw [rg2_ok (by omega), rangeD_eq]
  walk_at "ev"
/-! ### the small ones -/
def okF (x : Fr) : Prop := 0 < x.2 ∧ x.2 < 1073741824
def fplus (x y : Fr) : Fr := red (x.1 * y.2 + y.1 * x.2) (x.2 * y.2)
def fminus (x y : Fr) : Fr := red (x.1 * y.2 - y.1 * x.2) (x.2 * y.2)
def ftimes (x y : Fr) : Fr := red (x.1 * y.1) (x.2 * y.2)
def fover (x y : Fr) : Fr := red (x.1 * y.2) (x.2 * y.1)
section
variable {k : Nat} {x1 x2 y1 y2 : Int} {h : Mem}
theorem plus_ok (hx : 0 < x2 ∧ x2 < 1073741824) (hy : 0 < y2 ∧ y2 < 1073741824) (hm : x2 * y2 < 1073741824) : (run (exQ rp) (k + 2)).1 5 [frD (x1, x2), frD (y1, y2)] h = .ok (frD (fplus (x1, x2) (y1, y2))) false h := by
  rw [run_fn rfl rfl]
  show fin (evalSs (exQ rp) _ _ none B5 ⟨[.val (frD _), .val (frD _)], h⟩) = _
  unfold B5 frD fplus
  have hp := Int.mul_pos hx.1 hy.1
  have r := reduced_ok (rp := rp) (k := k) (a := x1 * y2 + y1 * x2) (b := x2 * y2) (h := h) (by omega)
  walk_at "evo"
  rfl
theorem minus_ok (hx : 0 < x2 ∧ x2 < 1073741824) (hy : 0 < y2 ∧ y2 < 1073741824) (hm : x2 * y2 < 1073741824) : (run (exQ rp) (k + 2)).1 6 [frD (x1, x2), frD (y1, y2)] h = .ok (frD (fminus (x1, x2) (y1, y2))) false h := by
  rw [run_fn rfl rfl]
  show fin (evalSs (exQ rp) _ _ none B6 ⟨[.val (frD _), .val (frD _)], h⟩) = _
  unfold B6 frD fminus
  have hp := Int.mul_pos hx.1 hy.1
  have r := reduced_ok (rp := rp) (k := k) (a := x1 * y2 - y1 * x2) (b := x2 * y2) (h := h) (by omega)
  walk_at "evo"
  rfl
theorem times_ok (hx : 0 < x2 ∧ x2 < 1073741824) (hy : 0 < y2 ∧ y2 < 1073741824) (hm : x2 * y2 < 1073741824) (hz : -1073741824 < y1 ∧ y1 < 1073741824) : (run (exQ rp) (k + 2)).1 7 [frD (x1, x2), frD (y1, y2)] h = .ok (frD (ftimes (x1, x2) (y1, y2))) false h := by
  rw [run_fn rfl rfl]
  show fin (evalSs (exQ rp) _ _ none B7 ⟨[.val (frD _), .val (frD _)], h⟩) = _
  unfold B7 frD ftimes
  have hp := Int.mul_pos hx.1 hy.1
  have r := reduced_ok (rp := rp) (k := k) (a := x1 * y1) (b := x2 * y2) (h := h) (by omega)
  walk_at "evo"
  rfl
theorem over_ok (hx : 0 < x2 ∧ x2 < 1073741824) (hy : 0 < y2 ∧ y2 < 1073741824) (hm : x2 * y1 < 1073741824) (hz : 0 < y1) : (run (exQ rp) (k + 2)).1 8 [frD (x1, x2), frD (y1, y2)] h = .ok (frD (fover (x1, x2) (y1, y2))) false h := by
  rw [run_fn rfl rfl]
  show fin (evalSs (exQ rp) _ _ none B8 ⟨[.val (frD _), .val (frD _)], h⟩) = _
  unfold B8 frD fover
  have hp := Int.mul_pos hx.1 hz
  have r := reduced_ok (rp := rp) (k := k) (a := x1 * y2) (b := x2 * y1) (h := h) (by omega)
  walk_at "evo"
  rfl
theorem less_ok (hx : 0 < x2 ∧ x2 < 1073741824) (hy : 0 < y2 ∧ y2 < 1073741824) : (run (exQ rp) (k + 1)).1 9 [frD (x1, x2), frD (y1, y2)] h = .ok (.bl (decide (flt (x1, x2) (y1, y2)))) false h := by
  rw [run_fn rfl rfl]
  show fin (evalSs (exQ rp) _ _ none B9 ⟨[.val (frD _), .val (frD _)], h⟩) = _
  unfold B9 frD
  walk_at "evo"
  rfl
theorem floor_ok (hx : 0 < x2 ∧ x2 < 1073741824) : (run (exQ rp) (k + 1)).1 10 [frD (x1, x2)] h = .ok (.int (x1 / x2)) false h := by
  rw [run_fn rfl rfl]
  show fin (evalSs (exQ rp) _ _ none B10 ⟨[.val (frD _)], h⟩) = _
  unfold B10 frD
  walk_at "evo"
theorem ceil_ok (hx : 0 < x2 ∧ x2 < 1073741824) : (run (exQ rp) (k + 1)).1 11 [frD (x1, x2)] h = .ok (.int (-(-x1 / x2))) false h := by
  rw [run_fn rfl rfl]
  show fin (evalSs (exQ rp) _ _ none B11 ⟨[.val (frD _)], h⟩) = _
  unfold B11 frD
  walk_at "evo"
theorem near_ok (hx : 0 < x2 ∧ x2 < 500000000) : (run (exQ rp) (k + 1)).1 12 [frD (x1, x2)] h = .ok (.int ((2 * x1 + x2) / (2 * x2))) false h := by
  rw [run_fn rfl rfl]
  show fin (evalSs (exQ rp) _ _ none B12 ⟨[.val (frD _)], h⟩) = _
  unfold B12 frD
  walk_at "evo"
theorem isw_int {i : Int} : (run (exQ rp) (k + 1)).1 0 [.int i] h = .ok (.bl true) false h := by
  rw [run_fn rfl rfl]
  show fin (evalSs (exQ rp) _ _ none B0 ⟨[.val _], h⟩) = _
  unfold B0
  walk_at "evo"
theorem isw_bl {i : Bool} : (run (exQ rp) (k + 1)).1 0 [.bl i] h = .ok (.bl false) false h := by
  rw [run_fn rfl rfl]
  show fin (evalSs (exQ rp) _ _ none B0 ⟨[.val _], h⟩) = _
  unfold B0
  walk_at "evo"
theorem isr_tup {i : List D} : (run (exQ rp) (k + 1)).1 1 [.tup i] h = .ok (.bl true) false h := by
  rw [run_fn rfl rfl]
  show fin (evalSs (exQ rp) _ _ none B1 ⟨[.val _], h⟩) = _
  unfold B1
  walk_at "evo"
theorem isr_lst {i : List D} : (run (exQ rp) (k + 1)).1 1 [.lst i] h = .ok (.bl true) false h := by
  rw [run_fn rfl rfl]
  show fin (evalSs (exQ rp) _ _ none B1 ⟨[.val _], h⟩) = _
  unfold B1
  walk_at "evo"
theorem isr_non : (run (exQ rp) (k + 1)).1 1 [.non] h = .ok (.bl false) false h := by
  rw [run_fn rfl rfl]
  show fin (evalSs (exQ rp) _ _ none B1 ⟨[.val _], h⟩) = _
  unfold B1
  walk_at "evo"
theorem isr_int {i : Int} : (run (exQ rp) (k + 1)).1 1 [.int i] h = .ok (.bl false) false h := by
  rw [run_fn rfl rfl]
  show fin (evalSs (exQ rp) _ _ none B1 ⟨[.val _], h⟩) = _
  unfold B1
  walk_at "evo"
theorem c_eqF {x y : Fr} : cmpop .eq (frD x) (frD y) = some (decide (x = y)) := by
  rw [c_eq rfl rfl]
  obtain ⟨x1, x2⟩ := x
  obtain ⟨y1, y2⟩ := y
  simp only [frD, D.eqv, eqvL, Bool.and_true, Prod.mk.injEq, Option.some.injEq]
  rw [Bool.eq_iff_iff]
  simp
theorem isf_tup {a b : Int} (hb : 0 < b ∧ b < 1073741824) : (run (exQ rp) (k + 2)).1 3 [.tup [.int a, .int b]] h = .ok (.bl (decide (red a b = (a, b)))) false h := by
  rw [run_fn rfl rfl]
  show fin (evalSs (exQ rp) _ _ none B3 ⟨[.val _], h⟩) = _
  unfold B3
  have r := reduced_ok (rp := rp) (k := k) (a := a) (b := b) (h := h) hb
  have e1 := isr_tup (rp := rp) (k := k) (h := h) (i := [.int a, .int b])
  have e2 := isw_int (rp := rp) (k := k) (h := h) (i := a)
  have e3 := isw_int (rp := rp) (k := k) (h := h) (i := b)
  have hn : ¬ b < 1 := by omega
  walk_at "ev"
  have e := c_eqF (x := red a b) (y := (a, b))
  unfold frD at e ⊢
  walk_at "ev"
theorem isf_lst {a b : Int} (hb : 0 < b ∧ b < 1073741824) : (run (exQ rp) (k + 2)).1 3 [.lst [.int a, .int b]] h = .ok (.bl (decide (red a b = (a, b)))) false h := by
  rw [run_fn rfl rfl]
  show fin (evalSs (exQ rp) _ _ none B3 ⟨[.val _], h⟩) = _
  unfold B3
  have r := reduced_ok (rp := rp) (k := k) (a := a) (b := b) (h := h) hb
  have e1 := isr_lst (rp := rp) (k := k) (h := h) (i := [.int a, .int b])
  have e2 := isw_int (rp := rp) (k := k) (h := h) (i := a)
  have e3 := isw_int (rp := rp) (k := k) (h := h) (i := b)
  have hn : ¬ b < 1 := by omega
  walk_at "ev"
  have e := c_eqF (x := red a b) (y := (a, b))
  unfold frD at e ⊢
  walk_at "ev"
end
/-! ### total, median -/
def ftotal : Fr → List Fr → Fr
  | w, [] => w
  | w, x :: xs => ftotal (fplus w x) xs
/-- the bottoms stay small -/
def small2 : Int → List Fr → Prop
  | m, [] => m < 1073741823
  | m, x :: xs => 0 < x.2 ∧ x.2 < 1073741823 ∧ 0 < m ∧ m < 1073741823 ∧ ∃ n, 0 < n ∧ x.2 ≤ n ∧ small2 (m * n) xs
theorem small2_lt : ∀ {xs : List Fr} {m : Int}, small2 m xs → m < 1073741823
  | [], _, h => h
  | _ :: _, _, h => h.2.2.2.1
theorem total_loop {k : Nat} {mk : Nat → List D → Mem → CRes} {r : D} {h : Mem} : ∀ {xs : List Fr} {w : Fr} {v : SV} {m : Int}, small2 m xs → 0 < w.2 → w.2 ≤ m → ∃ v',
    forL (.nm 2) (evalSs (exQ rp) (run (exQ rp) (k + 2)).1 mk none [.asg (.nm 1) (.call 5 [(.nm 1), (.nm 2)])]) (xs.map frD) ⟨[.val r, .val (frD w), v], h⟩ = .next ⟨[.val r, .val (frD (ftotal w xs)), v'], h⟩
  | [], w, v, m, _, _, _ => ⟨v, rfl⟩
  | (x1, x2) :: xs, (w1, w2), v, m, hs, h1, h2 => by
    obtain ⟨q1, q2, q3, q4, n, q5, q6, q7⟩ := hs
    simp only at q1 q2 q6 h1 h2
    have b1 : w2 * x2 ≤ m * n := Int.mul_le_mul h2 q6 (by omega) (by omega)
    have b2 := small2_lt q7
    have b3 := Int.mul_pos h1 q1
    have p := plus_ok (rp := rp) (k := k) (h := h) (x1 := w1) (x2 := w2) (y1 := x1) (y2 := x2) ⟨h1, by omega⟩ ⟨q1, by omega⟩ (by omega)
    have rp1 : 0 < (fplus (w1, w2) (x1, x2)).2 := red_pos b3
    have rp2 : (fplus (w1, w2) (x1, x2)).2 ≤ w2 * x2 := red_le b3
    obtain ⟨v', ih⟩ := total_loop (k := k) (mk := mk) (r := r) (h := h) (xs := xs) (w := fplus (w1, w2) (x1, x2)) (v := .val (frD (x1, x2))) (m := m * n) q7 rp1 (by omega)
    refine ⟨v', ?_⟩
    rw [List.map_cons, forL_cons]
    walk_at "ev"
    rfl
theorem total_ok {k : Nat} {xs : List Fr} {h : Mem} (hs : small2 1 xs) : (run (exQ rp) (k + 3)).1 13 [.lst (xs.map frD)] h = .ok (frD (ftotal (0, 1) xs)) false h := by
  rw [run_fn rfl rfl]
  show fin (evalSs (exQ rp) _ _ none B13 ⟨[.val _, .un, .un], h⟩) = _
  unfold B13
  obtain ⟨v', e⟩ := total_loop (rp := rp) (k := k) (mk := (run (exQ rp) (k + 2)).2) (r := .lst (xs.map frD)) (h := h) (w := (0, 1)) (v := .un) hs (by decide) (by decide)
  have e' : forL (.nm 2) (evalSs (exQ rp) (run (exQ rp) (k + 2)).1 (run (exQ rp) (k + 2)).2 none [.asg (.nm 1) (.call 5 [(.nm 1), (.nm 2)])]) (xs.map frD) ⟨[.val (.lst (xs.map frD)), .val (.tup [.int 0, .int 1]), .un], h⟩ = .next ⟨[.val (.lst (xs.map frD)), .val (frD (ftotal (0, 1) xs)), v'], h⟩ := e
  walk_at "ev"
theorem med_loop {k : Nat} {mk : Nat → List D → Mem → CRes} {r : D} {h : Mem} {m : Nat} : ∀ {xs row : List Fr} {v2 v5 : SV}, (∀ x ∈ xs, okF x) → (∀ x ∈ row, okF x) → xs.length + row.length ≤ 1000 → ∃ v2' v5',
    forL (.nm 2) (evalSs (exQ rp) (run (exQ rp) (k + 1)).1 mk none [
    .asg (.nm 5) (.blt .len [(.lc false (.nm 6) (.nm 6) (.of (.nm 1)) (some (.not (.call 9 [(.nm 2), (.nm 6)]))))]),
    .ins (.nm 1) (.nm 5) (.nm 2)]) (xs.map frD) ⟨[.val r, .own (.lst (row.map frD)), v2, .un, .un, v5, .un], h⟩ = .next ⟨[.val r, .own (.lst ((medRow row xs).map frD)), v2', .un, .un, v5', .un], h⟩
  | [], row, v2, v5, _, _, _ => ⟨v2, v5, rfl⟩
  | (x1, x2) :: xs, row, v2, v5, hx, hr, hl => by
    have hx0 := hx (x1, x2) List.mem_cons_self
    have hlen : (row.filter fun other => !decide (flt (x1, x2) other)).length ≤ row.length := List.length_filter_le ..
    have hi : ∀ y ∈ insF row (x1, x2), okF y := fun y hy => by
      rcases List.mem_cons.mp ((insF_perm row (x1, x2)).mem_iff.mp hy) with e | e
      · rw [e]; exact hx0
      · exact hr y e
    have hl2 : (insF row (x1, x2)).length = row.length + 1 := (insF_perm row (x1, x2)).length_eq
    rw [List.length_cons] at hl
    obtain ⟨v2', v5', ih⟩ := med_loop (k := k) (mk := mk) (r := r) (h := h) (m := m) (xs := xs) (row := insF row (x1, x2)) (v2 := .val (frD (x1, x2))) (v5 := .val (.int (row.filter fun other => !decide (flt (x1, x2) other)).length)) (fun y hy => hx y (List.mem_cons_of_mem _ hy)) hi (by omega)
    refine ⟨v2', v5', ?_⟩
    rw [List.map_cons, forL_cons]
    walk_at "ev"
    rewrite [lc_filter (fun other => !decide (flt (x1, x2) other)) frD frD]
    · have hl3 : ((row.filter fun other => !decide (flt (x1, x2) other)).map frD).length ≤ lim := by rw [List.length_map]; show _ ≤ 16777216; omega
      have hin : insD (.lst (row.map frD)) (.int (row.filter fun other => !decide (flt (x1, x2) other)).length) (frD (x1, x2)) = some (.lst ((insF row (x1, x2)).map frD)) := by
        rw [insD_lst ⟨by omega, by rw [List.length_map]; omega, by rw [List.length_map]; show _ < 16777216; omega⟩]
        unfold insF
        simp only [List.map_append, List.map_take, List.map_cons, List.map_drop, Int.toNat_natCast]
      walk_at "ev"
      rw [List.length_map, hin]
      walk_at "ev"
      rfl
    · intro y hy
      have hy0 := hr y hy
      obtain ⟨y1, y2⟩ := y
      have l := less_ok (rp := rp) (k := k) (h := h) (x1 := x1) (x2 := x2) (y1 := y1) (y2 := y2) hx0 hy0
      by_cases z : flt (x1, x2) (y1, y2)
      · rw [decide_eq_true z] at l
        simp only [decide_eq_true z]
        refine ⟨_, by walk_at "ev"; rfl, rfl⟩
      · rw [decide_eq_false z] at l
        simp only [decide_eq_false z]
        refine ⟨_, by walk_at "ev"; rfl, rfl⟩
def fmid (row : List Fr) : Fr := ftimes (fplus (row.getD ((row.length - 1) / 2) (0, 1)) (row.getD (row.length / 2) (0, 1))) (1, 2)
theorem median_ok {k : Nat} {x : Fr} {xs : List Fr} {h : Mem} (hx : ∀ y ∈ x :: xs, 0 < y.2 ∧ y.2 ≤ 60) (hl : xs.length < 900) : (run (exQ rp) (k + 3)).1 14 [.lst ((x :: xs).map frD)] h = .ok (frD (fmid (medRow [x] xs))) false h := by
  rw [run_fn rfl rfl]
  show fin (evalSs (exQ rp) _ _ none B14 ⟨[.val _, .un, .un, .un, .un, .un, .un], h⟩) = _
  unfold B14
  have hp : ∀ z ∈ medRow [x] xs, 0 < z.2 ∧ z.2 ≤ 60 := by
    obtain ⟨_, _, hp⟩ := medRow_ok (xs := xs) (row := [x]) (List.pairwise_singleton ..) (fun y hy => (hx y (by simp only [List.mem_singleton] at hy; rw [hy]; exact List.mem_cons_self)).1) (fun y hy => (hx y (List.mem_cons_of_mem _ hy)).1)
    intro z hz
    have := hp.mem_iff.mp hz
    rcases List.mem_append.mp this with e | e
    · exact hx z (List.mem_cons_of_mem _ e)
    · exact hx z (by simp only [List.mem_singleton] at e; rw [e]; exact List.mem_cons_self)
  have hln : (medRow [x] xs).length = xs.length + 1 := by
    obtain ⟨_, _, hp⟩ := medRow_ok (xs := xs) (row := [x]) (List.pairwise_singleton ..) (fun y hy => (hx y (by simp only [List.mem_singleton] at hy; rw [hy]; exact List.mem_cons_self)).1) (fun y hy => (hx y (List.mem_cons_of_mem _ hy)).1)
    rw [hp.length_eq, List.length_append, List.length_singleton]
  obtain ⟨v2, v5, e⟩ := med_loop (rp := rp) (k := k + 1) (mk := (run (exQ rp) (k + 2)).2) (r := .lst ((x :: xs).map frD)) (h := h) (m := 0) (xs := xs) (row := [x]) (v2 := .un) (v5 := .un) (fun y hy => by have := hx y (List.mem_cons_of_mem _ hy); exact ⟨this.1, by omega⟩)
    (fun y hy => by have := hx y (by simp only [List.mem_singleton] at hy; rw [hy]; exact List.mem_cons_self); exact ⟨this.1, by omega⟩) (by simp only [List.length_singleton]; omega)
  simp only [List.map_cons, List.map_nil] at e ⊢
  have hc : cutL (frD x :: xs.map frD) (some 1) none = xs.map frD := by
    unfold cutL bnd
    simp only [List.length_cons, List.length_map]
    rw [if_neg (by omega), show min (1 : Int).toNat (xs.length + 1) = 1 from by show min 1 _ = 1; omega]
    rw [List.drop_succ_cons, List.drop_zero, List.take_of_length_le (by rw [List.length_map]; omega)]
  have hs : slcV (.lst (frD x :: xs.map frD)) (some 1) none = some ⟨.lst (xs.map frD), true⟩ := by unfold slcV; dsimp only; rw [hc]
  have hi : intO (.int 1) = some (some 1) := rfl
  generalize medRow [x] xs = row at *
  have g1 : subV (.lst (row.map frD)) (.int ((row.length - 1 : Int) / 2)) = some (frD (row.getD ((row.length - 1) / 2) (0, 1))) := by
    refine sub_LI (k := (row.length - 1) / 2) (by omega) ?_
    rw [List.getElem?_map, List.getD_eq_getElem?_getD, List.getElem?_eq_getElem (by omega)]; rfl
  have g2 : subV (.lst (row.map frD)) (.int ((row.length : Int) / 2)) = some (frD (row.getD (row.length / 2) (0, 1))) := by
    refine sub_LI (k := row.length / 2) (by omega) ?_
    rw [List.getElem?_map, List.getD_eq_getElem?_getD, List.getElem?_eq_getElem (by omega)]; rfl
  have m1 : ∀ i, i < row.length → row.getD i (0, 1) ∈ row := fun i hi => by
    rw [List.getD_eq_getElem?_getD, List.getElem?_eq_getElem hi]; exact List.getElem_mem hi
  have p1 := hp _ (m1 ((row.length - 1) / 2) (by omega))
  have p2 := hp _ (m1 (row.length / 2) (by omega))
  have hm : (frD x :: xs.map frD).length = xs.length + 1 := by simp only [List.length_cons, List.length_map]
  unfold fmid
  generalize row.getD ((row.length - 1) / 2) (0, 1) = a at *
  generalize row.getD (row.length / 2) (0, 1) = b at *
  obtain ⟨a1, a2⟩ := a
  obtain ⟨b1, b2⟩ := b
  simp only at p1 p2
  have c1 : a2 * b2 ≤ 60 * 60 := Int.mul_le_mul p1.2 p2.2 (by omega) (by omega)
  have c2 := Int.mul_pos p1.1 p2.1
  have q := plus_ok (rp := rp) (k := k) (h := h) (x1 := a1) (x2 := a2) (y1 := b1) (y2 := b2) ⟨p1.1, by omega⟩ ⟨p2.1, by omega⟩ (by omega)
  have rp1 : 0 < (fplus (a1, a2) (b1, b2)).2 := red_pos c2
  have rp2 : (fplus (a1, a2) (b1, b2)).2 ≤ a2 * b2 := red_le c2
  generalize fplus (a1, a2) (b1, b2) = c at *
  obtain ⟨c3, c4⟩ := c
  simp only at rp1 rp2
  have t : (run (exQ rp) (k + 2)).1 7 [frD (c3, c4), .tup [.int 1, .int 2]] h = .ok (frD (ftimes (c3, c4) (1, 2))) false h := times_ok (rp := rp) (k := k) (h := h) (x1 := c3) (x2 := c4) (y1 := 1) (y2 := 2) ⟨rp1, by omega⟩ ⟨by omega, by omega⟩ (by omega) (by omega)
  have hlm : (List.map frD row).length = row.length := List.length_map ..
  rw [hln] at g1 g2
  simp only [Int.natCast_add, Int.cast_ofNat_Int] at g1 g2
  walk_at "ev"
end
end Ev.L
end

section
namespace Ev.L
local macro_rules | `(tactic| walk_at "ev") => `(tactic| simp only [sq_nil, ↓sq_cons, ↓seq_next, ↓seq_ret, ↓seq_exc, ↓bind_ok, ↓bind_exc, ↓out_ok, ↓out_exc, look_0, look_s, put_0, put_s, svOf_f, svOf_t, nmV_val, nmV_ownF, nmV_ownT, nmV_ro,
  deref_non, deref_bl, deref_int, deref_str, deref_tup, deref_lst, deref_dic, deref_obj, deref_fn, deref_scr, deref_0, deref_s, truth_bl, ofO_some, ofC_ok, ofC_exc, asVal_ok, asVal_exc, newV_f, newV_t,
  e_nm, e_cst, e_glob, e_bin, e_neg, e_not, e_and, e_or, e_ife, e_cmp, e_cmp2, e_tup, e_lst, e_dic, e_call, e_meth, e_make, e_blt, e_fldN, e_fldF, e_fldS, e_fldC, e_fldM, e_sub, e_slc, e_rev, e_lrg1, e_lrg2, e_isiN, e_isiS, es_nil, es_cons, bs_nil, bs_cons, ps_nil, ps_cons, o_none, o_some, c_none, c_some, i_of, i_enum, i_range1, i_range2,
  nx_some, asgT_nm, asgT_tup, asgTs_nil, asgTs_cons, putP_nil, putP_cons, killS_nil, killS_cons, chR_some, chN_some, chO_own, chg_ref, chg_lst, chg_dic, chg_obj, retN_own, retN_val, ↓tr_next, ↓tr_ret, ↓tr_exc, augN1_val, augN2_add, augN2_sub, onL_lst,
  s_asgN, s_asgT, s_asgP, s_setF, s_setI, s_augN, s_app, s_ext, s_ins, s_upd, s_expr, s_iff, s_ret0, s_retN, s_raise, s_try, s_pass, s_kill, r_cst, r_glob, r_bin, r_neg, r_not, r_and, r_or, r_ife, r_cmp, r_cmp2, r_tup, r_lst, r_dic, r_call, r_callv, r_meth, r_make, r_blt, r_fld, r_sub, r_slc, r_rev, r_lc, r_isi, r_lrg1, r_lrg2, r_fstr,
  b_add, b_sub, b_mulL, b_mulR, b_fdiv, b_mod, b_pow18, b_addS, b_addT, b_addL, c_eqI, c_neI, c_ltI, c_gtI, c_leI, c_geI, c_eqB, c_neB, c_isn, c_isnt, non_non, non_bl, non_int, non_str, non_tup, non_lst, non_dic, non_obj, negV_int,
  isi_non, isi_bl, isi_int, isi_str, isi_tup, isi_lst, isi_dic, isi_obj, isi0_val, isi0_own, isi0_ro, fld0_val, fld0_own, fld0_ro, fld0_exc, fldV_obj, fget_cons, fput_cons, fput_nil, setFD_obj, isKd, List.any_cons, List.any_nil, Bool.or_false, Bool.or_true, Bool.true_or, Bool.false_or, Bool.not_true, Bool.not_false, Bool.and_true, Bool.and_false, Bool.true_and, Bool.false_and, Bool.and_self, Bool.or_self,
  sub_T0, sub_T1, sub_T2, sub_T3, sub_T4, sub_L0, sub_L1, sub_L2, sub_L3, sub_L4, lenT, lenL, lenS, lenDi, lenSc, tupL, tupT, lstL, lstT, absI, intI, intB, min2I, max2I, raiseO_0, raiseO_1, raiseO_2, lcR_f, seqL, seqT, seqS, appD_lst, extD_lst, insD_lst, putI_L, lcT_eq, lcN_some, wipeS_nil, wipeS_cons, slotsT_nm, slotsT_tup, slotsTs_nil, slotsTs_cons, hide_un, hide_val, hide_own, hide_ro, hide_exc, c_eqS, c_neS, c_eqNN, c_eqLL, c_neLL, s_wh, s_for, e_lc, fin_next, fin_ret, fin_exc, forL_nil, hs_nil, hs_yesN, hs_yesS, hs_no, endX_nextS, endX_nextN, endX_ret, drop_un, drop_val, drop_own, drop_ro, drop_exc,
  List.map_cons, List.map_nil, List.length_cons, List.length_nil, Option.map_some, Option.bind_some, List.set_cons_zero, List.set_cons_succ, List.getElem?_cons_zero, List.getElem?_cons_succ, List.nil_append, List.cons_append,
  Nat.reduceAdd, Nat.reduceMul, Nat.reduceSub, Int.reduceNeg, Int.reduceAdd, Int.reduceSub, Int.reduceMul, Int.reduceDiv, Int.reduceMod, Int.reduceToNat, Int.reduceLT, Int.reduceLE, Int.reduceEq, Int.reduceNe, Nat.reduceLT, Nat.reduceLeDiff, Nat.reduceEqDiff, decide_true, decide_false, decide_eq_true_eq, decide_not, Bool.not_eq_true', decide_eq_false_iff_not, bne_self_eq_false, beq_self_eq_true, ↓reduceIte, if_true, if_false, Bool.false_eq_true, not_true_eq_false, not_false_eq_true, reduceCtorEq, Int.cast_ofNat_Int, Int.natCast_add, and_self, and_true, true_and, and_false, false_and, or_true, true_or, or_false, false_or, Int.ofNat_zero, Int.zero_add, Nat.zero_add, Nat.zero_le, *])
local macro_rules | `(tactic| walk_at "evo") => `(tactic| simp (maxSteps := 1000000) (disch := first | omega | assumption) only [sq_nil, ↓sq_cons, ↓seq_next, ↓seq_ret, ↓seq_exc, ↓bind_ok, ↓bind_exc, ↓out_ok, ↓out_exc, look_0, look_s, put_0, put_s, svOf_f, svOf_t, nmV_val, nmV_ownF, nmV_ownT, nmV_ro,
  deref_non, deref_bl, deref_int, deref_str, deref_tup, deref_lst, deref_dic, deref_obj, deref_fn, deref_scr, deref_0, deref_s, truth_bl, ofO_some, ofC_ok, ofC_exc, asVal_ok, asVal_exc, newV_f, newV_t,
  e_nm, e_cst, e_glob, e_bin, e_neg, e_not, e_and, e_or, e_ife, e_cmp, e_cmp2, e_tup, e_lst, e_dic, e_call, e_meth, e_make, e_blt, e_fldN, e_fldF, e_fldS, e_fldC, e_fldM, e_sub, e_slc, e_rev, e_lrg1, e_lrg2, e_isiN, e_isiS, es_nil, es_cons, bs_nil, bs_cons, ps_nil, ps_cons, o_none, o_some, c_none, c_some, i_of, i_enum, i_range1, i_range2,
  nx_some, asgT_nm, asgT_tup, asgTs_nil, asgTs_cons, putP_nil, putP_cons, killS_nil, killS_cons, chR_some, chN_some, chO_own, chg_ref, chg_lst, chg_dic, chg_obj, retN_own, retN_val, ↓tr_next, ↓tr_ret, ↓tr_exc, augN1_val, augN2_add, augN2_sub, onL_lst,
  s_asgN, s_asgT, s_asgP, s_setF, s_setI, s_augN, s_app, s_ext, s_ins, s_upd, s_expr, s_iff, s_ret0, s_retN, s_raise, s_try, s_pass, s_kill, r_cst, r_glob, r_bin, r_neg, r_not, r_and, r_or, r_ife, r_cmp, r_cmp2, r_tup, r_lst, r_dic, r_call, r_callv, r_meth, r_make, r_blt, r_fld, r_sub, r_slc, r_rev, r_lc, r_isi, r_lrg1, r_lrg2, r_fstr,
  b_add, b_sub, b_mulL, b_mulR, b_fdiv, b_mod, b_pow18, b_addS, b_addT, b_addL, c_eqI, c_neI, c_ltI, c_gtI, c_leI, c_geI, c_eqB, c_neB, c_isn, c_isnt, non_non, non_bl, non_int, non_str, non_tup, non_lst, non_dic, non_obj, negV_int,
  isi_non, isi_bl, isi_int, isi_str, isi_tup, isi_lst, isi_dic, isi_obj, isi0_val, isi0_own, isi0_ro, fld0_val, fld0_own, fld0_ro, fld0_exc, fldV_obj, fget_cons, fput_cons, fput_nil, setFD_obj, isKd, List.any_cons, List.any_nil, Bool.or_false, Bool.or_true, Bool.true_or, Bool.false_or, Bool.not_true, Bool.not_false, Bool.and_true, Bool.and_false, Bool.true_and, Bool.false_and, Bool.and_self, Bool.or_self,
  sub_T0, sub_T1, sub_T2, sub_T3, sub_T4, sub_L0, sub_L1, sub_L2, sub_L3, sub_L4, lenT, lenL, lenS, lenDi, lenSc, tupL, tupT, lstL, lstT, absI, intI, intB, min2I, max2I, raiseO_0, raiseO_1, raiseO_2, lcR_f, seqL, seqT, seqS, appD_lst, extD_lst, insD_lst, putI_L, lcT_eq, lcN_some, wipeS_nil, wipeS_cons, slotsT_nm, slotsT_tup, slotsTs_nil, slotsTs_cons, hide_un, hide_val, hide_own, hide_ro, hide_exc, c_eqS, c_neS, c_eqNN, c_eqLL, c_neLL, s_wh, s_for, e_lc, fin_next, fin_ret, fin_exc, forL_nil, hs_nil, hs_yesN, hs_yesS, hs_no, endX_nextS, endX_nextN, endX_ret, drop_un, drop_val, drop_own, drop_ro, drop_exc,
  List.map_cons, List.map_nil, List.length_cons, List.length_nil, Option.map_some, Option.bind_some, List.set_cons_zero, List.set_cons_succ, List.getElem?_cons_zero, List.getElem?_cons_succ, List.nil_append, List.cons_append,
  Nat.reduceAdd, Nat.reduceMul, Nat.reduceSub, Int.reduceNeg, Int.reduceAdd, Int.reduceSub, Int.reduceMul, Int.reduceDiv, Int.reduceMod, Int.reduceToNat, Int.reduceLT, Int.reduceLE, Int.reduceEq, Int.reduceNe, Nat.reduceLT, Nat.reduceLeDiff, Nat.reduceEqDiff, decide_true, decide_false, decide_eq_true_eq, decide_not, Bool.not_eq_true', decide_eq_false_iff_not, bne_self_eq_false, beq_self_eq_true, ↓reduceIte, if_true, if_false, Bool.false_eq_true, not_true_eq_false, not_false_eq_true, reduceCtorEq, Int.cast_ofNat_Int, Int.natCast_add, and_self, and_true, true_and, and_false, false_and, or_true, true_or, or_false, false_or, Int.ofNat_zero, Int.zero_add, Nat.zero_add, Nat.zero_le, *])

/-- what is drawn -/
structure In10 where
  a : Int
  b : Int
  c : Int
  d : Int
  ha : -60 ≤ a ∧ a ≤ 60
  hb : 0 < b ∧ b ≤ 60
  hc : -60 ≤ c ∧ c ≤ 60
  hd : 0 < d ∧ d ≤ 60
theorem filt_max {lo hi : Int} {p : Int → Bool} {m : Int} (h1 : lo ≤ m ∧ m < hi) (h2 : p m = true) (h3 : ∀ k, lo ≤ k → k < hi → p k = true → k ≤ m) : ∀ x ∈ (intR lo hi).filter p, x ≤ m := fun x hx => by
  rw [List.mem_filter, mem_ints] at hx
  exact h3 x hx.1.1 hx.1.2 hx.2
theorem filt_min {lo hi : Int} {p : Int → Bool} {m : Int} (h1 : lo ≤ m ∧ m < hi) (h2 : p m = true) (h3 : ∀ k, lo ≤ k → k < hi → p k = true → m ≤ k) : ∀ x ∈ (intR lo hi).filter p, m ≤ x := fun x hx => by
  rw [List.mem_filter, mem_ints] at hx
  exact h3 x hx.1.1 hx.1.2 hx.2
theorem filt_mem {lo hi : Int} {p : Int → Bool} {m : Int} (h1 : lo ≤ m ∧ m < hi) (h2 : p m = true) : m ∈ (intR lo hi).filter p := by
  rw [List.mem_filter, mem_ints]; exact ⟨h1, h2⟩
theorem fine_fr {x : Fr} {n : Nat} : D.fine (n + 1) (frD x) := by
  refine ⟨by show 2 ≤ 16777216; omega, fun y hy => ?_⟩
  rcases List.mem_cons.mp hy with e | e
  · subst e; cases n <;> trivial
  · rw [List.mem_singleton] at e; subst e; cases n <;> trivial
theorem fine_int {i : Int} {n : Nat} : D.fine n (.int i) := by cases n <;> trivial
theorem fine_tup {xs : List D} {n : Nat} (h : xs.length ≤ 1000) (h2 : ∀ x ∈ xs, D.fine n x) : D.fine (n + 1) (.tup xs) := ⟨by show _ ≤ 16777216; omega, h2⟩
theorem truth_ok {rp : D → Option (List Nat)} {k : Nat} {b : Bool} {h : Mem} : (run (exQ rp) (k + 1)).1 17 [.bl b, .bl b] h = .ok (.bl true) false h := by
  rw [run_fn rfl rfl]
  show fin (evalSs (exQ rp) _ _ none B17 ⟨[.val _, .val _], h⟩) = _
  unfold B17
  walk_at "ev"
theorem red_abs {a b : Int} (hb : 0 < b) (ha : -60 ≤ a ∧ a ≤ 60) : -60 ≤ (red a b).1 ∧ (red a b).1 ≤ 60 := by
  have h := red_1 a b
  have g := gcd_pos (a := a) hb
  generalize (red a b).1 = r at *
  generalize (Int.gcd a b : Int) = k at *
  constructor
  · by_cases z : r < 0
    · have := Int.mul_le_mul_of_nonneg_right (a := 1) (b := k) (c := -r) (by omega) (by omega)
      have e : k * -r = -(k * r) := Int.mul_neg ..
      omega
    · omega
  · by_cases z : 0 < r
    · have := Int.mul_le_mul_of_nonneg_right (a := 1) (b := k) (c := r) (by omega) (by omega)
      omega
    · omega
theorem mul_ge {x b : Int} (hx : 0 ≤ x) (hb : 0 < b) : x ≤ x * b := by
  have := Int.mul_le_mul_of_nonneg_left (a := 1) (b := b) (c := x) (by omega) hx
  omega
theorem le_div {k a b : Int} (hb : 0 < b) : k * b ≤ a ↔ k ≤ a / b := (Int.le_ediv_iff_mul_le hb).symm
theorem ge_div {k a b : Int} (hb : 0 < b) : a ≤ k * b ↔ -(-a / b) ≤ k := by
  have := le_div (k := -k) (a := -a) hb
  rw [Int.neg_mul] at this
  omega
theorem near_div {k a b : Int} (hb : 0 < b) : (2 * k - 1) * b ≤ 2 * a ↔ k ≤ (2 * a + b) / (2 * b) := by
  rw [← le_div (by omega)]
  have e1 : (2 * k - 1) * b = 2 * (k * b) - b := by grind
  have e2 : k * (2 * b) = 2 * (k * b) := by grind
  omega
abbrev st10 (xs : List Int) (a b c d : Int) (x y : Fr) (r : List SV) (w : Row) : Sta := ⟨.val (.scr xs) :: .val (.ref 0) :: .val (.int a) :: .val (.int b) :: .val (.int c) :: .val (.int d) :: .val (frD x) :: .val (frD y) :: r, [rowD w]⟩
section
variable {rp : D → Option (List Nat)} {mk : Nat → List D → Mem → CRes} {xs : List Int} {a b c d : Int} {w : Row}
theorem stage1 : ∃ a b c d w, ((-60 ≤ a ∧ a ≤ 60) ∧ (0 < b ∧ b ≤ 60) ∧ (-60 ≤ c ∧ c ≤ 60) ∧ (0 < d ∧ d ≤ 60)) ∧
    evalSs (exQ rp) (run (exQ rp) 9).1 mk none (B19.take 3) ⟨[.val (.scr xs), .un, .un, .un, .un, .un, .un, .un, .un, .un, .un, .un, .un, .un, .un, .un, .un, .un, .un], []⟩ =
      .next (st10 xs a b c d (red a b) (red c d) [.un, .un, .un, .un, .un, .un, .un, .un, .un, .un, .un] w) := by
  obtain ⟨A, w1, hA1, hA2, t1⟩ := draw_ok (P := exQ rp) (f := 15) rfl (k := 8) ⟨xs, 0, 61, 0⟩ (many := 121) (h := []) (by decide)
  obtain ⟨B, w2, hB1, hB2, t2⟩ := draw_ok (P := exQ rp) (f := 15) rfl (k := 8) w1 (many := 60) (h := []) (by decide)
  obtain ⟨C, w3, hC1, hC2, t3⟩ := draw_ok (P := exQ rp) (f := 15) rfl (k := 8) w2 (many := 121) (h := []) (by decide)
  obtain ⟨E, w4, hE1, hE2, t4⟩ := draw_ok (P := exQ rp) (f := 15) rfl (k := 8) w3 (many := 60) (h := []) (by decide)
  replace t1 : (run (exQ rp) 9).1 15 [.ref 0, .int 121] [.lst [.scr xs, .int 0, .int 61, .int 0]] = .ok (.int A) false [rowD w1] := t1
  have r1 := reduced_ok (rp := rp) (k := 8) (a := A - 60) (b := 1 + B) (h := [rowD w4]) (by omega)
  have r2 := reduced_ok (rp := rp) (k := 8) (a := C - 60) (b := 1 + E) (h := [rowD w4]) (by omega)
  simp only [Nat.reduceAdd] at r1 r2 t1 t2 t3 t4
  refine ⟨A - 60, 1 + B, C - 60, 1 + E, w4, by omega, ?_⟩
  simp only [B19, List.take_succ_cons, List.take_zero]
  walk_at "ev"
variable (ha : -60 ≤ a ∧ a ≤ 60) (hb : 0 < b ∧ b ≤ 60) (hc : -60 ≤ c ∧ c ≤ 60) (hd : 0 < d ∧ d ≤ 60)
include ha hb hc hd
theorem stage2 {r : List SV} : evalSs (exQ rp) (run (exQ rp) 9).1 mk none ((B19.drop 3).take 3) (st10 xs a b c d (red a b) (red c d) r w) = .next (st10 xs a b c d (red a b) (red c d) r w) := by
  simp only [B19, List.take_succ_cons, List.take_zero, List.drop_succ_cons, List.drop_zero, st10]
  have b0 : 0 < b := by omega
  have d0 : 0 < d := by omega
  have l1 := low_ok (rp := rp) (k := 8) (a := a) (b := b) (h := [rowD w]) (by omega)
  have l2 := low_ok (rp := rp) (k := 8) (a := c) (b := d) (h := [rowD w]) (by omega)
  have p1 := red_pos (a := a) b0
  have q1 := red_le (a := a) b0
  have p2 := red_pos (a := c) d0
  have q2 := red_le (a := c) d0
  have m1 : b * d ≤ 60 * 60 := Int.mul_le_mul (by omega) (by omega) (by omega) (by omega)
  have m2 := Int.mul_pos b0 d0
  have m3 : (red a b).2 * (red c d).2 ≤ 60 * 60 := Int.mul_le_mul (by omega) (by omega) (by omega) (by omega)
  have rr1 := red_red (a := a) b0
  have e1 := red_plus (a := a) (c := c) b0 d0
  have e2 := red_minus (a := a) (c := c) b0 d0
  have e3 := red_times (a := a) (c := c) b0 d0
  have e4 := red_over (a := a) (c := c) b0 d0
  have e5 := red_less (a := a) (c := c) b0 d0
  have z0 : ¬ (red (a * 2) (b * 2) = (a * 2, b * 2)) := fun e => by
    have : red (a * 2) (b * 2) = red a b := by rw [Int.mul_comm a 2, Int.mul_comm b 2, red_scale _ _ (by omega)]
    rw [this] at e
    have : (red a b).2 = b * 2 := congrArg Prod.snd e
    omega
  have r1b := red_abs (a := a) b0 ha
  have r2b := red_abs (a := c) d0 hc
  have f1 := isf_tup (rp := rp) (k := 7) (a := (red a b).1) (b := (red a b).2) (h := [rowD w]) (by omega)
  have f2 := isf_tup (rp := rp) (k := 7) (a := a * 2) (b := b * 2) (h := [rowD w]) (by omega)
  rw [decide_eq_false z0] at f2
  rw [decide_eq_true rr1] at f1
  have al1 := alike_same (P := exQ rp) (f := 16) rfl 2 6 (.tup [frD (red a b), frD (red c d)]) [rowD w] (fine_tup (by simp) fun x hx => by simp only [List.mem_cons, List.not_mem_nil, or_false] at hx; rcases hx with e | e <;> subst e <;> exact fine_fr)
  have al2 := fun x y z => alike_same (P := exQ rp) (f := 16) rfl 2 6 (.tup [frD x, frD y, frD z]) [rowD w] (fine_tup (by simp) fun x hx => by simp only [List.mem_cons, List.not_mem_nil, or_false] at hx; rcases hx with e | e | e <;> subst e <;> exact fine_fr)
  have al3 := fun x => alike_same (P := exQ rp) (f := 16) rfl 2 6 (frD x) [rowD w] fine_fr
  have u1 := plus_ok (rp := rp) (k := 7) (h := [rowD w]) (x1 := (red a b).1) (x2 := (red a b).2) (y1 := (red c d).1) (y2 := (red c d).2) ⟨p1, by omega⟩ ⟨p2, by omega⟩ (by omega)
  have u2 := minus_ok (rp := rp) (k := 7) (h := [rowD w]) (x1 := (red a b).1) (x2 := (red a b).2) (y1 := (red c d).1) (y2 := (red c d).2) ⟨p1, by omega⟩ ⟨p2, by omega⟩ (by omega)
  have u3 := times_ok (rp := rp) (k := 7) (h := [rowD w]) (x1 := (red a b).1) (x2 := (red a b).2) (y1 := (red c d).1) (y2 := (red c d).2) ⟨p1, by omega⟩ ⟨p2, by omega⟩ (by omega) (by omega)
  have v1 := low_ok (rp := rp) (k := 8) (a := a * d + c * b) (b := b * d) (h := [rowD w]) (by omega)
  have v2 := low_ok (rp := rp) (k := 8) (a := a * d - c * b) (b := b * d) (h := [rowD w]) (by omega)
  have v3 := low_ok (rp := rp) (k := 8) (a := a * c) (b := b * d) (h := [rowD w]) (by omega)
  have u5 := less_ok (rp := rp) (k := 8) (h := [rowD w]) (x1 := (red a b).1) (x2 := (red a b).2) (y1 := (red c d).1) (y2 := (red c d).2) ⟨p1, by omega⟩ ⟨p2, by omega⟩
  have tr := fun x => truth_ok (rp := rp) (k := 8) (b := x) (h := [rowD w])
  replace f1 : (run (exQ rp) 9).1 3 [frD (red a b)] [rowD w] = .ok (.bl true) false [rowD w] := f1
  simp only [flt, fplus, fminus, ftimes, e1, e2, e3, e5, Nat.reduceAdd, Prod.eta] at u1 u2 u3 u5 v1 v2 v3 f2 al1 al2 al3 tr l1 l2
  by_cases hc0 : 0 < c
  · have p3 := Int.mul_pos b0 hc0
    have p4 : b * c ≤ 60 * 60 := Int.mul_le_mul (by omega) (by omega) (by omega) (by omega)
    have o0 : 0 < (red c d).1 := by
      have h := red_1 c d
      have := gcd_pos (a := c) d0
      exact Int.pos_of_mul_pos_right (a := (Int.gcd c d : Int)) (by rw [← h]; exact hc0) (by omega)
    have o1 : (red a b).2 * (red c d).1 ≤ 60 * 60 := Int.mul_le_mul (by omega) (by omega) (by omega) (by omega)
    have u4 := over_ok (rp := rp) (k := 7) (h := [rowD w]) (x1 := (red a b).1) (x2 := (red a b).2) (y1 := (red c d).1) (y2 := (red c d).2) ⟨p1, by omega⟩ ⟨p2, by omega⟩ (by omega) o0
    have v4 := low_ok (rp := rp) (k := 8) (a := a * d) (b := b * c) (h := [rowD w]) (by omega)
    simp only [fover, e4, Nat.reduceAdd, Prod.eta] at u4 v4
    walk_at "evo"
  · walk_at "evo"
theorem stage3 : ∃ v9 v10 v11 v, (dropX v9 = v9 ∧ dropX v10 = v10 ∧ dropX v11 = v11 ∧ dropX v = v) ∧ evalSs (exQ rp) (run (exQ rp) 9).1 mk none ((B19.drop 6).take 4) (st10 xs a b c d (red a b) (red c d) [.un, .un, .un, .un, .un, .un, .un, .un, .un, .un, .un] w) = .next (st10 xs a b c d (red a b) (red c d) [v, v9, v10, v11, .un, .un, .un, .un, .un, .un, .un] w) := by
  simp only [B19, List.take_succ_cons, List.take_zero, List.drop_succ_cons, List.drop_zero, st10]
  have b0 : 0 < b := by omega
  have rg : rngI (.int (-61)) (.int 62) = some ⟨.lst ((intR (-61) 62).map D.int), true⟩ := by rw [rngI_ok (by omega), rangeD_eq]
  have hl : ∀ p, (((intR (-61) 62).filter p).map D.int).length ≤ lim := fun p => by
    rw [List.length_map]
    have := List.length_filter_le p (intR (-61) 62)
    rw [ints_len] at this
    exact Nat.le_trans this (by decide)
  have hl1 := hl fun k => decide (k * b ≤ a)
  have hl2 := hl fun k => decide (a ≤ k * b)
  have hl3 := hl fun k => decide ((2 * k - 1) * b ≤ 2 * a)
  have q1 : -60 ≤ a / b := by rw [← le_div b0]; omega
  have q2 : a / b ≤ 60 := by
    have h := (le_div (k := a / b) (a := a) b0).mpr (Int.le_refl _)
    by_cases z : a / b ≤ 60
    · exact z
    · have := mul_ge (x := a / b) (b := b) (by omega) (by omega)
      omega
  have q3 : -60 ≤ -(-a / b) := by
    have h := (ge_div (k := -(-a / b)) (a := a) b0).mpr (Int.le_refl _)
    by_cases z : -60 ≤ -(-a / b)
    · exact z
    · have := mul_ge (x := -(-(-a / b))) (b := b) (by omega) (by omega)
      rw [Int.neg_mul] at this
      omega
  have q4 : -(-a / b) ≤ 60 := by rw [← ge_div b0]; omega
  have q5 : -60 ≤ (2 * a + b) / (2 * b) := by rw [← near_div b0]; omega
  have q6 : (2 * a + b) / (2 * b) ≤ 61 := by
    have h := (near_div (k := (2 * a + b) / (2 * b)) (a := a) b0).mpr (Int.le_refl _)
    by_cases z : (2 * a + b) / (2 * b) ≤ 61
    · exact z
    · have := mul_ge (x := 2 * ((2 * a + b) / (2 * b)) - 1) (b := b) (by omega) (by omega)
      omega
  have x1 := max_ints (rp := rp) (l := (intR (-61) 62).filter fun k => decide (k * b ≤ a)) (m := a / b)
    (filt_mem (by omega) (decide_eq_true ((le_div b0).mpr (Int.le_refl _)))) (filt_max (by omega) (decide_eq_true ((le_div b0).mpr (Int.le_refl _))) fun k _ _ h => (le_div b0).mp (of_decide_eq_true h))
  have x2 := min_ints (rp := rp) (l := (intR (-61) 62).filter fun k => decide (a ≤ k * b)) (m := -(-a / b))
    (filt_mem (by omega) (decide_eq_true ((ge_div b0).mpr (Int.le_refl _)))) (filt_min (by omega) (decide_eq_true ((ge_div b0).mpr (Int.le_refl _))) fun k _ _ h => (ge_div b0).mp (of_decide_eq_true h))
  have x3 := max_ints (rp := rp) (l := (intR (-61) 62).filter fun k => decide ((2 * k - 1) * b ≤ 2 * a)) (m := (2 * a + b) / (2 * b))
    (filt_mem (by omega) (decide_eq_true ((near_div b0).mpr (Int.le_refl _)))) (filt_max (by omega) (decide_eq_true ((near_div b0).mpr (Int.le_refl _))) fun k _ _ h => (near_div b0).mp (of_decide_eq_true h))
  have hrp : (exQ rp).rp = rp := rfl
  have p1 := red_pos (a := a) b0
  have g1 := red_le (a := a) b0
  have u6 := floor_ok (rp := rp) (k := 8) (h := [rowD w]) (x1 := (red a b).1) (x2 := (red a b).2) ⟨p1, by omega⟩
  have u7 := ceil_ok (rp := rp) (k := 8) (h := [rowD w]) (x1 := (red a b).1) (x2 := (red a b).2) ⟨p1, by omega⟩
  have u8 := near_ok (rp := rp) (k := 8) (h := [rowD w]) (x1 := (red a b).1) (x2 := (red a b).2) ⟨p1, by omega⟩
  rw [red_floor b0] at u6
  rw [red_ceil b0] at u7
  rw [red_near b0] at u8
  have al4 := fun x y z => alike_same (P := exQ rp) (f := 16) rfl 2 6 (.tup [.int x, .int y, .int z]) [rowD w] (fine_tup (by simp) fun x hx => by simp only [List.mem_cons, List.not_mem_nil, or_false] at hx; rcases hx with e | e | e <;> subst e <;> exact fine_int)
  simp only [Nat.reduceAdd, Prod.eta] at u6 u7 u8 al4
  refine ⟨.val (.int (a / b)), .val (.int (-(-a / b))), .val (.int ((2 * a + b) / (2 * b))), .own (.lst ((intR (-61) 62).map D.int)), ⟨rfl, rfl, rfl, rfl⟩, ?_⟩
  walk_at "evo"
  rewrite [lc_filter (fun k => decide (k * b ≤ a)) D.int D.int]
  · walk_at "evo"
    rewrite [lc_filter (fun k => decide (a ≤ k * b)) D.int D.int]
    · walk_at "evo"
      rewrite [lc_filter (fun k => decide ((2 * k - 1) * b ≤ 2 * a)) D.int D.int]
      · walk_at "evo"
      · intro k hk
        by_cases z : (2 * k - 1) * b ≤ 2 * a
        · simp only [decide_eq_true z, if_true]
          exact ⟨_, by walk_at "evo"; rfl, rfl⟩
        · simp only [decide_eq_false z, Bool.false_eq_true, if_false]
          exact ⟨_, by walk_at "evo"; rfl, rfl⟩
    · intro k hk
      by_cases z : a ≤ k * b
      · simp only [decide_eq_true z, if_true]
        exact ⟨_, by walk_at "evo"; rfl, rfl⟩
      · simp only [decide_eq_false z, Bool.false_eq_true, if_false]
        exact ⟨_, by walk_at "evo"; rfl, rfl⟩
  · intro k hk
    by_cases z : k * b ≤ a
    · simp only [decide_eq_true z, if_true]
      exact ⟨_, by walk_at "evo"; rfl, rfl⟩
    · simp only [decide_eq_false z, Bool.false_eq_true, if_false]
      exact ⟨_, by walk_at "evo"; rfl, rfl⟩
end
end Ev.L
end

section
namespace Ev.L
local macro_rules | `(tactic| walk_at "ev") => `(tactic| simp only [sq_nil, ↓sq_cons, ↓seq_next, ↓seq_ret, ↓seq_exc, ↓bind_ok, ↓bind_exc, ↓out_ok, ↓out_exc, look_0, look_s, put_0, put_s, svOf_f, svOf_t, nmV_val, nmV_ownF, nmV_ownT, nmV_ro,
  deref_non, deref_bl, deref_int, deref_str, deref_tup, deref_lst, deref_dic, deref_obj, deref_fn, deref_scr, deref_0, deref_s, truth_bl, ofO_some, ofC_ok, ofC_exc, asVal_ok, asVal_exc, newV_f, newV_t,
  e_nm, e_cst, e_glob, e_bin, e_neg, e_not, e_and, e_or, e_ife, e_cmp, e_cmp2, e_tup, e_lst, e_dic, e_call, e_meth, e_make, e_blt, e_fldN, e_fldF, e_fldS, e_fldC, e_fldM, e_sub, e_slc, e_rev, e_lrg1, e_lrg2, e_isiN, e_isiS, es_nil, es_cons, bs_nil, bs_cons, ps_nil, ps_cons, o_none, o_some, c_none, c_some, i_of, i_enum, i_range1, i_range2,
  nx_some, asgT_nm, asgT_tup, asgTs_nil, asgTs_cons, putP_nil, putP_cons, killS_nil, killS_cons, chR_some, chN_some, chO_own, chg_ref, chg_lst, chg_dic, chg_obj, retN_own, retN_val, ↓tr_next, ↓tr_ret, ↓tr_exc, augN1_val, augN2_add, augN2_sub, onL_lst,
  s_asgN, s_asgT, s_asgP, s_setF, s_setI, s_augN, s_app, s_ext, s_ins, s_upd, s_expr, s_iff, s_ret0, s_retN, s_raise, s_try, s_pass, s_kill, r_cst, r_glob, r_bin, r_neg, r_not, r_and, r_or, r_ife, r_cmp, r_cmp2, r_tup, r_lst, r_dic, r_call, r_callv, r_meth, r_make, r_blt, r_fld, r_sub, r_slc, r_rev, r_lc, r_isi, r_lrg1, r_lrg2, r_fstr,
  b_add, b_sub, b_mulL, b_mulR, b_fdiv, b_mod, b_pow18, b_addS, b_addT, b_addL, c_eqI, c_neI, c_ltI, c_gtI, c_leI, c_geI, c_eqB, c_neB, c_isn, c_isnt, non_non, non_bl, non_int, non_str, non_tup, non_lst, non_dic, non_obj, negV_int,
  isi_non, isi_bl, isi_int, isi_str, isi_tup, isi_lst, isi_dic, isi_obj, isi0_val, isi0_own, isi0_ro, fld0_val, fld0_own, fld0_ro, fld0_exc, fldV_obj, fget_cons, fput_cons, fput_nil, setFD_obj, isKd, List.any_cons, List.any_nil, Bool.or_false, Bool.or_true, Bool.true_or, Bool.false_or, Bool.not_true, Bool.not_false, Bool.and_true, Bool.and_false, Bool.true_and, Bool.false_and, Bool.and_self, Bool.or_self,
  sub_T0, sub_T1, sub_T2, sub_T3, sub_T4, sub_L0, sub_L1, sub_L2, sub_L3, sub_L4, lenT, lenL, lenS, lenDi, lenSc, tupL, tupT, lstL, lstT, absI, intI, intB, min2I, max2I, raiseO_0, raiseO_1, raiseO_2, lcR_f, seqL, seqT, seqS, appD_lst, extD_lst, insD_lst, putI_L, lcT_eq, lcN_some, wipeS_nil, wipeS_cons, slotsT_nm, slotsT_tup, slotsTs_nil, slotsTs_cons, hide_un, hide_val, hide_own, hide_ro, hide_exc, c_eqS, c_neS, c_eqNN, c_eqLL, c_neLL, s_wh, s_for, e_lc, fin_next, fin_ret, fin_exc, forL_nil, hs_nil, hs_yesN, hs_yesS, hs_no, endX_nextS, endX_nextN, endX_ret, drop_un, drop_val, drop_own, drop_ro, drop_exc,
  List.map_cons, List.map_nil, List.length_cons, List.length_nil, Option.map_some, Option.bind_some, List.set_cons_zero, List.set_cons_succ, List.getElem?_cons_zero, List.getElem?_cons_succ, List.nil_append, List.cons_append,
  Nat.reduceAdd, Nat.reduceMul, Nat.reduceSub, Int.reduceNeg, Int.reduceAdd, Int.reduceSub, Int.reduceMul, Int.reduceDiv, Int.reduceMod, Int.reduceToNat, Int.reduceLT, Int.reduceLE, Int.reduceEq, Int.reduceNe, Nat.reduceLT, Nat.reduceLeDiff, Nat.reduceEqDiff, decide_true, decide_false, decide_eq_true_eq, decide_not, Bool.not_eq_true', decide_eq_false_iff_not, bne_self_eq_false, beq_self_eq_true, ↓reduceIte, if_true, if_false, Bool.false_eq_true, not_true_eq_false, not_false_eq_true, reduceCtorEq, Int.cast_ofNat_Int, Int.natCast_add, and_self, and_true, true_and, and_false, false_and, or_true, true_or, or_false, false_or, Int.ofNat_zero, Int.zero_add, Nat.zero_add, Nat.zero_le, *])
local macro_rules | `(tactic| walk_at "evo") => `(tactic| simp (maxSteps := 1000000) (disch := first | omega | assumption) only [sq_nil, ↓sq_cons, ↓seq_next, ↓seq_ret, ↓seq_exc, ↓bind_ok, ↓bind_exc, ↓out_ok, ↓out_exc, look_0, look_s, put_0, put_s, svOf_f, svOf_t, nmV_val, nmV_ownF, nmV_ownT, nmV_ro,
  deref_non, deref_bl, deref_int, deref_str, deref_tup, deref_lst, deref_dic, deref_obj, deref_fn, deref_scr, deref_0, deref_s, truth_bl, ofO_some, ofC_ok, ofC_exc, asVal_ok, asVal_exc, newV_f, newV_t,
  e_nm, e_cst, e_glob, e_bin, e_neg, e_not, e_and, e_or, e_ife, e_cmp, e_cmp2, e_tup, e_lst, e_dic, e_call, e_meth, e_make, e_blt, e_fldN, e_fldF, e_fldS, e_fldC, e_fldM, e_sub, e_slc, e_rev, e_lrg1, e_lrg2, e_isiN, e_isiS, es_nil, es_cons, bs_nil, bs_cons, ps_nil, ps_cons, o_none, o_some, c_none, c_some, i_of, i_enum, i_range1, i_range2,
  nx_some, asgT_nm, asgT_tup, asgTs_nil, asgTs_cons, putP_nil, putP_cons, killS_nil, killS_cons, chR_some, chN_some, chO_own, chg_ref, chg_lst, chg_dic, chg_obj, retN_own, retN_val, ↓tr_next, ↓tr_ret, ↓tr_exc, augN1_val, augN2_add, augN2_sub, onL_lst,
  s_asgN, s_asgT, s_asgP, s_setF, s_setI, s_augN, s_app, s_ext, s_ins, s_upd, s_expr, s_iff, s_ret0, s_retN, s_raise, s_try, s_pass, s_kill, r_cst, r_glob, r_bin, r_neg, r_not, r_and, r_or, r_ife, r_cmp, r_cmp2, r_tup, r_lst, r_dic, r_call, r_callv, r_meth, r_make, r_blt, r_fld, r_sub, r_slc, r_rev, r_lc, r_isi, r_lrg1, r_lrg2, r_fstr,
  b_add, b_sub, b_mulL, b_mulR, b_fdiv, b_mod, b_pow18, b_addS, b_addT, b_addL, c_eqI, c_neI, c_ltI, c_gtI, c_leI, c_geI, c_eqB, c_neB, c_isn, c_isnt, non_non, non_bl, non_int, non_str, non_tup, non_lst, non_dic, non_obj, negV_int,
  isi_non, isi_bl, isi_int, isi_str, isi_tup, isi_lst, isi_dic, isi_obj, isi0_val, isi0_own, isi0_ro, fld0_val, fld0_own, fld0_ro, fld0_exc, fldV_obj, fget_cons, fput_cons, fput_nil, setFD_obj, isKd, List.any_cons, List.any_nil, Bool.or_false, Bool.or_true, Bool.true_or, Bool.false_or, Bool.not_true, Bool.not_false, Bool.and_true, Bool.and_false, Bool.true_and, Bool.false_and, Bool.and_self, Bool.or_self,
  sub_T0, sub_T1, sub_T2, sub_T3, sub_T4, sub_L0, sub_L1, sub_L2, sub_L3, sub_L4, lenT, lenL, lenS, lenDi, lenSc, tupL, tupT, lstL, lstT, absI, intI, intB, min2I, max2I, raiseO_0, raiseO_1, raiseO_2, lcR_f, seqL, seqT, seqS, appD_lst, extD_lst, insD_lst, putI_L, lcT_eq, lcN_some, wipeS_nil, wipeS_cons, slotsT_nm, slotsT_tup, slotsTs_nil, slotsTs_cons, hide_un, hide_val, hide_own, hide_ro, hide_exc, c_eqS, c_neS, c_eqNN, c_eqLL, c_neLL, s_wh, s_for, e_lc, fin_next, fin_ret, fin_exc, forL_nil, hs_nil, hs_yesN, hs_yesS, hs_no, endX_nextS, endX_nextN, endX_ret, drop_un, drop_val, drop_own, drop_ro, drop_exc,
  List.map_cons, List.map_nil, List.length_cons, List.length_nil, Option.map_some, Option.bind_some, List.set_cons_zero, List.set_cons_succ, List.getElem?_cons_zero, List.getElem?_cons_succ, List.nil_append, List.cons_append,
  Nat.reduceAdd, Nat.reduceMul, Nat.reduceSub, Int.reduceNeg, Int.reduceAdd, Int.reduceSub, Int.reduceMul, Int.reduceDiv, Int.reduceMod, Int.reduceToNat, Int.reduceLT, Int.reduceLE, Int.reduceEq, Int.reduceNe, Nat.reduceLT, Nat.reduceLeDiff, Nat.reduceEqDiff, decide_true, decide_false, decide_eq_true_eq, decide_not, Bool.not_eq_true', decide_eq_false_iff_not, bne_self_eq_false, beq_self_eq_true, ↓reduceIte, if_true, if_false, Bool.false_eq_true, not_true_eq_false, not_false_eq_true, reduceCtorEq, Int.cast_ofNat_Int, Int.natCast_add, and_self, and_true, true_and, and_false, false_and, or_true, true_or, or_false, false_or, Int.ofNat_zero, Int.zero_add, Nat.zero_add, Nat.zero_le, *])

theorem deref_fr {h : Mem} {x : Fr} : deref h (frD x) = frD x := rfl
def step10 (w : Row) : Fr × Row := (red ((w.tk 40).1 - 20) (1 + ((w.tk 40).2.tk 6).1), ((w.tk 40).2.tk 6).2)
theorem eqv_fr {x y : Fr} : D.eqv (frD x) (frD y) = decide (x = y) := by
  have := c_eqF (x := x) (y := y)
  rw [c_eq rfl rfl, Option.some.injEq] at this
  exact this
theorem pl_fr {n : Nat} {l : List Fr} : plL (n + 1) (l.map frD) = true := plL_all fun x hx => by
  obtain ⟨y, _, rfl⟩ := List.mem_map.mp hx
  rfl
section
variable {rp : D → Option (List Nat)} {mk : Nat → List D → Mem → CRes} {xs : List Int} {a b c d : Int} {w : Row}
theorem low4_loop {v0 v1 v2 v3 v4 v5 v6 v7 v8 v9 v10 v11 v12 v15 v16 v17 v18 : SV} {k : Nat} : ∀ {xs : List Fr} {x : Fr} {v : SV} {m : Int} {h : Mem}, small2 m xs → 0 < x.2 → x.2 ≤ m → ∃ v', (dropX v = v → dropX v' = v') ∧
    forL (.nm 14) (evalSs (exQ rp) (run (exQ rp) (k + 1)).1 mk none [.asg (.nm 13) (.call 18 [(.bin .add (.bin .mul (.sub (.nm 13) (.cst (.int 0))) (.sub (.nm 14) (.cst (.int 1)))) (.bin .mul (.sub (.nm 14) (.cst (.int 0))) (.sub (.nm 13) (.cst (.int 1))))), (.bin .mul (.sub (.nm 13) (.cst (.int 1))) (.sub (.nm 14) (.cst (.int 1))))])]) (xs.map frD)
      ⟨[v0, v1, v2, v3, v4, v5, v6, v7, v8, v9, v10, v11, v12, .val (frD x), v, v15, v16, v17, v18], h⟩ = .next ⟨[v0, v1, v2, v3, v4, v5, v6, v7, v8, v9, v10, v11, v12, .val (frD (ftotal x xs)), v', v15, v16, v17, v18], h⟩
  | [], w, v, m, _, _, _, _ => ⟨v, id, rfl⟩
  | (x1, x2) :: xs, (w1, w2), v, m, h, hs, h1, h2 => by
    obtain ⟨q1, q2, q3, q4, n, q5, q6, q7⟩ := hs
    simp only at q1 q2 q6 h1 h2
    have b1 : w2 * x2 ≤ m * n := Int.mul_le_mul h2 q6 (by omega) (by omega)
    have b2 := small2_lt q7
    have b3 := Int.mul_pos h1 q1
    have p := low_ok (rp := rp) (k := k) (h := h) (a := w1 * x2 + x1 * w2) (b := w2 * x2) ⟨b3, by omega⟩
    have rp1 : 0 < (fplus (w1, w2) (x1, x2)).2 := red_pos b3
    have rp2 : (fplus (w1, w2) (x1, x2)).2 ≤ w2 * x2 := red_le b3
    obtain ⟨v', dv, ih⟩ := low4_loop (k := k) (xs := xs) (x := fplus (w1, w2) (x1, x2)) (v := .val (frD (x1, x2))) (m := m * n) (h := h) q7 rp1 (by omega)
    refine ⟨v', fun _ => dv rfl, ?_⟩
    rw [List.map_cons, forL_cons]
    simp only [fplus, frD] at ih p ⊢
    walk_at "evo"
    exact ih
theorem stage4 (hl : True) {x y : Fr} {v8 v9 v10 v11 : SV} : ∃ (ys : List Fr) (w' : Row), ys.length ≤ 4 ∧ (∀ z ∈ ys, 0 < z.2 ∧ z.2 ≤ 6) ∧ (∀ z ∈ ys, red z.1 z.2 = z) ∧
    evalSs (exQ rp) (run (exQ rp) 9).1 mk none ((B19.drop 10).take 1) (st10 xs a b c d x y [v8, v9, v10, v11, .un, .un, .un, .un, .un, .un, .un] w) = .next (st10 xs a b c d x y [v8, v9, v10, v11, .own (.lst ((x :: y :: ys).map frD)), .val (frD (0, 1)), .un, .un, .un, .un, .un] w') := by
  simp only [B19, List.take_succ_cons, List.take_zero, List.drop_succ_cons, List.drop_zero, st10]
  have t1 := taken_ok (P := exQ rp) (f := 15) rfl (k := 8) (w := w) (many := 5) (h := []) (by decide)
  simp only [Nat.reduceAdd] at t1
  have n1 := tk_lo (w := w) (many := 5) (by decide)
  have n2 := tk_hi (w := w) (many := 5) (by decide)
  generalize w.tk 5 = r at *
  obtain ⟨n, w1⟩ := r
  simp only at t1 n1 n2
  have r1 : rg1 (.int n) = some (rangeD 0 n) := rg1_ok (by omega)
  have hln : (rangeD 0 n).length ≤ 4 := by rw [rangeD_len]; omega
  have hd2 : (draws step10 (rangeD 0 n).length w1).1.length ≤ 4 := by rw [draws_len]; exact hln
  have hd3 : ((draws step10 (rangeD 0 n).length w1).1.map frD).length ≤ 4 := by rw [List.length_map]; exact hd2
  refine ⟨(draws step10 (rangeD 0 n).length w1).1, (draws step10 (rangeD 0 n).length w1).2, hd2, draws_all fun w => ?_, draws_all fun w => red_red (by have h1 := tk_lo (w := (w.tk 40).2) (many := 6) (by decide); omega), ?_⟩
  · have h1 := tk_lo (w := (w.tk 40).2) (many := 6) (by decide)
    have h2 := tk_hi (w := (w.tk 40).2) (many := 6) (by decide)
    have q1 := red_pos (a := (w.tk 40).1 - 20) (b := 1 + ((w.tk 40).2.tk 6).1) (by omega)
    have q2 := red_le (a := (w.tk 40).1 - 20) (b := 1 + ((w.tk 40).2.tk 6).1) (by omega)
    exact ⟨q1, by show (red _ _).2 ≤ 6; omega⟩
  · walk_at "ev"
    rewrite [show lcL _ _ [rowD w1] = _ from lc_draw step10 frD (fun w => [rowD w]) ?_]
    · have g1 : ((draws step10 (rangeD 0 n).length w1).1.map frD).length ≤ lim := Nat.le_trans hd3 (by decide)
      have g2 : [frD x, frD y].length + ((draws step10 (rangeD 0 n).length w1).1.map frD).length ≤ lim := Nat.le_trans (Nat.add_le_add_left hd3 _) (by show 2 + 4 ≤ 16777216; omega)
      have g3 : binop .add (.lst [frD x, frD y]) (.lst ((draws step10 (rangeD 0 n).length w1).1.map frD)) = some ⟨.lst ([frD x, frD y] ++ (draws step10 (rangeD 0 n).length w1).1.map frD), true⟩ := b_addL g2
      walk_at "ev"
      rfl
    · intro z hz w2
      have t1 := taken_ok (P := exQ rp) (f := 15) rfl (k := 8) (w := w2) (many := 40) (h := []) (by decide)
      have t2 := taken_ok (P := exQ rp) (f := 15) rfl (k := 8) (w := (w2.tk 40).2) (many := 6) (h := []) (by decide)
      have h1 := tk_lo (w := (w2.tk 40).2) (many := 6) (by decide)
      have h2 := tk_hi (w := (w2.tk 40).2) (many := 6) (by decide)
      have h3 := reduced_ok (rp := rp) (k := 8) (a := (w2.tk 40).1 - 20) (b := 1 + ((w2.tk 40).2.tk 6).1) (h := [rowD ((w2.tk 40).2.tk 6).2]) (by omega)
      simp only [Nat.reduceAdd] at t1 t2 h3
      exact ⟨_, by walk_at "ev"; rfl, rfl⟩
theorem small2_of {x y : Fr} {ys : List Fr} (hx : 0 < x.2 ∧ x.2 ≤ 60) (hy : 0 < y.2 ∧ y.2 ≤ 60) (hl : ys.length ≤ 4) (hz : ∀ z ∈ ys, 0 < z.2 ∧ z.2 ≤ 6) : small2 1 (x :: y :: ys) := by
  refine ⟨hx.1, by omega, by omega, by omega, 60, by omega, hx.2, hy.1, by omega, by omega, by omega, 60, by omega, hy.2, ?_⟩
  have : ∀ (ys : List Fr) (n : Nat) (m : Int), ys.length ≤ n → 0 < m → m * 6 ^ n ≤ 100000000 → (∀ z ∈ ys, 0 < z.2 ∧ z.2 ≤ 6) → small2 m ys := by
    intro ys
    induction ys with
    | nil =>
      intro n m _ hm h _
      have : (1 : Int) ≤ 6 ^ n := Int.pow_pos (by omega)
      have := Int.mul_le_mul_of_nonneg_left (a := 1) (b := 6 ^ n) (c := m) this (by omega)
      show m < 1073741823
      omega
    | cons z zs ih =>
      intro n m hn hm h hz
      cases n with
      | zero => simp at hn
      | succ n =>
        have h0 := hz z List.mem_cons_self
        have p6 : (1 : Int) ≤ 6 ^ n := Int.pow_pos (by omega)
        have e : m * 6 ^ (n + 1) = m * 6 * 6 ^ n := by rw [Int.pow_succ, Int.mul_assoc, Int.mul_comm 6]
        have hm6 := Int.mul_le_mul_of_nonneg_left (a := 1) (b := 6 ^ n) (c := m * 6) p6 (by omega)
        refine ⟨h0.1, by omega, hm, by omega, 6, by omega, h0.2, ih n (m * 6) (by simp at hn; omega) (by omega) (by omega) fun z hz2 => hz z (List.mem_cons_of_mem _ hz2)⟩
  exact this ys 4 (1 * 60 * 60) hl (by omega) (by decide) hz
variable {x y : Fr} {ys : List Fr} (hx : 0 < x.2 ∧ x.2 ≤ 60) (hy : 0 < y.2 ∧ y.2 ≤ 60) (hl : ys.length ≤ 4) (hz : ∀ z ∈ ys, 0 < z.2 ∧ z.2 ≤ 6)
include hx hy hl hz
theorem stage5 {v8 v9 v10 v11 : SV} : ∃ v13 v14, (dropX v13 = v13 ∧ dropX v14 = v14) ∧ evalSs (exQ rp) (run (exQ rp) 9).1 mk none ((B19.drop 11).take 2) (st10 xs a b c d x y [v8, v9, v10, v11, .own (.lst ((x :: y :: ys).map frD)), .val (frD (0, 1)), .un, .un, .un, .un, .un] w) = .next (st10 xs a b c d x y [v8, v9, v10, v11, .val (.lst ((x :: y :: ys).map frD)), v13, v14, .un, .un, .un, .un] w) := by
  simp only [B19, List.take_succ_cons, List.take_zero, List.drop_succ_cons, List.drop_zero, st10]
  have sm := small2_of hx hy hl hz
  obtain ⟨v', dv, e⟩ := low4_loop (rp := rp) (mk := mk) (k := 8) (x := (0, 1)) (v := .un) (h := [rowD w]) (v0 := .val (.scr xs)) (v1 := .val (.ref 0)) (v2 := .val (.int a)) (v3 := .val (.int b)) (v4 := .val (.int c)) (v5 := .val (.int d)) (v6 := .val (frD x)) (v7 := .val (frD y)) (v8 := v8) (v9 := v9) (v10 := v10) (v11 := v11) (v12 := .val (.lst ((x :: y :: ys).map frD))) (v15 := .un) (v16 := .un) (v17 := .un) (v18 := .un) sm (by decide) (by decide)
  have tt := total_ok (rp := rp) (k := 6) (h := [rowD w]) sm
  have al := fun x => alike_same (P := exQ rp) (f := 16) rfl 2 6 (frD x) [rowD w] fine_fr
  simp only [Nat.reduceAdd] at tt al e
  refine ⟨.val (frD (ftotal (0, 1) (x :: y :: ys))), v', ⟨rfl, dv rfl⟩, ?_⟩
  generalize x :: y :: ys = rows at *
  walk_at "ev"
theorem stage6 {v8 v9 v10 v11 v13 v14 : SV} (hr : ∀ z ∈ x :: y :: ys, red z.1 z.2 = z) : ∃ v9' v10' v15, (dropX v9' = v9' ∧ dropX v10' = v10' ∧ dropX v15 = v15) ∧ evalSs (exQ rp) (run (exQ rp) 9).1 mk none ((B19.drop 13).take 4) (st10 xs a b c d x y [v8, v9, v10, v11, .val (.lst ((x :: y :: ys).map frD)), v13, v14, .un, .un, .un, .un] w) = .next (st10 xs a b c d x y [v8, v9', v10', v11, .val (.lst ((x :: y :: ys).map frD)), v13, v14, v15, .un, .un, .un] w) := by
  simp only [B19, List.take_succ_cons, List.take_zero, List.drop_succ_cons, List.drop_zero, st10]
  have hall : ∀ z ∈ x :: y :: ys, 0 < z.2 ∧ z.2 ≤ 60 := fun z h => by
    rcases List.mem_cons.mp h with e | e
    · rw [e]; exact hx
    · rcases List.mem_cons.mp e with e | e
      · rw [e]; exact hy
      · have := hz z e; omega
  obtain ⟨hs, hp, hperm⟩ := medRow_ok (xs := y :: ys) (row := [x]) (List.pairwise_singleton ..) (fun z h => (hall z (by simp only [List.mem_singleton] at h; rw [h]; exact List.mem_cons_self)).1) (fun z h => (hall z (List.mem_cons_of_mem _ h)).1)
  have hp2 : (medRow [x] (y :: ys)).Perm (x :: y :: ys) := hperm.trans (List.perm_append_comm (l₁ := y :: ys) (l₂ := [x]))
  have md := median_ok (rp := rp) (k := 6) (x := x) (xs := y :: ys) (h := [rowD w]) hall (by rw [List.length_cons]; omega)
  have hp3 : ∀ z ∈ medRow [x] (y :: ys), 0 < z.2 ∧ z.2 ≤ 60 := fun z h => hall z (hp2.mem_iff.mp h)
  generalize medRow [x] (y :: ys) = row at *
  have hlen : row.length = ys.length + 2 := by rw [hp2.length_eq]; rfl
  have gm : ∀ i, i < row.length → row.getD i (0, 1) = row[i]?.getD (0, 1) ∧ row.getD i (0, 1) ∈ row := fun i hi => by
    rw [List.getD_eq_getElem?_getD, List.getElem?_eq_getElem hi]; exact ⟨rfl, List.getElem_mem hi⟩
  -- the middle
  have i1 : (row.length - 1) / 2 < row.length := by omega
  have i2 : row.length / 2 < row.length := by omega
  obtain ⟨p, hpdef⟩ : ∃ p, row.getD ((row.length - 1) / 2) (0, 1) = p := ⟨_, rfl⟩
  obtain ⟨q, hqdef⟩ : ∃ q, row.getD (row.length / 2) (0, 1) = q := ⟨_, rfl⟩
  have hpm : p ∈ row := hpdef ▸ (gm _ i1).2
  have hqm : q ∈ row := hqdef ▸ (gm _ i2).2
  have hp0 := hp3 p hpm
  have hq0 := hp3 q hqm
  have hpe : row[(row.length - 1) / 2] = p := by rw [← hpdef, List.getD_eq_getElem?_getD, List.getElem?_eq_getElem i1]; rfl
  have hqe : row[row.length / 2] = q := by rw [← hqdef, List.getD_eq_getElem?_getD, List.getElem?_eq_getElem i2]; rfl
  have hmid : fmid row = midF p q := by
    unfold fmid ftimes fplus midF
    rw [hpdef, hqdef]
    have := red_times (a := p.1 * q.2 + q.1 * p.2) (b := p.2 * q.2) (c := 1) (d := 2) (Int.mul_pos hp0.1 hq0.1) (by omega)
    have e12 : red 1 2 = (1, 2) := by decide
    rw [e12] at this
    rw [this, Int.mul_one]
  have hodd : ((x :: y :: ys).length : Int) % 2 = 1 → fmid row ∈ x :: y :: ys := fun h => by
    rw [hmid]
    have : p = q := by
      rw [← hpdef, ← hqdef, show (row.length - 1) / 2 = row.length / 2 by rw [hp2.length_eq]; omega]
    subst this
    rw [mid_same hp0.1 (hr p (hp2.mem_iff.mp hpm))]
    exact hp2.mem_iff.mp hpm
  obtain ⟨c1, c2⟩ := mid_all hs hp i1 i2 (by omega)
  rw [hpe, hqe, ← hmid, hp2.countP_eq] at c1 c2
  rw [hlen] at c1 c2
  have s0 : 0 < (fmid row).2 ∧ (fmid row).2 ≤ 60 * 60 * 2 := by
    have k1 : p.2 * q.2 ≤ 60 * 60 := Int.mul_le_mul hp0.2 hq0.2 (by omega) (by omega)
    have k2 := Int.mul_pos hp0.1 hq0.1
    have k3 := red_pos (a := p.1 * q.2 + q.1 * p.2) (b := p.2 * q.2 * 2) (by omega)
    have k4 := red_le (a := p.1 * q.2 + q.1 * p.2) (b := p.2 * q.2 * 2) (by omega)
    rw [hmid]; unfold midF; omega
  clear hmid hpe hqe hp0 hq0 hpm hqm hpdef hqdef p q i1 i2 gm hp3 hperm hp2 hs hp
  generalize fmid row = m at *
  clear hlen row
  obtain ⟨m1, m2⟩ := m
  rw [List.countP_eq_length_filter] at c1 c2
  have hf := fun z => List.length_filter_le z (x :: y :: ys)
  have hl3 : (x :: y :: ys).length = ys.length + 2 := rfl
  refine ⟨.val (.int ((x :: y :: ys).filter fun z => decide (flt z (m1, m2))).length), .val (.int ((x :: y :: ys).filter fun z => decide (flt (m1, m2) z)).length), .val (frD (m1, m2)), ⟨rfl, rfl, rfl⟩, ?_⟩
  have g1 : (((x :: y :: ys).filter fun z => decide (flt z (m1, m2))).map fun _ => D.int 1).length ≤ lim := by
    rw [List.length_map]; have := hf fun z => decide (flt z (m1, m2)); show _ ≤ 16777216; omega
  have g2 : (((x :: y :: ys).filter fun z => decide (flt (m1, m2) z)).map fun _ => D.int 1).length ≤ lim := by
    rw [List.length_map]; have := hf fun z => decide (flt (m1, m2) z); show _ ≤ 16777216; omega
  have s : ∀ z ∈ x :: y :: ys, -18446744073709551616 < z.2 ∧ z.2 < 18446744073709551616 := fun z h => by have := hall z h; omega
  replace s0 : -18446744073709551616 < m2 ∧ m2 < 18446744073709551616 := by simp only at s0; omega
  simp only [Nat.reduceAdd] at md
  generalize hrows : x :: y :: ys = rows at *
  walk_at "ev"
  rewrite [lc_filter (fun z => decide (flt z (m1, m2))) (fun _ => D.int 1) frD]
  · walk_at "ev"
    rewrite [lc_filter (fun z => decide (flt (m1, m2) z)) (fun _ => D.int 1) frD]
    · walk_at "ev"
      simp only [List.length_map, deref_fr]
      have n1 : ¬ ((rows.length : Int) < 2 * ((rows.filter fun z => decide (flt z (m1, m2))).length : Int)) := by omega
      have n2 : ¬ ((rows.length : Int) < 2 * ((rows.filter fun z => decide (flt (m1, m2) z)).length : Int)) := by omega
      clear hl3 hl c1 c2 hf
      by_cases par : (rows.length : Int) % 2 = 1
      · have hin := in_L (enc := frD) (a := (m1, m2)) (l := rows) (fun x _ y => eqv_fr) rfl pl_fr
        simp only [hodd par, decide_true] at hin
        have hin2 : cmpop .notin (frD (m1, m2)) (.lst (rows.map frD)) = some false := by simp only [cmpop, hin]; rfl
        walk_at "ev"
      · walk_at "ev"
    · intro z hzz
      have s1 := s z hzz
      obtain ⟨z1, z2⟩ := z
      simp only at s1
      show ∃ s, _ = Res.ok (if decide (flt (m1, m2) (z1, z2)) = true then some (D.int 1) else none) s ∧ _
      by_cases t : flt (m1, m2) (z1, z2)
      · rw [if_pos (decide_eq_true t)]
        have t' : m1 * z2 < z1 * m2 := t
        exact ⟨_, by simp only [frD]; walk_at "evo"; rfl, rfl⟩
      · rw [decide_eq_false t, if_neg (by decide)]
        have t' : ¬ m1 * z2 < z1 * m2 := t
        exact ⟨_, by simp only [frD]; walk_at "evo"; rfl, rfl⟩
  · intro z hzz
    have s1 := s z hzz
    obtain ⟨z1, z2⟩ := z
    simp only at s1
    show ∃ s, _ = Res.ok (if decide (flt (z1, z2) (m1, m2)) = true then some (D.int 1) else none) s ∧ _
    by_cases t : flt (z1, z2) (m1, m2)
    · rw [if_pos (decide_eq_true t)]
      have t' : z1 * m2 < m1 * z2 := t
      exact ⟨_, by simp only [frD]; walk_at "evo"; rfl, rfl⟩
    · rw [decide_eq_false t, if_neg (by decide)]
      have t' : ¬ z1 * m2 < m1 * z2 := t
      exact ⟨_, by simp only [frD]; walk_at "evo"; rfl, rfl⟩
end
/-! ### what is no fraction -/
section
variable {rp : D → Option (List Nat)} {mk : Nat → List D → Mem → CRes} {k : Nat} {h : Mem} {c : Int} {xs : List Int} {a b d : Int} {w : Row}
def bad10 : List D := [.non, .tup [.int 1, .int 0], .tup [.int 2, .int 4], .tup [.int 0, .int 2], .tup [.int 1], .tup [.bl true, .int 2], .lst [.int 1, .int 2, .int 3], .int 5, .tup [.int 1, .int (-1)]]
theorem isf_bad : ∀ v ∈ bad10, (run (exQ rp) (k + 2)).1 3 [v] h = .ok (.bl false) false h := by
  have i1 := fun i => isw_int (rp := rp) (k := k) (h := h) (i := i)
  have i2 := fun i => isw_bl (rp := rp) (k := k) (h := h) (i := i)
  have i3 := fun i => isr_tup (rp := rp) (k := k) (h := h) (i := i)
  have i4 := fun i => isr_lst (rp := rp) (k := k) (h := h) (i := i)
  have i5 := isr_non (rp := rp) (k := k) (h := h)
  have i6 := fun i => isr_int (rp := rp) (k := k) (h := h) (i := i)
  have r1 : (run (exQ rp) (k + 1)).1 2 [.int 2, .int 4] h = .ok (frD (red 2 4)) false h := reduced_ok (by omega)
  have r2 : (run (exQ rp) (k + 1)).1 2 [.int 0, .int 2] h = .ok (frD (red 0 2)) false h := reduced_ok (by omega)
  have e1 : cmpop .eq (frD (red 2 4)) (.tup [.int 2, .int 4]) = some false := by decide
  have e2 : cmpop .eq (frD (red 0 2)) (.tup [.int 0, .int 2]) = some false := by decide
  have hd : ∀ x, deref h (frD x) = frD x := fun _ => rfl
  intro v hv
  simp only [bad10, List.mem_cons, List.not_mem_nil, or_false] at hv
  rcases hv with e | e | e | e | e | e | e | e | e
  all_goals
    subst e
    rw [run_fn rfl rfl]
    show fin (evalSs (exQ rp) _ _ none B3 ⟨[.val _], h⟩) = _
    unfold B3
    walk_at "ev"
theorem want_bad {v : D} (hv : v ∈ bad10) : (run (exQ rp) (k + 3)).1 4 [v] h = .exc 1 [0] [v] h := by
  have f := isf_bad (rp := rp) (k := k) (h := h) v hv
  rw [run_fn rfl rfl]
  show fin (evalSs (exQ rp) _ _ none B4 ⟨[.val _], h⟩) = _
  unfold B4
  have he : (exQ rp).excs = [([], [0]), ([0], [1, 0])] := rfl
  walk_at "evo"
end
end Ev.L
end

section
namespace Ev.L
local macro_rules | `(tactic| walk_at "ev") => `(tactic| simp only [sq_nil, ↓sq_cons, ↓seq_next, ↓seq_ret, ↓seq_exc, ↓bind_ok, ↓bind_exc, ↓out_ok, ↓out_exc, look_0, look_s, put_0, put_s, svOf_f, svOf_t, nmV_val, nmV_ownF, nmV_ownT, nmV_ro,
  deref_non, deref_bl, deref_int, deref_str, deref_tup, deref_lst, deref_dic, deref_obj, deref_fn, deref_scr, deref_0, deref_s, truth_bl, ofO_some, ofC_ok, ofC_exc, asVal_ok, asVal_exc, newV_f, newV_t,
  e_nm, e_cst, e_glob, e_bin, e_neg, e_not, e_and, e_or, e_ife, e_cmp, e_cmp2, e_tup, e_lst, e_dic, e_call, e_meth, e_make, e_blt, e_fldN, e_fldF, e_fldS, e_fldC, e_fldM, e_sub, e_slc, e_rev, e_lrg1, e_lrg2, e_isiN, e_isiS, es_nil, es_cons, bs_nil, bs_cons, ps_nil, ps_cons, o_none, o_some, c_none, c_some, i_of, i_enum, i_range1, i_range2,
  nx_some, asgT_nm, asgT_tup, asgTs_nil, asgTs_cons, putP_nil, putP_cons, killS_nil, killS_cons, chR_some, chN_some, chO_own, chg_ref, chg_lst, chg_dic, chg_obj, retN_own, retN_val, ↓tr_next, ↓tr_ret, ↓tr_exc, augN1_val, augN2_add, augN2_sub, onL_lst,
  s_asgN, s_asgT, s_asgP, s_setF, s_setI, s_augN, s_app, s_ext, s_ins, s_upd, s_expr, s_iff, s_ret0, s_retN, s_raise, s_try, s_pass, s_kill, r_cst, r_glob, r_bin, r_neg, r_not, r_and, r_or, r_ife, r_cmp, r_cmp2, r_tup, r_lst, r_dic, r_call, r_callv, r_meth, r_make, r_blt, r_fld, r_sub, r_slc, r_rev, r_lc, r_isi, r_lrg1, r_lrg2, r_fstr,
  b_add, b_sub, b_mulL, b_mulR, b_fdiv, b_mod, b_pow18, b_addS, b_addT, b_addL, c_eqI, c_neI, c_ltI, c_gtI, c_leI, c_geI, c_eqB, c_neB, c_isn, c_isnt, non_non, non_bl, non_int, non_str, non_tup, non_lst, non_dic, non_obj, negV_int,
  isi_non, isi_bl, isi_int, isi_str, isi_tup, isi_lst, isi_dic, isi_obj, isi0_val, isi0_own, isi0_ro, fld0_val, fld0_own, fld0_ro, fld0_exc, fldV_obj, fget_cons, fput_cons, fput_nil, setFD_obj, isKd, List.any_cons, List.any_nil, Bool.or_false, Bool.or_true, Bool.true_or, Bool.false_or, Bool.not_true, Bool.not_false, Bool.and_true, Bool.and_false, Bool.true_and, Bool.false_and, Bool.and_self, Bool.or_self,
  sub_T0, sub_T1, sub_T2, sub_T3, sub_T4, sub_L0, sub_L1, sub_L2, sub_L3, sub_L4, lenT, lenL, lenS, lenDi, lenSc, tupL, tupT, lstL, lstT, absI, intI, intB, min2I, max2I, raiseO_0, raiseO_1, raiseO_2, lcR_f, seqL, seqT, seqS, appD_lst, extD_lst, insD_lst, putI_L, lcT_eq, lcN_some, wipeS_nil, wipeS_cons, slotsT_nm, slotsT_tup, slotsTs_nil, slotsTs_cons, hide_un, hide_val, hide_own, hide_ro, hide_exc, c_eqS, c_neS, c_eqNN, c_eqLL, c_neLL, s_wh, s_for, e_lc, fin_next, fin_ret, fin_exc, forL_nil, hs_nil, hs_yesN, hs_yesS, hs_no, endX_nextS, endX_nextN, endX_ret, drop_un, drop_val, drop_own, drop_ro, drop_exc,
  List.map_cons, List.map_nil, List.length_cons, List.length_nil, Option.map_some, Option.bind_some, List.set_cons_zero, List.set_cons_succ, List.getElem?_cons_zero, List.getElem?_cons_succ, List.nil_append, List.cons_append,
  Nat.reduceAdd, Nat.reduceMul, Nat.reduceSub, Int.reduceNeg, Int.reduceAdd, Int.reduceSub, Int.reduceMul, Int.reduceDiv, Int.reduceMod, Int.reduceToNat, Int.reduceLT, Int.reduceLE, Int.reduceEq, Int.reduceNe, Nat.reduceLT, Nat.reduceLeDiff, Nat.reduceEqDiff, decide_true, decide_false, decide_eq_true_eq, decide_not, Bool.not_eq_true', decide_eq_false_iff_not, bne_self_eq_false, beq_self_eq_true, ↓reduceIte, if_true, if_false, Bool.false_eq_true, not_true_eq_false, not_false_eq_true, reduceCtorEq, Int.cast_ofNat_Int, Int.natCast_add, and_self, and_true, true_and, and_false, false_and, or_true, true_or, or_false, false_or, Int.ofNat_zero, Int.zero_add, Nat.zero_add, Nat.zero_le, *])
local macro_rules | `(tactic| walk_at "evo") => `(tactic| simp (maxSteps := 1000000) (disch := first | omega | assumption) only [sq_nil, ↓sq_cons, ↓seq_next, ↓seq_ret, ↓seq_exc, ↓bind_ok, ↓bind_exc, ↓out_ok, ↓out_exc, look_0, look_s, put_0, put_s, svOf_f, svOf_t, nmV_val, nmV_ownF, nmV_ownT, nmV_ro,
  deref_non, deref_bl, deref_int, deref_str, deref_tup, deref_lst, deref_dic, deref_obj, deref_fn, deref_scr, deref_0, deref_s, truth_bl, ofO_some, ofC_ok, ofC_exc, asVal_ok, asVal_exc, newV_f, newV_t,
  e_nm, e_cst, e_glob, e_bin, e_neg, e_not, e_and, e_or, e_ife, e_cmp, e_cmp2, e_tup, e_lst, e_dic, e_call, e_meth, e_make, e_blt, e_fldN, e_fldF, e_fldS, e_fldC, e_fldM, e_sub, e_slc, e_rev, e_lrg1, e_lrg2, e_isiN, e_isiS, es_nil, es_cons, bs_nil, bs_cons, ps_nil, ps_cons, o_none, o_some, c_none, c_some, i_of, i_enum, i_range1, i_range2,
  nx_some, asgT_nm, asgT_tup, asgTs_nil, asgTs_cons, putP_nil, putP_cons, killS_nil, killS_cons, chR_some, chN_some, chO_own, chg_ref, chg_lst, chg_dic, chg_obj, retN_own, retN_val, ↓tr_next, ↓tr_ret, ↓tr_exc, augN1_val, augN2_add, augN2_sub, onL_lst,
  s_asgN, s_asgT, s_asgP, s_setF, s_setI, s_augN, s_app, s_ext, s_ins, s_upd, s_expr, s_iff, s_ret0, s_retN, s_raise, s_try, s_pass, s_kill, r_cst, r_glob, r_bin, r_neg, r_not, r_and, r_or, r_ife, r_cmp, r_cmp2, r_tup, r_lst, r_dic, r_call, r_callv, r_meth, r_make, r_blt, r_fld, r_sub, r_slc, r_rev, r_lc, r_isi, r_lrg1, r_lrg2, r_fstr,
  b_add, b_sub, b_mulL, b_mulR, b_fdiv, b_mod, b_pow18, b_addS, b_addT, b_addL, c_eqI, c_neI, c_ltI, c_gtI, c_leI, c_geI, c_eqB, c_neB, c_isn, c_isnt, non_non, non_bl, non_int, non_str, non_tup, non_lst, non_dic, non_obj, negV_int,
  isi_non, isi_bl, isi_int, isi_str, isi_tup, isi_lst, isi_dic, isi_obj, isi0_val, isi0_own, isi0_ro, fld0_val, fld0_own, fld0_ro, fld0_exc, fldV_obj, fget_cons, fput_cons, fput_nil, setFD_obj, isKd, List.any_cons, List.any_nil, Bool.or_false, Bool.or_true, Bool.true_or, Bool.false_or, Bool.not_true, Bool.not_false, Bool.and_true, Bool.and_false, Bool.true_and, Bool.false_and, Bool.and_self, Bool.or_self,
  sub_T0, sub_T1, sub_T2, sub_T3, sub_T4, sub_L0, sub_L1, sub_L2, sub_L3, sub_L4, lenT, lenL, lenS, lenDi, lenSc, tupL, tupT, lstL, lstT, absI, intI, intB, min2I, max2I, raiseO_0, raiseO_1, raiseO_2, lcR_f, seqL, seqT, seqS, appD_lst, extD_lst, insD_lst, putI_L, lcT_eq, lcN_some, wipeS_nil, wipeS_cons, slotsT_nm, slotsT_tup, slotsTs_nil, slotsTs_cons, hide_un, hide_val, hide_own, hide_ro, hide_exc, c_eqS, c_neS, c_eqNN, c_eqLL, c_neLL, s_wh, s_for, e_lc, fin_next, fin_ret, fin_exc, forL_nil, hs_nil, hs_yesN, hs_yesS, hs_no, endX_nextS, endX_nextN, endX_ret, drop_un, drop_val, drop_own, drop_ro, drop_exc,
  List.map_cons, List.map_nil, List.length_cons, List.length_nil, Option.map_some, Option.bind_some, List.set_cons_zero, List.set_cons_succ, List.getElem?_cons_zero, List.getElem?_cons_succ, List.nil_append, List.cons_append,
  Nat.reduceAdd, Nat.reduceMul, Nat.reduceSub, Int.reduceNeg, Int.reduceAdd, Int.reduceSub, Int.reduceMul, Int.reduceDiv, Int.reduceMod, Int.reduceToNat, Int.reduceLT, Int.reduceLE, Int.reduceEq, Int.reduceNe, Nat.reduceLT, Nat.reduceLeDiff, Nat.reduceEqDiff, decide_true, decide_false, decide_eq_true_eq, decide_not, Bool.not_eq_true', decide_eq_false_iff_not, bne_self_eq_false, beq_self_eq_true, ↓reduceIte, if_true, if_false, Bool.false_eq_true, not_true_eq_false, not_false_eq_true, reduceCtorEq, Int.cast_ofNat_Int, Int.natCast_add, and_self, and_true, true_and, and_false, false_and, or_true, true_or, or_false, false_or, Int.ofNat_zero, Int.zero_add, Nat.zero_add, Nat.zero_le, *])

section
variable {rp : D → Option (List Nat)} {xs : List Int} {a b c d : Int} {w : Row}
theorem bad_fine : ∀ v ∈ bad10, D.fine 2 v := by
  intro v hv
  simp only [bad10, List.mem_cons, List.not_mem_nil, or_false] at hv
  rcases hv with e | e | e | e | e | e | e | e | e <;> subst e <;> first | trivial | (refine ⟨by decide, fun x hx => ?_⟩; simp only [List.mem_cons, List.not_mem_nil, or_false] at hx; rcases hx with e | e | e <;> subst e <;> trivial) | (refine ⟨by decide, fun x hx => ?_⟩; simp only [List.mem_cons, List.not_mem_nil, or_false] at hx; rcases hx with e | e <;> subst e <;> trivial) | (refine ⟨by decide, fun x hx => ?_⟩; simp only [List.mem_cons, List.not_mem_nil, or_false] at hx; subst hx; trivial)
theorem bad_loop (hrp : ∀ d ∈ bad10, ∃ r, rp d = some r) {mk : Nat → List D → Mem → CRes} {h : Mem} {v0 v1 v2 v3 v4 v5 : D} {v6 v7 : Fr} {v12 : D} {v8 v9 v10 v11 v13 v14 v15 : SV} (d8 : dropX v8 = v8) (d9 : dropX v9 = v9) (d10 : dropX v10 = v10) (d11 : dropX v11 = v11) (d13 : dropX v13 = v13) (d14 : dropX v14 = v14) (d15 : dropX v15 = v15) : ∀ {l : List D} {v16 : SV}, (∀ v ∈ l, v ∈ bad10) → ∃ v16',
    forL (.nm 16) (evalSs (exQ rp) (run (exQ rp) 9).1 mk none [
    .iff (.call 3 [(.nm 16)]) [.ret (some (.cst (.bl false)))] [],
    .try_ [
      .expr (.call 4 [(.nm 16)]),
      .ret (some (.cst (.bl false)))] [(1, some 17)] [[.iff (.cmp .ne (.blt .repr [(.fld (.nm 17) 0)]) (.blt .repr [(.nm 16)])) [.ret (some (.cst (.bl false)))] []]]])
      l ⟨[.val v0, .val v1, .val v2, .val v3, .val v4, .val v5, .val (frD v6), .val (frD v7), v8, v9, v10, v11, .val v12, v13, v14, v15, v16, .un, .un], h⟩ = .next ⟨[.val v0, .val v1, .val v2, .val v3, .val v4, .val v5, .val (frD v6), .val (frD v7), v8, v9, v10, v11, .val v12, v13, v14, v15, v16', .un, .un], h⟩
  | [], v16, _ => ⟨v16, rfl⟩
  | v :: l, v16, hl => by
    have hv := hl v List.mem_cons_self
    have f := isf_bad (rp := rp) (k := 7) (h := h) v hv
    have g := want_bad (rp := rp) (k := 6) (h := h) hv
    have hf := bad_fine v hv
    obtain ⟨r, hr⟩ := hrp v hv
    have hx : isX (exQ rp) 1 1 = some true := rfl
    have hlt : 1 < (exQ rp).excs.length := Nat.le_of_ble_eq_true rfl
    have hd : deref h v = v := by cases v <;> first | rfl | exact hf.elim
    have rr : runB (exQ rp).rp .repr [v] = some ⟨.str r, false⟩ := by
      show (if D.plain v then (rp v).map fun cs => (⟨.str cs, false⟩ : RV) else none) = _
      rw [if_pos (fine_pl 2 60 v (by omega) hf), hr]; rfl
    obtain ⟨q, e⟩ := bad_loop hrp (mk := mk) (h := h) (v0 := v0) (v1 := v1) (v2 := v2) (v3 := v3) (v4 := v4) (v5 := v5) (v6 := v6) (v7 := v7) (v8 := v8) (v9 := v9) (v10 := v10) (v11 := v11) (v12 := v12) (v13 := v13) (v14 := v14) (v15 := v15) d8 d9 d10 d11 d13 d14 d15 (l := l) (v16 := .val v) fun x hx => hl x (List.mem_cons_of_mem _ hx)
    refine ⟨q, ?_⟩
    rw [forL_cons]
    simp only [Nat.reduceAdd] at f g
    clear hrp hr hl
    walk_at "evo"
theorem want_lst {k : Nat} {p : Fr} {h : Mem} (hp : 0 < p.2 ∧ p.2 < 1073741824) (hr : red p.1 p.2 = p) : (run (exQ rp) (k + 3)).1 4 [.lst [.int p.1, .int p.2]] h = .ok (frD p) false h := by
  rw [run_fn rfl rfl]
  show fin (evalSs (exQ rp) _ _ none B4 ⟨[.val _], h⟩) = _
  unfold B4
  have f := isf_lst (rp := rp) (k := k) (a := p.1) (b := p.2) (h := h) hp
  rw [decide_eq_true hr] at f
  clear hr
  walk_at "ev"
  rfl
theorem law10 (hrp : ∀ d ∈ bad10, ∃ r, rp d = some r) (xs : List Int) : ∃ fr m, (run (exQ rp) 10).1 19 [.scr xs] [] = .ok (.bl true) fr m := by
  refine law_yes rfl rfl ?_
  show Yes (evalSs (exQ rp) _ _ none B19 ⟨[.val (.scr xs), .un, .un, .un, .un, .un, .un, .un, .un, .un, .un, .un, .un, .un, .un, .un, .un, .un, .un], []⟩)
  obtain ⟨a, b, c, d, w, ⟨ha, hb, hc, hd⟩, e1⟩ := stage1 (rp := rp) (mk := (run (exQ rp) 9).2) (xs := xs)
  rw [sq_split 3, e1, seq_next]
  rw [sq_split 3, stage2 ha hb hc hd, seq_next, List.drop_drop]
  obtain ⟨v9, v10, v11, v8, ⟨d9, d10, d11, d8⟩, e3⟩ := stage3 (rp := rp) (mk := (run (exQ rp) 9).2) (xs := xs) (w := w) ha hb hc hd
  rw [sq_split 4, e3, seq_next, List.drop_drop]
  have b0 : 0 < b := hb.1
  have d0 : 0 < d := hd.1
  have hx : 0 < (red a b).2 ∧ (red a b).2 ≤ 60 := ⟨red_pos b0, by have := red_le (a := a) b0; omega⟩
  have hy : 0 < (red c d).2 ∧ (red c d).2 ≤ 60 := ⟨red_pos d0, by have := red_le (a := c) d0; omega⟩
  have hrx := red_red (a := a) b0
  have hry := red_red (a := c) d0
  generalize red a b = x at *
  generalize red c d = y at *
  obtain ⟨ys, w', hl, hz, hrz, e4⟩ := stage4 (rp := rp) (mk := (run (exQ rp) 9).2) (xs := xs) (a := a) (b := b) (c := c) (d := d) (w := w) (x := x) (y := y) (v8 := v8) (v9 := v9) (v10 := v10) (v11 := v11) trivial
  rw [sq_split 1, e4, seq_next, List.drop_drop]
  obtain ⟨v13, v14, ⟨d13, d14⟩, e5⟩ := stage5 (rp := rp) (mk := (run (exQ rp) 9).2) (xs := xs) (a := a) (b := b) (c := c) (d := d) (w := w') (v8 := v8) (v9 := v9) (v10 := v10) (v11 := v11) hx hy hl hz
  rw [sq_split 2, e5, seq_next, List.drop_drop]
  have hr : ∀ z ∈ x :: y :: ys, red z.1 z.2 = z := fun z h => by
    rcases List.mem_cons.mp h with e | e
    · rw [e]; exact hrx
    · rcases List.mem_cons.mp e with e | e
      · rw [e]; exact hry
      · exact hrz z e
  obtain ⟨v9', v10', v15, ⟨d9', d10', d15⟩, e6⟩ := stage6 (rp := rp) (mk := (run (exQ rp) 9).2) (xs := xs) (a := a) (b := b) (c := c) (d := d) (w := w') (v8 := v8) (v9 := v9) (v10 := v10) (v11 := v11) (v13 := v13) (v14 := v14) hx hy hl hz hr
  rw [sq_split 4, e6, seq_next, List.drop_drop]
  simp only [B19, List.drop_succ_cons, List.drop_zero, Nat.reduceAdd, st10]
  obtain ⟨v16, el⟩ := bad_loop (rp := rp) hrp (mk := (run (exQ rp) 9).2) (h := [rowD w']) (v0 := .scr xs) (v1 := .ref 0) (v2 := .int a) (v3 := .int b) (v4 := .int c) (v5 := .int d) (v6 := x) (v7 := y) (v12 := .lst ((x :: y :: ys).map frD)) d8 d9' d10' d11 d13 d14 d15 (l := bad10) (v16 := .un) fun v h => h
  have hw := want_lst (rp := rp) (k := 6) (p := x) (h := [rowD w']) ⟨hx.1, by omega⟩ hrx
  have al := alike_same (P := exQ rp) (f := 16) rfl 2 6 (frD x) [rowD w'] fine_fr
  have hl : runB (exQ rp).rp .list [frD x] = some ⟨.lst [.int x.1, .int x.2], true⟩ := rfl
  have hd : deref [rowD w'] (frD x) = frD x := rfl
  simp only [Nat.reduceAdd] at al hw
  generalize x :: y :: ys = rows at *
  clear hrp hr hz hrz hry hrx
  unfold bad10 at el
  walk_at "ev"
  exact yes
end
end Ev.L
end

section
namespace Ev
open PySem
def exP : Prog := exQ rpD
def N0 : List PySem.Str := ["value"]
def N1 : List PySem.Str := ["value"]
def N2 : List PySem.Str := ["top", "bottom", "one", "other"]
def N3 : List PySem.Str := ["value"]
def N4 : List PySem.Str := ["value"]
def N5 : List PySem.Str := ["one", "other"]
def N6 : List PySem.Str := ["one", "other"]
def N7 : List PySem.Str := ["one", "other"]
def N8 : List PySem.Str := ["one", "other"]
def N9 : List PySem.Str := ["one", "other"]
def N10 : List PySem.Str := ["one"]
def N11 : List PySem.Str := ["one"]
def N12 : List PySem.Str := ["one"]
def N13 : List PySem.Str := ["rows", "found", "one"]
def N14 : List PySem.Str := ["rows", "row", "one", "first", "second", "place", "other"]
def N15 : List PySem.Str := ["row", "many", "cell", "found"]
def N16 : List PySem.Str := ["found", "due", "k"]
def N17 : List PySem.Str := ["found", "due"]
def N18 : List PySem.Str := ["top", "bottom", "here", "one"]
def N19 : List PySem.Str := ["script", "row", "a", "b", "c", "d", "one", "other", "wholes", "below", "above", "best", "rows", "whole", "part", "middle", "value", "e", "k"]
def exC : Cfg where
  fn := [(some "is_whole", 1), (some "is_row", 1), (some "reduced", 2), (some "is_fraction", 1), (some "want_fraction", 1), (some "plus", 2), (some "minus", 2), (some "times", 2), (some "over", 2), (some "is_less", 2), (some "floor_of", 1), (some "ceiling_of", 1), (some "nearest", 1), (some "total", 1), (some "median", 1), (some "_law_taken", 2), (some "_law_alike", 2), (some "_law_truth", 2), (some "_law_low", 2), (some "law", 1)]
  cl := []
  me := []
  fl := ["value"]
  ex := [("StallError", 0), ("BadNumber", 0)]
  gl := []
  kinds := [.int, .bool, .list, .tuple, .str]
abbrev exPw : PySem.Program := PySem.Challenge.pw_stallshift_k10_whole_fractions
theorem ck0 : defB exP exC N0 ["value"] 0 (topOf exPw 4) = true := by decide +kernel
theorem ck1 : defB exP exC N1 ["value"] 1 (topOf exPw 5) = true := by decide +kernel
theorem ck2 : defB exP exC N2 ["top", "bottom"] 2 (topOf exPw 7) = true := by decide +kernel
theorem ck3 : defB exP exC N3 ["value"] 3 (topOf exPw 8) = true := by decide +kernel
theorem ck4 : defB exP exC N4 ["value"] 4 (topOf exPw 9) = true := by decide +kernel
theorem ck5 : defB exP exC N5 ["one", "other"] 5 (topOf exPw 10) = true := by decide +kernel
theorem ck6 : defB exP exC N6 ["one", "other"] 6 (topOf exPw 11) = true := by decide +kernel
theorem ck7 : defB exP exC N7 ["one", "other"] 7 (topOf exPw 12) = true := by decide +kernel
theorem ck8 : defB exP exC N8 ["one", "other"] 8 (topOf exPw 13) = true := by decide +kernel
theorem ck9 : defB exP exC N9 ["one", "other"] 9 (topOf exPw 14) = true := by decide +kernel
theorem ck10 : defB exP exC N10 ["one"] 10 (topOf exPw 15) = true := by decide +kernel
theorem ck11 : defB exP exC N11 ["one"] 11 (topOf exPw 16) = true := by decide +kernel
theorem ck12 : defB exP exC N12 ["one"] 12 (topOf exPw 17) = true := by decide +kernel
theorem ck13 : defB exP exC N13 ["rows"] 13 (topOf exPw 18) = true := by decide +kernel
theorem ck14 : defB exP exC N14 ["rows"] 14 (topOf exPw 19) = true := by decide +kernel
theorem ck15 : defB exP exC N15 ["row", "many"] 15 (topOf exPw 21) = true := by decide +kernel
theorem ck16 : defB exP exC N16 ["found", "due"] 16 (topOf exPw 22) = true := by decide +kernel
theorem ck17 : defB exP exC N17 ["found", "due"] 17 (topOf exPw 23) = true := by decide +kernel
theorem ck18 : defB exP exC N18 ["top", "bottom"] 18 (topOf exPw 24) = true := by decide +kernel
theorem ck19 : defB exP exC N19 ["script"] 19 (topOf exPw 25) = true := by decide +kernel
def exT (K : PySem.W.Frag) : Tx where
  K := K
  ca := fun n => ([] : List Addr).getD n 0
  fa := fun n => ([55, 62, 69, 76, 83, 90, 97, 104, 111, 118, 125, 132, 139, 146, 151, 158, 163, 170, 177, 182] : List Addr).getD n 0
  xa := fun n => ([24, 46] : List Addr).getD n 0
  fld := flS exC.fl
  nf := exC.fl.length
open PySem.W L2
set_option maxHeartbeats 0 in
theorem all_ok {w : World} {K : PySem.W.Frag} {h : Heap} {mg : Str → Option Value} (KX : K.In h) (G : h.Ns mainGlobals mg)
    {oc0 kV0 doc0 pm0 cdv0 ct0 : Value} {od0 an0 : Option Addr} {osl0 : Array (Option Value)}
    {oc1 kV1 doc1 pm1 cdv1 ct1 : Value} {od1 an1 : Option Addr} {osl1 : Array (Option Value)}
    {oc2 kV2 doc2 pm2 cdv2 ct2 : Value} {od2 an2 : Option Addr} {osl2 : Array (Option Value)}
    {oc3 kV3 doc3 pm3 cdv3 ct3 : Value} {od3 an3 : Option Addr} {osl3 : Array (Option Value)}
    {oc4 kV4 doc4 pm4 cdv4 ct4 : Value} {od4 an4 : Option Addr} {osl4 : Array (Option Value)}
    {oc5 kV5 doc5 pm5 cdv5 ct5 : Value} {od5 an5 : Option Addr} {osl5 : Array (Option Value)}
    {oc6 kV6 doc6 pm6 cdv6 ct6 : Value} {od6 an6 : Option Addr} {osl6 : Array (Option Value)}
    {oc7 kV7 doc7 pm7 cdv7 ct7 : Value} {od7 an7 : Option Addr} {osl7 : Array (Option Value)}
    {oc8 kV8 doc8 pm8 cdv8 ct8 : Value} {od8 an8 : Option Addr} {osl8 : Array (Option Value)}
    {oc9 kV9 doc9 pm9 cdv9 ct9 : Value} {od9 an9 : Option Addr} {osl9 : Array (Option Value)}
    {oc10 kV10 doc10 pm10 cdv10 ct10 : Value} {od10 an10 : Option Addr} {osl10 : Array (Option Value)}
    {oc11 kV11 doc11 pm11 cdv11 ct11 : Value} {od11 an11 : Option Addr} {osl11 : Array (Option Value)}
    {oc12 kV12 doc12 pm12 cdv12 ct12 : Value} {od12 an12 : Option Addr} {osl12 : Array (Option Value)}
    {oc13 kV13 doc13 pm13 cdv13 ct13 : Value} {od13 an13 : Option Addr} {osl13 : Array (Option Value)}
    {oc14 kV14 doc14 pm14 cdv14 ct14 : Value} {od14 an14 : Option Addr} {osl14 : Array (Option Value)}
    {oc15 kV15 doc15 pm15 cdv15 ct15 : Value} {od15 an15 : Option Addr} {osl15 : Array (Option Value)}
    {oc16 kV16 doc16 pm16 cdv16 ct16 : Value} {od16 an16 : Option Addr} {osl16 : Array (Option Value)}
    {oc17 kV17 doc17 pm17 cdv17 ct17 : Value} {od17 an17 : Option Addr} {osl17 : Array (Option Value)}
    {oc18 kV18 doc18 pm18 cdv18 ct18 : Value} {od18 an18 : Option Addr} {osl18 : Array (Option Value)}
    {oc19 kV19 doc19 pm19 cdv19 ct19 : Value} {od19 an19 : Option Addr} {osl19 : Array (Option Value)}
    {xN1 : Addr} {xnm1 xq1 : Str} {xbs1 xbm1 xsub1 : List Value} {xsn1 : List Str} {xab1 : Bool} {xcol1 : Option Bool} {xdd1 xod1 xan1 : Option Addr} {xa1 xb1 xc1 xd1 xe1 : Option Value} {xoc1 xkV1 xdoc1 xpm1 xcdv1 xct1 : Value} {xcc1 : Addr} {xosl1 : Array (Option Value)}
    (l0 : K.lookup 55 = some ⟨oc0, od0, .func (fnOf "is_whole" "is_whole" (defArgs (topOf exPw 4)) (defBody (topOf exPw 4)) (defScope (topOf exPw 4)) .none kV0 doc0 pm0 an0 cdv0 ct0), osl0⟩) (c0 : codeIn K cdv0 "is_whole" = true)
    (l1 : K.lookup 62 = some ⟨oc1, od1, .func (fnOf "is_row" "is_row" (defArgs (topOf exPw 5)) (defBody (topOf exPw 5)) (defScope (topOf exPw 5)) .none kV1 doc1 pm1 an1 cdv1 ct1), osl1⟩) (c1 : codeIn K cdv1 "is_row" = true)
    (l2 : K.lookup 69 = some ⟨oc2, od2, .func (fnOf "reduced" "reduced" (defArgs (topOf exPw 7)) (defBody (topOf exPw 7)) (defScope (topOf exPw 7)) .none kV2 doc2 pm2 an2 cdv2 ct2), osl2⟩) (c2 : codeIn K cdv2 "reduced" = true)
    (l3 : K.lookup 76 = some ⟨oc3, od3, .func (fnOf "is_fraction" "is_fraction" (defArgs (topOf exPw 8)) (defBody (topOf exPw 8)) (defScope (topOf exPw 8)) .none kV3 doc3 pm3 an3 cdv3 ct3), osl3⟩) (c3 : codeIn K cdv3 "is_fraction" = true)
    (l4 : K.lookup 83 = some ⟨oc4, od4, .func (fnOf "want_fraction" "want_fraction" (defArgs (topOf exPw 9)) (defBody (topOf exPw 9)) (defScope (topOf exPw 9)) .none kV4 doc4 pm4 an4 cdv4 ct4), osl4⟩) (c4 : codeIn K cdv4 "want_fraction" = true)
    (l5 : K.lookup 90 = some ⟨oc5, od5, .func (fnOf "plus" "plus" (defArgs (topOf exPw 10)) (defBody (topOf exPw 10)) (defScope (topOf exPw 10)) .none kV5 doc5 pm5 an5 cdv5 ct5), osl5⟩) (c5 : codeIn K cdv5 "plus" = true)
    (l6 : K.lookup 97 = some ⟨oc6, od6, .func (fnOf "minus" "minus" (defArgs (topOf exPw 11)) (defBody (topOf exPw 11)) (defScope (topOf exPw 11)) .none kV6 doc6 pm6 an6 cdv6 ct6), osl6⟩) (c6 : codeIn K cdv6 "minus" = true)
    (l7 : K.lookup 104 = some ⟨oc7, od7, .func (fnOf "times" "times" (defArgs (topOf exPw 12)) (defBody (topOf exPw 12)) (defScope (topOf exPw 12)) .none kV7 doc7 pm7 an7 cdv7 ct7), osl7⟩) (c7 : codeIn K cdv7 "times" = true)
    (l8 : K.lookup 111 = some ⟨oc8, od8, .func (fnOf "over" "over" (defArgs (topOf exPw 13)) (defBody (topOf exPw 13)) (defScope (topOf exPw 13)) .none kV8 doc8 pm8 an8 cdv8 ct8), osl8⟩) (c8 : codeIn K cdv8 "over" = true)
    (l9 : K.lookup 118 = some ⟨oc9, od9, .func (fnOf "is_less" "is_less" (defArgs (topOf exPw 14)) (defBody (topOf exPw 14)) (defScope (topOf exPw 14)) .none kV9 doc9 pm9 an9 cdv9 ct9), osl9⟩) (c9 : codeIn K cdv9 "is_less" = true)
    (l10 : K.lookup 125 = some ⟨oc10, od10, .func (fnOf "floor_of" "floor_of" (defArgs (topOf exPw 15)) (defBody (topOf exPw 15)) (defScope (topOf exPw 15)) .none kV10 doc10 pm10 an10 cdv10 ct10), osl10⟩) (c10 : codeIn K cdv10 "floor_of" = true)
    (l11 : K.lookup 132 = some ⟨oc11, od11, .func (fnOf "ceiling_of" "ceiling_of" (defArgs (topOf exPw 16)) (defBody (topOf exPw 16)) (defScope (topOf exPw 16)) .none kV11 doc11 pm11 an11 cdv11 ct11), osl11⟩) (c11 : codeIn K cdv11 "ceiling_of" = true)
    (l12 : K.lookup 139 = some ⟨oc12, od12, .func (fnOf "nearest" "nearest" (defArgs (topOf exPw 17)) (defBody (topOf exPw 17)) (defScope (topOf exPw 17)) .none kV12 doc12 pm12 an12 cdv12 ct12), osl12⟩) (c12 : codeIn K cdv12 "nearest" = true)
    (l13 : K.lookup 146 = some ⟨oc13, od13, .func (fnOf "total" "total" (defArgs (topOf exPw 18)) (defBody (topOf exPw 18)) (defScope (topOf exPw 18)) .none kV13 doc13 pm13 an13 cdv13 ct13), osl13⟩) (c13 : codeIn K cdv13 "total" = true)
    (l14 : K.lookup 151 = some ⟨oc14, od14, .func (fnOf "median" "median" (defArgs (topOf exPw 19)) (defBody (topOf exPw 19)) (defScope (topOf exPw 19)) .none kV14 doc14 pm14 an14 cdv14 ct14), osl14⟩) (c14 : codeIn K cdv14 "median" = true)
    (l15 : K.lookup 158 = some ⟨oc15, od15, .func (fnOf "_law_taken" "_law_taken" (defArgs (topOf exPw 21)) (defBody (topOf exPw 21)) (defScope (topOf exPw 21)) .none kV15 doc15 pm15 an15 cdv15 ct15), osl15⟩) (c15 : codeIn K cdv15 "_law_taken" = true)
    (l16 : K.lookup 163 = some ⟨oc16, od16, .func (fnOf "_law_alike" "_law_alike" (defArgs (topOf exPw 22)) (defBody (topOf exPw 22)) (defScope (topOf exPw 22)) .none kV16 doc16 pm16 an16 cdv16 ct16), osl16⟩) (c16 : codeIn K cdv16 "_law_alike" = true)
    (l17 : K.lookup 170 = some ⟨oc17, od17, .func (fnOf "_law_truth" "_law_truth" (defArgs (topOf exPw 23)) (defBody (topOf exPw 23)) (defScope (topOf exPw 23)) .none kV17 doc17 pm17 an17 cdv17 ct17), osl17⟩) (c17 : codeIn K cdv17 "_law_truth" = true)
    (l18 : K.lookup 177 = some ⟨oc18, od18, .func (fnOf "_law_low" "_law_low" (defArgs (topOf exPw 24)) (defBody (topOf exPw 24)) (defScope (topOf exPw 24)) .none kV18 doc18 pm18 an18 cdv18 ct18), osl18⟩) (c18 : codeIn K cdv18 "_law_low" = true)
    (l19 : K.lookup 182 = some ⟨oc19, od19, .func (fnOf "law" "law" (defArgs (topOf exPw 25)) (defBody (topOf exPw 25)) (defScope (topOf exPw 25)) .none kV19 doc19 pm19 an19 cdv19 ct19), osl19⟩) (c19 : codeIn K cdv19 "law" = true)
    (x1 : K.lookup 46 = some (excClassObj xnm1 xq1 46 xN1 xbs1 xbm1 true xsn1 xsub1 xab1 xcol1 xdd1 xa1 xb1 xc1 xd1 xe1 "ValueError.__new__"))
    (xl1 : K.lookup 43 = some ⟨xoc1, xod1, .func (ksFn "__init__" "BadNumber.__init__" (defArgs (subOf exPw 2 0)) (defBody (subOf exPw 2 0)) (defScope (subOf exPw 2 0)) .none xkV1 xdoc1 xpm1 xan1 xcdv1 xct1 xcc1), xosl1⟩)
    (xB1 : exc1B exPw K 46 43 xcc1 xcdv1 xbm1 "BadNumber.__init__" (defScope (subOf exPw 2 0)) "self" "value" "value" = true)
    (B : statB K exP exC (exT K) = true) :
    (∀ f nm n, exC.fn[f]? = some (nm, n) → ∃ fd ps, ps.length = n ∧ DefR K (exT K) exP exC f fd ps) ∧ ∀ base : Heap, Stat exPw w K mg base (exT K) exP exC := by
  have d0 : ∃ fd ps, ps.length = 1 ∧ DefR K (exT K) exP exC 0 fd ps := defR_of ck0 rfl rfl l0 c0 fun us hl => match us, hl with | [_], _ => rfl
  have d1 : ∃ fd ps, ps.length = 1 ∧ DefR K (exT K) exP exC 1 fd ps := defR_of ck1 rfl rfl l1 c1 fun us hl => match us, hl with | [_], _ => rfl
  have d2 : ∃ fd ps, ps.length = 2 ∧ DefR K (exT K) exP exC 2 fd ps := defR_of ck2 rfl rfl l2 c2 fun us hl => match us, hl with | [_, _], _ => rfl
  have d3 : ∃ fd ps, ps.length = 1 ∧ DefR K (exT K) exP exC 3 fd ps := defR_of ck3 rfl rfl l3 c3 fun us hl => match us, hl with | [_], _ => rfl
  have d4 : ∃ fd ps, ps.length = 1 ∧ DefR K (exT K) exP exC 4 fd ps := defR_of ck4 rfl rfl l4 c4 fun us hl => match us, hl with | [_], _ => rfl
  have d5 : ∃ fd ps, ps.length = 2 ∧ DefR K (exT K) exP exC 5 fd ps := defR_of ck5 rfl rfl l5 c5 fun us hl => match us, hl with | [_, _], _ => rfl
  have d6 : ∃ fd ps, ps.length = 2 ∧ DefR K (exT K) exP exC 6 fd ps := defR_of ck6 rfl rfl l6 c6 fun us hl => match us, hl with | [_, _], _ => rfl
  have d7 : ∃ fd ps, ps.length = 2 ∧ DefR K (exT K) exP exC 7 fd ps := defR_of ck7 rfl rfl l7 c7 fun us hl => match us, hl with | [_, _], _ => rfl
  have d8 : ∃ fd ps, ps.length = 2 ∧ DefR K (exT K) exP exC 8 fd ps := defR_of ck8 rfl rfl l8 c8 fun us hl => match us, hl with | [_, _], _ => rfl
  have d9 : ∃ fd ps, ps.length = 2 ∧ DefR K (exT K) exP exC 9 fd ps := defR_of ck9 rfl rfl l9 c9 fun us hl => match us, hl with | [_, _], _ => rfl
  have d10 : ∃ fd ps, ps.length = 1 ∧ DefR K (exT K) exP exC 10 fd ps := defR_of ck10 rfl rfl l10 c10 fun us hl => match us, hl with | [_], _ => rfl
  have d11 : ∃ fd ps, ps.length = 1 ∧ DefR K (exT K) exP exC 11 fd ps := defR_of ck11 rfl rfl l11 c11 fun us hl => match us, hl with | [_], _ => rfl
  have d12 : ∃ fd ps, ps.length = 1 ∧ DefR K (exT K) exP exC 12 fd ps := defR_of ck12 rfl rfl l12 c12 fun us hl => match us, hl with | [_], _ => rfl
  have d13 : ∃ fd ps, ps.length = 1 ∧ DefR K (exT K) exP exC 13 fd ps := defR_of ck13 rfl rfl l13 c13 fun us hl => match us, hl with | [_], _ => rfl
  have d14 : ∃ fd ps, ps.length = 1 ∧ DefR K (exT K) exP exC 14 fd ps := defR_of ck14 rfl rfl l14 c14 fun us hl => match us, hl with | [_], _ => rfl
  have d15 : ∃ fd ps, ps.length = 2 ∧ DefR K (exT K) exP exC 15 fd ps := defR_of ck15 rfl rfl l15 c15 fun us hl => match us, hl with | [_, _], _ => rfl
  have d16 : ∃ fd ps, ps.length = 2 ∧ DefR K (exT K) exP exC 16 fd ps := defR_of ck16 rfl rfl l16 c16 fun us hl => match us, hl with | [_, _], _ => rfl
  have d17 : ∃ fd ps, ps.length = 2 ∧ DefR K (exT K) exP exC 17 fd ps := defR_of ck17 rfl rfl l17 c17 fun us hl => match us, hl with | [_, _], _ => rfl
  have d18 : ∃ fd ps, ps.length = 2 ∧ DefR K (exT K) exP exC 18 fd ps := defR_of ck18 rfl rfl l18 c18 fun us hl => match us, hl with | [_, _], _ => rfl
  have d19 : ∃ fd ps, ps.length = 1 ∧ DefR K (exT K) exP exC 19 fd ps := defR_of ck19 rfl rfl l19 c19 fun us hl => match us, hl with | [_], _ => rfl
  have X1 : ∀ base : Heap, ExcR1 exPw w K mg base (exT K) 1 0 := fun base => excR1_of (st := subOf exPw 2 0) KX G rfl rfl x1 xl1 rfl rfl rfl rfl (fun us hl => match us, hl with | [_, _], _ => rfl) xB1
  have D : AllD (fun f (y : Option Str × Nat) => ∃ fd ps, ps.length = y.2 ∧ DefR K (exT K) exP exC f fd ps) 0 exC.fn := (.cons d0 (.cons d1 (.cons d2 (.cons d3 (.cons d4 (.cons d5 (.cons d6 (.cons d7 (.cons d8 (.cons d9 (.cons d10 (.cons d11 (.cons d12 (.cons d13 (.cons d14 (.cons d15 (.cons d16 (.cons d17 (.cons d18 (.cons d19 .nil))))))))))))))))))))
  have E : ∀ base : Heap, AllD (fun c (z : Str × Nat) => ∀ y : List Nat × List Nat, exP.excs[c]? = some y → y.1 = [z.2] → ExcR1 exPw w K mg base (exT K) c z.2) 0 exC.ex := fun base => (.cons (fun y e2 e3 => by cases e2; cases e3) (.cons (fun y _ _ => X1 base) .nil))
  refine ⟨fun f nm n e => ?_, fun base => stat_of KX G rfl rfl rfl rfl B fun c x f y e1 e2 e3 => ?_⟩
  · have := D.at e; rw [Nat.zero_add] at this; exact this
  · have := (E base).at e1; rw [Nat.zero_add] at this; exact this y e2 e3
end Ev
end

section
namespace Ev
theorem law_ok : ∀ ns : List Int, ns.length ≤ 63 → ∃ fr m, (run exP 10).1 19 [.scr ns] [] = .ok (.bl true) fr m := fun ns _ =>
  L.law10 (by
    have : ∀ d ∈ L.bad10, (rpD d).isSome = true := by decide +kernel
    intro d hd
    exact Option.isSome_iff_exists.mp (this d hd)) ns
end Ev
end

open L2
open PySem PySem.W PyProof.Rows
set_option maxRecDepth 100000 in
set_option maxHeartbeats 0 in
theorem PySem.Challenge.cw_stallshift_k10_whole_fractions_holds : PySem.Challenge.rw_stallshift_k10_whole_fractions.Holds := by
  w_on; o_law; k_head; (case hw => w_witness2)
  k_fill
  refine Ev.walk_ofG (l := PySem.Challenge.rw_stallshift_k10_whole_fractions) (n := 63) (f := 19) (dp := 10) (T := fun p => Ev.exT _) (P := Ev.exP) (C := Ev.exC) rfl (by decide) rfl ⟨rfl, by decide, by decide⟩ (fun w h Y => PySem.W.kIn_of Y) (fun _ => rfl) rfl ?F Ev.law_ok
  case F =>
    intro w mg h KX G
    refine' Ev.all_ok KX G ?l0 ?c0 ?l1 ?c1 ?l2 ?c2 ?l3 ?c3 ?l4 ?c4 ?l5 ?c5 ?l6 ?c6 ?l7 ?c7 ?l8 ?c8 ?l9 ?c9 ?l10 ?c10 ?l11 ?c11 ?l12 ?c12 ?l13 ?c13 ?l14 ?c14 ?l15 ?c15 ?l16 ?c16 ?l17 ?c17 ?l18 ?c18 ?l19 ?c19 ?x1 ?xl1 ?xB1 ?B
    case l0 => k_is
    case c0 => k_is
    case l1 => k_is
    case c1 => k_is
    case l2 => k_is
    case c2 => k_is
    case l3 => k_is
    case c3 => k_is
    case l4 => k_is
    case c4 => k_is
    case l5 => k_is
    case c5 => k_is
    case l6 => k_is
    case c6 => k_is
    case l7 => k_is
    case c7 => k_is
    case l8 => k_is
    case c8 => k_is
    case l9 => k_is
    case c9 => k_is
    case l10 => k_is
    case c10 => k_is
    case l11 => k_is
    case c11 => k_is
    case l12 => k_is
    case c12 => k_is
    case l13 => k_is
    case c13 => k_is
    case l14 => k_is
    case c14 => k_is
    case l15 => k_is
    case c15 => k_is
    case l16 => k_is
    case c16 => k_is
    case l17 => k_is
    case c17 => k_is
    case l18 => k_is
    case c18 => k_is
    case l19 => k_is
    case c19 => k_is
    case x1 => k_is
    case xl1 => k_is
    case xB1 => kernel_rfl
    case B => kernel_rfl
